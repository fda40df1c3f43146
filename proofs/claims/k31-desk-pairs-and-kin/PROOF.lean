import PyProof.Rows.All
import Wide.All
import OpenK.AllK
import Wide.FinOn
import HandS.ForMost
import HandS.Wide
import HandS.IsInst
import HandS.SortInts
import HandS.TupAny
import HandS.WideBits
import HandS.Evl
import KE.KItemsList
import KE.KDictList
import KE.KDictPairs
import HandS.Conv
import HandS.Sort
import HandS.More
import HandS.SetFor
import HandS.Style
import HandS.SortOrd
import HandS.SortRule
import HandS.Walk
import HandS.Zip
import HandS.TryOnly
import HandS.Deep
import HandS.Text
import PyProof.Rows.StrOr
import HandS.Set
import HandS.Dict
import HandS.FStr
import PyProof.Rows.Digits
import PyProof.FString
import PySem.Challenge.RW_powernumbers_k31_desk_pairs_and_kin
set_option Elab.async false
set_option linter.all false
set_option maxRecDepth 100000
namespace Pn
open PySem PySem.Spec PyProof.Rows L2
/-! ### a def that stands in the module, with its promise -/
structure Fn (P : Program) (w : World) (K : PySem.W.Frag) (mg : PySem.Str → Option Value) (base : Heap) (CX : CXT) (k : Nat) (x : PySem.Str) (ps : List PySem.Str) (sp : Sp) : Prop where
  ex : ∃ (f : Addr) (fd : FuncData), mg x = some (.ref f) ∧ PySem.W.keepIn K (.ref f) = true ∧ Binds K fd ps [] ∧ FnOk P w K mg base CX k f fd ps sp
def tFn (sp : Sp) (E : XK) (t : TA) : TE := fun σ H Q => t σ H fun vs H1 => sp vs H1 Q E
section
variable {X : Cx} {CX : CXT} {k : Nat} {x : PySem.Str} {ps : List PySem.Str} {sp : Sp} {E : XK} {t : TA} {e : Expr} {es : List Expr} {p pos : Pos}
theorem pe_fnX (h : Fn X.prog X.w X.K X.mg X.base CX k x ps sp) (hr : Room k X.A) (hg : Gl X x) (hx : Passes CX X E) (ha : PA X (e :: es) t) (hdb : (x == ("__debug__" : PySem.Str)) = false := by decide)
    (he : starEach (e :: es) X.env = (false, eval e X.env) :: starEach es X.env := by rfl) (hpl : (backTo pos (starEach es X.env)).any (·.1) = false := by rfl) :
    PE X (.Call (.Name x p) (e :: es) [] pos) (tFn sp E t) := by
  obtain ⟨f, fd, hm, hk, hb, F⟩ := h.ex
  have g := pe_call (p := p) (pos := pos) F hr hg hm hk hb .nil hx ha hdb he hpl
  have e1 : tCall sp [] E t = tFn sp E t := by
    unfold tCall tFn
    simp only [List.append_nil]
  rw [← e1]
  exact g
theorem pe_fn (h : Fn X.prog X.w X.K X.mg X.base CX0 k x ps sp) (hr : Room k X.A) (hg : Gl X x) (ha : PA X (e :: es) t) (hdb : (x == ("__debug__" : PySem.Str)) = false := by decide)
    (he : starEach (e :: es) X.env = (false, eval e X.env) :: starEach es X.env := by rfl) (hpl : (backTo pos (starEach es X.env)).any (·.1) = false := by rfl) :
    PE X (.Call (.Name x p) (e :: es) [] pos) (tFn sp E0 t) := pe_fnX h hr hg pass0 ha hdb he hpl
end
/-- a promise of nothing -/
theorem ps_void {X : Cx} {st : Stmt} : PS X st (fun _ _ _ => False) := ⟨fun _ _ _ _ _ _ h => h.elim⟩
theorem fn_vac {P : Program} {w : World} {K : PySem.W.Frag} {mg : PySem.Str → Option Value} {base : Heap} {CX : CXT} {k : Nat} {f : Addr} {fd : FuncData} {ps : List PySem.Str} {sp : Sp} (h : ∀ vs H Q E, ¬ sp vs H Q E) : FnOk P w K mg base CX k f fd ps sp :=
  ⟨fun vs H Q E q => (h vs H Q E q).elim, fun _ _ _ _ _ _ _ _ _ _ _ _ _ q => (h _ _ _ _ q).elim⟩
/-! ### rules by values, the written part named (in a comprehension's block X is another one) -/
def rLen (K : PySem.W.Frag) : List V → Hp → VK → Prop := fun xs H Q => ∃ p ys, xs = [.ref p] ∧ (SqL K H p ys ∨ SqT K H p ys) ∧ Q (.int ys.length) H
def rListO (K : PySem.W.Frag) : List V → Hp → VK → Prop := fun xs H Q => ∃ p ys, xs = [.ref p] ∧ (SqL K H p ys ∨ SqT K H p ys) ∧ ∀ l, H l = none → Q (.ref l) (upd H l (.lst ys))
def rTupO (K : PySem.W.Frag) : List V → Hp → VK → Prop := fun xs H Q => ∃ p ys, xs = [.ref p] ∧ ((SqL K H p ys ∧ ∀ l, H l = none → Q (.ref l) (upd H l (.tup ys))) ∨ (SqT K H p ys ∧ Q (.ref p) H))
section
variable {X : Cx} (K : PySem.W.Frag)
theorem k_len (h : X.K = K := by rfl) : CallR X (.builtin "len") (rLen K) := by subst h; exact call_len_seq
theorem k_isi (h : X.K = K := by rfl) : CallR X (.builtin "isinstance") (rIsi K) := by subst h; exact call_isi
theorem k_sum (h : X.K = K := by rfl) (hc : X.calm = true := by rfl) : CallR X (.builtin "sum") (rSum K) := by subst h; exact cr_sum hc
theorem k_min (h : X.K = K := by rfl) (hc : X.calm = true := by rfl) : CallR X (.builtin "min") (rMin K) := by subst h; exact cr_min hc
theorem k_max (h : X.K = K := by rfl) (hc : X.calm = true := by rfl) : CallR X (.builtin "max") (rMax K) := by subst h; exact cr_max hc
theorem k_sorted (h : X.K = K := by rfl) : CallR X (.builtin "sorted") (rSortedI K) := by subst h; exact cr_sortedI
theorem k_list (h : X.K = K := by rfl) : CallR X (.type "list") (rListO K) := by subst h; exact call_list_of
theorem k_tuple (h : X.K = K := by rfl) : CallR X (.type "tuple") (rTupO K) := by subst h; exact call_tuple_of
theorem k_ixL (h : X.K = K := by rfl) : IxR X (rIxL K) := by subst h; exact ix_list
theorem k_ixT (h : X.K = K := by rfl) : IxR X (rIxT K) := by subst h; exact ix_tup
theorem k_slL (h : X.K = K := by rfl) : SlR X (rSlL K) := by subst h; exact sl_list
theorem k_eqD (h : X.K = K := by rfl) (hu : X.A.units + 64 < cLine) : OpR X (compareOp .Eq) (rEqD K) := by subst h; exact op_eqD hu
theorem k_neD (h : X.K = K := by rfl) (hu : X.A.units + 64 < cLine) : OpR X (compareOp .NotEq) (rNeD K) := by subst h; exact op_neD hu
theorem k_in (h : X.K = K := by rfl) : OpR X (compareOp .In) (rIn K false) := by subst h; exact op_in_seq
theorem k_notIn (h : X.K = K := by rfl) : OpR X (compareOp .NotIn) (rIn K true) := by subst h; exact op_notIn_seq
theorem k_catT (h : X.K = K := by rfl) : OpR X (binaryOp .Add) (rCatA K) := by subst h; exact op_catA
def tTru (K : PySem.W.Frag) (ta : TE) : TT := fun σ H Q => ta σ H fun x H' => ∃ k, TruV K x H' k ∧ Q k H'
theorem pt_tru {a : Expr} {ta : TE} (ha : PE X a ta) (he : ∀ whole, isTrue a X.env whole = (do let v ← whole; standAt a.pos; holding [v] (truthy v)) := by intro _; rfl) (h : X.K = K := by rfl) : PT X a (tTru K ta) := by subst h; exact pt_truth ha he
end
/-! ### readings, applied -/
section
variable {σ : L2.St} {H : Hp} {Q : VK} {QT : Bool → Hp → Prop} {QA : List V → Hp → Prop} {K : PySem.W.Frag} {ta tb te : TE} {t u : TT} {tr : TA} {D : Ends} {s1 s2 : TS} {x y v : V}
theorem w_var {i : Nat} : tVar i σ H Q = ∃ v, σ[i]? = some (some v) ∧ Q v H := rfl
theorem w_c : tC v σ H Q = Q v H := rfl
theorem w_op {r : R2} : tOp r ta tb σ H Q = ta σ H fun x H1 => tb σ H1 fun y H2 => r x y H2 Q := rfl
theorem w_I0 {g : Int → Int → V} : rI0 g x y H Q = ∃ i j, x = .int i ∧ y = .int j ∧ Q (g i j) H := rfl
theorem w_I {C : Int → Int → Prop} {g : Int → Int → V} : rI C g x y H Q = ∃ i j, x = .int i ∧ y = .int j ∧ C i j ∧ Q (g i j) H := rfl
theorem w_un {r : V → Hp → VK → Prop} : tUn r ta σ H Q = ta σ H fun x H1 => r x H1 Q := rfl
theorem w_U {g : Int → V} : rU g x H Q = ∃ i, x = .int i ∧ Q (g i) H := rfl
theorem w_eq : rEq x y H Q = (scal x y = true ∧ Q (.bl (decide (x = y))) H) := rfl
theorem w_ne : rNe x y H Q = (scal x y = true ∧ Q (.bl (!decide (x = y))) H) := rfl
theorem w_test : tTest ta σ H QT = ta σ H fun x H1 => ∃ k, x = .bl k ∧ QT k H1 := rfl
theorem w_B : tB ta σ H QT = ta σ H fun x H1 => ∃ k, x = .bl k ∧ QT k H1 := rfl
theorem w_and : tAnd t u σ H QT = t σ H fun c H1 => if c = true then u σ H1 QT else QT false H1 := rfl
theorem w_or : tOr t u σ H QT = t σ H fun c H1 => if c = true then QT true H1 else u σ H1 QT := rfl
theorem w_not : tNot t σ H QT = t σ H fun c H1 => QT (!c) H1 := rfl
theorem w_andV : tAndV ta tb σ H Q = ta σ H fun x H1 => ∃ c, x = .bl c ∧ if c = true then tb σ H1 Q else Q (.bl false) H1 := rfl
theorem w_orV : tOrV ta tb σ H Q = ta σ H fun x H1 => ∃ c, x = .bl c ∧ if c = true then Q (.bl true) H1 else tb σ H1 Q := rfl
theorem w_notV : tNotV ta σ H Q = ta σ H fun x H1 => ∃ c, x = .bl c ∧ Q (.bl (!c)) H1 := rfl
theorem w_ife : tIf t ta tb σ H Q = t σ H fun c H1 => if c = true then ta σ H1 Q else tb σ H1 Q := rfl
theorem w_nil : tNil σ H QA = QA [] H := rfl
theorem w_cons : tCons ta tr σ H QA = ta σ H fun x H1 => tr σ H1 fun xs H2 => QA (x :: xs) H2 := rfl
theorem w_fn {sp : Sp} {E : XK} : tFn sp E tr σ H Q = tr σ H fun vs H1 => sp vs H1 Q E := rfl
theorem w_cb {r : List V → Hp → VK → Prop} : tCB r tr σ H Q = tr σ H fun vs H1 => r vs H1 Q := rfl
theorem w_tup : tTup tr σ H Q = tr σ H fun xs H1 => xs.length ≤ sizeLine ∧ ∀ p, H1 p = none → Q (.ref p) (upd H1 p (.tup xs)) := rfl
theorem w_lst : tLst tr σ H Q = tr σ H fun xs H1 => xs.length ≤ sizeLine ∧ ∀ p, H1 p = none → Q (.ref p) (upd H1 p (.lst xs)) := rfl
theorem w_seq : tSeq s1 s2 D σ H = s1 { D with nx := s2 D } σ H := rfl
theorem w_next : tNext D σ H = D.nx σ H := rfl
theorem w_brk : tBreak D σ H = D.bk σ H := rfl
theorem w_ct : tCont D σ H = D.ct σ H := rfl
theorem w_drop : tDrop te D σ H = te σ H fun _ H1 => D.nx σ H1 := rfl
theorem w_ret : tRet te D σ H = te σ H D.rt := rfl
theorem w_retN : tRetN D σ H = D.rt .non H := rfl
theorem w_ifS : tIfS t s1 s2 D σ H = t σ H fun b H1 => if b = true then s1 D σ H1 else s2 D σ H1 := rfl
theorem w_asgN {i : Nat} : tAsg te (gName i) D σ H = te σ H fun x H1 => D.nx (σ.set i (some x)) H1 := rfl
theorem w_asgT {n : Nat} {t : TGs} : tAsg te (gTup K n t) D σ H = te σ H fun v H1 => ∃ a xs, v = .ref a ∧ SqT K H1 a xs ∧ xs.length = n ∧ t xs σ H1 D.nx := rfl
theorem w_asgS {to ti : TE} {ts : TSet} : tAsg te (gSub to ti ts) D σ H = te σ H fun v H1 => to σ H1 fun o H2 => ti σ H2 fun i H3 => ts o i v H3 fun H4 => D.nx σ H4 := rfl
theorem w_gName {i : Nat} {QN : L2.St → Hp → Prop} : gName i v σ H QN = QN (σ.set i (some v)) H := rfl
theorem w_gNil {vs : List V} {QN : L2.St → Hp → Prop} : gNil vs σ H QN = (vs = [] ∧ QN σ H) := rfl
theorem w_gCons {g : TG} {gs : TGs} {vs : List V} {QN : L2.St → Hp → Prop} : gCons g gs vs σ H QN = ∃ v r, vs = v :: r ∧ g v σ H fun σ' H' => gs r σ' H' QN := rfl
theorem w_par {i j : Nat} : tPar i j tr D σ H = tr σ H fun vs H1 => ∃ v w, vs = [v, w] ∧ D.nx ((σ.set i (some v)).set j (some w)) H1 := rfl
theorem w_bits : tBits te σ H Q = te σ H fun x H1 => ∃ i, x = .int i ∧ Q (.int (Builtin.Int.intBits i : Nat)) H1 := rfl
theorem w_sl {r : V → Option Int → Option Int → Hp → VK → Prop} {tl th : TO} : tSl r te tl th σ H Q = te σ H fun x H1 => tl σ H1 fun l H2 => th σ H2 fun u H3 => r x l u H3 Q := rfl
theorem w_np {QO : Option Int → Hp → Prop} : tNoPart σ H QO = QO none H := rfl
theorem w_part {QO : Option Int → Hp → Prop} : tPart te σ H QO = te σ H fun x H1 => ∃ i, x = .int i ∧ QO (some i) H1 := rfl
theorem w_bm {T : String} {r : V → List V → Hp → VK → Prop} : tBM K T r te tr σ H Q = te σ H fun x H1 => tyV K T x H1 ∧ tr σ H1 fun xs H2 => r x xs H2 Q := rfl
theorem w_bm0 {T : String} {r : V → List V → Hp → VK → Prop} : tBM0 K T r te σ H Q = te σ H fun x H1 => tyV K T x H1 ∧ r x [] H1 Q := rfl
theorem w_cxK {CX : CXT} {P : Program} {w : World} {mg : PySem.Str → Option Value} {base : Heap} {N : List PySem.Str} {qual : PySem.Str} {scope : Scope} {f : Addr} {cd : Value} {A : Around} {outer : List Env} {s : Shared} {E : XK} : (cxOf CX P w K mg base N qual scope f cd A outer s H E).K = K := rfl
theorem w_aug {i : Nat} {ti : TIp} : tAug i te ti D σ H = ∃ x, σ[i]? = some (some x) ∧ te σ H fun y H1 => ti x y H1 fun z H2 => D.nx (σ.set i (some z)) H2 := rfl
theorem w_ipI {f : Int → Int → Int} : ipI f x y H Q = ∃ i j, x = .int i ∧ y = .int j ∧ Q (.int (f i j)) H := rfl
/-! ### readings that look into the heap -/
theorem r_ixL {p : Addr} {xs : List V} {i : Int} (h : SqL K H p xs) (ha : atI xs i = some v) (q : Q v H) : rIxL K (.ref p) (.int i) H Q := ⟨p, xs, i, v, rfl, rfl, h, ha, q⟩
theorem r_ixT {p : Addr} {xs : List V} {i : Int} (h : SqT K H p xs) (ha : atI xs i = some v) (q : Q v H) : rIxT K (.ref p) (.int i) H Q := ⟨p, xs, i, v, rfl, rfl, h, ha, q⟩
theorem r_slL {p : Addr} {xs : List V} {lo hi : Option Int} (h : SqL K H p xs) (q : ∀ l, H l = none → Q (.ref l) (upd H l (.lst (cutV xs lo hi)))) : rSlL K (.ref p) lo hi H Q := ⟨p, xs, rfl, h, q⟩
theorem r_sum {p : Addr} {ns : List Int} (h : SqL K H p (ns.map V.int)) (q : Q (.int ns.sum) H) : rSum K [.ref p] H Q := ⟨p, ns, rfl, h, q⟩
theorem r_setL {p : Addr} {xs : List V} {k : Int} {j : Nat} {QH : Hp → Prop} (h : H p = some (.lst xs)) (hj : ixN xs.length k = some j) (q : QH (upd H p (.lst (xs.set j v)))) : rSetL (.ref p) (.int k) v H QH := ⟨p, xs, k, j, rfl, rfl, h, hj, q⟩
theorem r_app {p : Addr} {xs : List V} (h : H p = some (.lst xs)) (hl : xs.length < sizeLine) (q : Q .non (upd H p (.lst (xs ++ [v])))) : rAppend (.ref p) [v] H Q := ⟨p, xs, v, rfl, rfl, h, hl, q⟩
theorem r_len {p : Addr} {xs : List V} (h : SqL K H p xs) (q : Q (.int (xs.length : Int)) H) : rLen K [.ref p] H Q := ⟨p, xs, rfl, .inl h, q⟩
theorem r_lenT {p : Addr} {xs : List V} (h : SqT K H p xs) (q : Q (.int (xs.length : Int)) H) : rLen K [.ref p] H Q := ⟨p, xs, rfl, .inr h, q⟩
theorem r_listL {p : Addr} {xs : List V} (h : SqL K H p xs) (q : ∀ l, H l = none → Q (.ref l) (upd H l (.lst xs))) : rListO K [.ref p] H Q := ⟨p, xs, rfl, .inl h, q⟩
theorem r_listT {p : Addr} {xs : List V} (h : SqT K H p xs) (q : ∀ l, H l = none → Q (.ref l) (upd H l (.lst xs))) : rListO K [.ref p] H Q := ⟨p, xs, rfl, .inr h, q⟩
theorem r_tupL {p : Addr} {xs : List V} (h : SqL K H p xs) (q : ∀ l, H l = none → Q (.ref l) (upd H l (.tup xs))) : rTupO K [.ref p] H Q := ⟨p, xs, rfl, .inl ⟨h, q⟩⟩
theorem r_tupT {p : Addr} {xs : List V} (h : SqT K H p xs) (q : Q (.ref p) H) : rTupO K [.ref p] H Q := ⟨p, xs, rfl, .inr ⟨h, q⟩⟩
theorem r_min {p : Addr} {ns : List Int} (h : SqL K H p (ns.map V.int)) (h0 : 0 < ns.length) (q : ∀ m, m ∈ ns → (∀ y, y ∈ ns → m ≤ y) → Q (.int m) H) : rMin K [.ref p] H Q := ⟨p, ns, rfl, h, h0, q⟩
theorem r_max {p : Addr} {ns : List Int} (h : SqL K H p (ns.map V.int)) (h0 : 0 < ns.length) (q : ∀ m, m ∈ ns → (∀ y, y ∈ ns → y ≤ m) → Q (.int m) H) : rMax K [.ref p] H Q := ⟨p, ns, rfl, h, h0, q⟩
theorem r_sortedI {p : Addr} {ns : List Int} (h : SqL K H p (ns.map V.int)) (q : ∀ (ns' : List Int) (l : Addr), ns'.Perm ns → ns'.Pairwise (· ≤ ·) → H l = none → Q (.ref l) (upd H l (.lst (ns'.map V.int)))) : rSortedI K [.ref p] H Q := ⟨p, ns, rfl, h, q⟩
theorem r_cat {l b : Addr} {xs zs : List V} (h1 : H l = some (.lst xs)) (h2 : H b = some (.lst zs)) (hl : xs.length + zs.length ≤ sizeLine) (q : ∀ p, H p = none → Q (.ref p) (upd H p (.lst (xs ++ zs)))) : rCat (.ref l) (.ref b) H Q := ⟨l, b, xs, zs, rfl, rfl, h1, h2, hl, q⟩
theorem r_catA {a b : Addr} {xs ys : List V} (h1 : SqT K H a xs) (h2 : SqT K H b ys) (hl : xs.length + ys.length ≤ sizeLine) (q0 : xs = [] → Q (.ref b) H) (q1 : xs ≠ [] → ys = [] → Q (.ref a) H) (q2 : xs ≠ [] → ys ≠ [] → ∀ p, H p = none → Q (.ref p) (upd H p (.tup (xs ++ ys)))) : rCatA K (.ref a) (.ref b) H Q :=
  ⟨a, b, xs, ys, rfl, rfl, h1, h2, hl, q0, q1, q2⟩
theorem ty_list {p : Addr} {xs : List V} (h : SqL K H p xs) : tyV K "list" (.ref p) H := .inl ⟨rfl, xs, h⟩
/-- a statement, then the rest, with a word between -/
theorem cut_m (Mid : L2.St → Hp → Prop) (h1 : ∀ N : L2.St → Hp → Prop, (∀ σ' H', Mid σ' H' → N σ' H') → s1 { D with nx := N } σ H) (h2 : ∀ σ' H', Mid σ' H' → s2 D σ' H') : Evl.tCut s1 s2 D σ H :=
  ⟨Mid, h1 Mid fun _ _ z => z, h2⟩
/-- a while, by a word with its measure; G: a turn is wanted, N: what is wanted behind it -/
theorem while_m {c : TT} (Pv : Nat → L2.St → Hp → Prop) (m0 : Nat) (h0 : Pv m0 σ H)
    (hs : ∀ m σ H, Pv m σ H → ∀ G : L2.St → Hp → Prop, (∀ σ1 H1, (∀ N : L2.St → Hp → Prop, (∀ m' σ' H', m' < m → Pv m' σ' H' → N σ' H') → s1 { D with nx := N, ct := N, bk := D.nx } σ1 H1) → G σ1 H1) →
      c σ H fun b H1 => if b = true then G σ H1 else D.nx σ H1) : tWhile c s1 D σ H :=
  ⟨Pv, ⟨m0, h0⟩, fun m σ H p => hs m σ H p (fun σ1 H1 => ∃ N : L2.St → Hp → Prop, (∀ σ' H', N σ' H' → ∃ m', m' < m ∧ Pv m' σ' H') ∧ s1 { D with nx := N, ct := N, bk := D.nx } σ1 H1)
    fun σ1 H1 h => ⟨_, fun _ _ z => z, h (fun σ' H' => ∃ m', m' < m ∧ Pv m' σ' H') fun m' _ _ h1 h2 => ⟨m', h1, h2⟩⟩⟩
/-- the turns of a for: over a list at a, a tuple at a, lo, lo + 1, .. (n of them) -/
def FJ (J : It) (g : TG) (s1 : TS) (D : Ends) (σ : L2.St) (H : Hp) : Prop := ∃ W : Nat → Nat → L2.St → Hp → Prop, (∃ m, W 0 m σ H) ∧ ∀ i m σ H, W i m σ H →
  (J.stop i H ∧ D.nx σ H) ∨ (J.go i H ∧ ∃ N : L2.St → Hp → Prop, (∀ σ' H', N σ' H' → ∃ m', m' < m ∧ W (i + 1) m' σ' H') ∧ ∀ x H', J.yld i H x H' → g x σ H' fun σ2 H2 => s1 { D with nx := N, ct := N, bk := D.nx } σ2 H2)
theorem w_tru : tTru K te σ H QT = te σ H fun x H1 => ∃ k, TruV K x H1 k ∧ QT k H1 := rfl
theorem w_forL {g : TG} : tFor (iList K te) g s1 D σ H = te σ H fun x H1 => ∃ a, x = .ref a ∧ (∃ xs, SqL K H1 a xs) ∧ FJ (Itl K a) g s1 D σ H1 := rfl
theorem w_forT {g : TG} : tFor (iTup K te) g s1 D σ H = te σ H fun x H1 => ∃ a, x = .ref a ∧ (∃ xs, SqT K H1 a xs) ∧ FJ (Itt K a) g s1 D σ H1 := rfl
theorem w_for1 {g : TG} : tFor (iRng1 tr) g s1 D σ H = tr σ H fun vs H1 => ∃ j : Int, vs = [.int j] ∧ -(2 ^ 62) ≤ j ∧ j < 2 ^ 62 ∧ FJ (Itr 0 j.toNat) g s1 D σ H1 := rfl
theorem w_for2 {g : TG} : tFor (iRng2 tr) g s1 D σ H = tr σ H fun vs H1 => ∃ i j : Int, vs = [.int i, .int j] ∧ (-(2 ^ 62) ≤ i ∧ i < 2 ^ 62 ∧ -(2 ^ 62) ≤ j ∧ j < 2 ^ 62) ∧ FJ (Itr i (j - i).toNat) g s1 D σ H1 := rfl
theorem w_for3 {g : TG} : tFor (iRng3 tr) g s1 D σ H = tr σ H fun vs H1 => ∃ (i j c : Int) (n : Nat), vs = [.int i, .int j, .int c] ∧ RgC i j c n ∧ FJ (Itc i c n) g s1 D σ H1 := rfl
theorem for_c {lo c : Int} {n : Nat} {g : TG} (Pv : Nat → L2.St → Hp → Prop) (h0 : Pv 0 σ H)
    (hs : ∀ i σ H, i < n → Pv i σ H → ∀ N : L2.St → Hp → Prop, (∀ σ' H', Pv (i + 1) σ' H' → N σ' H') → g (.int (lo + (i : Nat) * c)) σ H fun σ2 H2 => s1 { D with nx := N, ct := N, bk := D.nx } σ2 H2) (hd : ∀ σ H, Pv n σ H → D.nx σ H) :
    FJ (Itc lo c n) g s1 D σ H := for_rangeC Pv h0 (fun i σ H hx hp => hs i σ H hx hp _ fun _ _ z => z) hd
theorem for_l {a : Addr} {xs : List V} {g : TG} (Pv : Nat → L2.St → Hp → Prop) (h0 : Pv 0 σ H) (hl : ∀ i σ H, i ≤ xs.length → Pv i σ H → SqL K H a xs)
    (hs : ∀ i x σ H, xs[i]? = some x → Pv i σ H → ∀ N : L2.St → Hp → Prop, (∀ σ' H', Pv (i + 1) σ' H' → N σ' H') → g x σ H fun σ2 H2 => s1 { D with nx := N, ct := N, bk := D.nx } σ2 H2) (hd : ∀ σ H, Pv xs.length σ H → D.nx σ H) :
    FJ (Itl K a) g s1 D σ H := for_list Pv h0 hl (fun i x σ H hx hp => hs i x σ H hx hp _ fun _ _ z => z) hd
theorem for_t {a : Addr} {xs : List V} {g : TG} (Pv : Nat → L2.St → Hp → Prop) (h0 : Pv 0 σ H) (hl : ∀ i σ H, i ≤ xs.length → Pv i σ H → SqT K H a xs)
    (hs : ∀ i x σ H, xs[i]? = some x → Pv i σ H → ∀ N : L2.St → Hp → Prop, (∀ σ' H', Pv (i + 1) σ' H' → N σ' H') → g x σ H fun σ2 H2 => s1 { D with nx := N, ct := N, bk := D.nx } σ2 H2) (hd : ∀ σ H, Pv xs.length σ H → D.nx σ H) :
    FJ (Itt K a) g s1 D σ H := for_tup Pv h0 hl (fun i x σ H hx hp => hs i x σ H hx hp _ fun _ _ z => z) hd
theorem for_r {lo : Int} {n : Nat} {g : TG} (Pv : Nat → L2.St → Hp → Prop) (h0 : Pv 0 σ H)
    (hs : ∀ i σ H, i < n → Pv i σ H → ∀ N : L2.St → Hp → Prop, (∀ σ' H', Pv (i + 1) σ' H' → N σ' H') → g (.int (lo + i)) σ H fun σ2 H2 => s1 { D with nx := N, ct := N, bk := D.nx } σ2 H2) (hd : ∀ σ H, Pv n σ H → D.nx σ H) :
    FJ (Itr lo n) g s1 D σ H := for_range Pv h0 (fun i σ H hx hp => hs i σ H hx hp _ fun _ _ z => z) hd
end
/-! ### heaps -/
theorem ne_fresh {H : Hp} {a b : Addr} {o : HO} (h' : H b = none) (h : H a = some o) : a ≠ b := ne_of_none h h'
theorem upd_free {H : Hp} {a p : Addr} {o : HO} (h : upd H a o p = none) : H p = none := by
  unfold upd at h
  split at h
  · cases h
  · exact h
theorem upd_free_ne {H : Hp} {a p : Addr} {o : HO} (h : upd H a o p = none) : p ≠ a := by
  intro e
  rw [e, upd_same] at h
  cases h
theorem same_new {H : Hp} {p : Addr} {o : HO} (h : H p = none) : Same H (upd H p o) := fun b x e => by
  rw [upd_ne (ne_of_none e h)]
  exact e
/-- all that was tracked is as it was, but what stands at a -/
def Kp (a : Addr) (H H' : Hp) : Prop := ∀ b o, b ≠ a → H b = some o → H' b = some o
theorem Kp.refl (a : Addr) (H : Hp) : Kp a H H := fun _ _ _ h => h
theorem Kp.trans {a : Addr} {H H1 H2 : Hp} (x : Kp a H H1) (y : Kp a H1 H2) : Kp a H H2 := fun b o n h => y b o n (x b o n h)
theorem sm_kp {a : Addr} {H H' : Hp} (x : Same H H') : Kp a H H' := fun b o _ h => x b o h
theorem Kp.upd {a : Addr} {H H' : Hp} {o : HO} (x : Kp a H H') : Kp a H (upd H' a o) := fun b u n h => by
  rw [upd_ne n]
  exact x b u n h
theorem Kp.new {a p : Addr} {H H' : Hp} {o : HO} (x : Kp a H H') (hp : H p = none) : Kp a H (L2.upd H' p o) := fun b u n h => by
  rw [upd_ne (ne_of_none h hp)]
  exact x b u n h
theorem Kp.free {a p : Addr} {H H' : Hp} (x : Kp a H H') (n : p ≠ a) (hp : H' p = none) : H p = none := by
  cases q : H p with
  | none => rfl
  | some o =>
    rw [x p o n q] at hp
    cases hp
theorem Kp.seq {K : PySem.W.Frag} {a : Addr} {H H' : Hp} {l : Addr} {xs : List V} (x : Kp a H H') (n : l ≠ a) (h : SqL K H l xs) : SqL K H' l xs := by
  rcases h with (h | ⟨o, h⟩) | h
  · exact .inl (.inl (x _ _ n h))
  · exact .inl (.inr ⟨o, x _ _ n h⟩)
  · exact .inr h
theorem sm_new {p : Addr} {H H' : Hp} {o : HO} (x : Same H H') (hp : H p = none) : Same H (L2.upd H' p o) := fun b u h => by
  rw [upd_ne (ne_of_none h hp)]
  exact x b u h
theorem cut_to (xs : List V) (k : Nat) : cutV xs none (some (k : Int)) = xs.take k := by
  unfold cutV
  rw [HT.sIx_none, HT.sIx_nat]
  simp only [List.drop_zero, Nat.sub_zero]
  rcases Nat.le_total k xs.length with h | h
  · rw [Nat.min_eq_left h]
  · rw [Nat.min_eq_right h, List.take_of_length_le (Nat.le_refl _), List.take_of_length_le h]
theorem cut_from (xs : List V) (k : Nat) : cutV xs (some (k : Int)) none = xs.drop k := by
  unfold cutV
  rw [HT.sIx_none, HT.sIx_nat]
  rcases Nat.le_total k xs.length with h | h
  · rw [Nat.min_eq_left h, List.take_of_length_le (by simp)]
  · rw [Nat.min_eq_right h, List.drop_eq_nil_of_le (Nat.le_refl _), List.drop_eq_nil_of_le h]
    simp
theorem atI_mem {xs : List V} {i : Int} (h0 : 0 ≤ i) (h1 : i < xs.length) : ∃ v, v ∈ xs ∧ atI xs i = some v := by
  obtain ⟨j, rfl⟩ := Int.eq_ofNat_of_zero_le h0
  have hj : j < xs.length := by omega
  exact ⟨xs[j], List.getElem_mem hj, atI_nat (List.getElem?_eq_getElem hj)⟩
theorem atI_ints {ns : List Int} {i : Int} (h0 : 0 ≤ i) (h1 : i < ns.length) : ∃ z, z ∈ ns ∧ atI (ns.map V.int) i = some (.int z) := by
  obtain ⟨j, rfl⟩ := Int.eq_ofNat_of_zero_le h0
  have hj : j < ns.length := by omega
  exact ⟨ns[j], List.getElem_mem hj, atI_nat (by rw [List.getElem?_map, List.getElem?_eq_getElem hj]; rfl)⟩
/-! ### data that is compared: ints, tuples and lists of ints, pairs of ints -/
def dI (ns : List Int) : List PyData := ns.map PyData.int
theorem canLay_ints : ∀ ns : List Int, PyData.canLayAll0 (dI ns) = true
  | [] => by simp [dI, PyData.canLayAll0]
  | n :: r => by
    have := canLay_ints r
    simp only [dI] at this ⊢
    simp [PyData.canLayAll0, PyData.canLay0, this]
theorem depth_ints : ∀ ns : List Int, PyData.depthAll (dI ns) = 0
  | [] => by simp [dI, PyData.depthAll]
  | n :: r => by
    have := depth_ints r
    simp only [dI] at this ⊢
    simp [PyData.depthAll, PyData.depth, this]
theorem eqv_ints : ∀ ns ms : List Int, PyData.eqvAll (dI ns) (dI ms) = decide (ns = ms)
  | [], [] => by simp [dI, PyData.eqvAll]
  | [], _ :: _ => by simp [dI, PyData.eqvAll]
  | _ :: _, [] => by simp [dI, PyData.eqvAll]
  | n :: r, m :: t => by
    have := eqv_ints r t
    simp only [dI] at this ⊢
    simp only [List.map_cons, PyData.eqvAll, PyData.eqv, this, List.cons.injEq]
    rw [Bool.decide_and, Bool.beq_eq_decide_eq]
theorem dpAll_ints {K : PySem.W.Frag} {H : Hp} : ∀ ns : List Int, DpAll K H (ns.map V.int) (dI ns)
  | [] => .nil
  | n :: r => .cons (.int n) (dpAll_ints r)
theorem sh_tI (ns : List Int) : SeqAt.shaped (.tuple (dI ns)) = true := by
  unfold SeqAt.shaped
  simp [PyData.canLay0, PyData.depth, canLay_ints, depth_ints]
theorem sh_lI (ns : List Int) : SeqAt.shaped (.list (dI ns)) = true := by
  unfold SeqAt.shaped
  simp [PyData.canLay0, PyData.depth, canLay_ints, depth_ints]
/-- pairs of ints -/
def dP (ps : List (Int × Int)) : List PyData := ps.map fun p => PyData.tuple (dI [p.1, p.2])
theorem canLay_pairs : ∀ ps : List (Int × Int), PyData.canLayAll0 (dP ps) = true
  | [] => by simp [dP, PyData.canLayAll0]
  | n :: r => by
    have := canLay_pairs r
    simp only [dP] at this ⊢
    simp [PyData.canLayAll0, PyData.canLay0, this, canLay_ints]
theorem depth_pairs : ∀ ps : List (Int × Int), PyData.depthAll (dP ps) ≤ 1
  | [] => by simp [dP, PyData.depthAll]
  | n :: r => by
    have := depth_pairs r
    simp only [dP] at this ⊢
    simp only [List.map_cons, PyData.depthAll, PyData.depth, depth_ints]
    omega
theorem eqv_pairs : ∀ ns ms : List (Int × Int), PyData.eqvAll (dP ns) (dP ms) = decide (ns = ms)
  | [], [] => by simp [dP, PyData.eqvAll]
  | [], _ :: _ => by simp [dP, PyData.eqvAll]
  | _ :: _, [] => by simp [dP, PyData.eqvAll]
  | (a, b) :: r, (c, d) :: t => by
    have := eqv_pairs r t
    simp only [dP] at this ⊢
    simp only [List.map_cons, PyData.eqvAll, PyData.eqv, this, List.cons.injEq, eqv_ints, Prod.mk.injEq, and_true]
    simp only [Bool.decide_and]
theorem sh_tP (ns : List (Int × Int)) : SeqAt.shaped (.tuple (dP ns)) = true := by
  unfold SeqAt.shaped
  have := depth_pairs ns
  simp only [PyData.canLay0, PyData.depth, canLay_pairs, Bool.true_and, decide_eq_true_eq]
  exact decide_eq_true (by omega)
theorem sh_lP (ns : List (Int × Int)) : SeqAt.shaped (.list (dP ns)) = true := by
  unfold SeqAt.shaped
  have := depth_pairs ns
  simp only [PyData.canLay0, PyData.depth, canLay_pairs, Bool.true_and, decide_eq_true_eq]
  exact decide_eq_true (by omega)
/-- tuples of two ints stand at these addresses -/
def PairsAt (K : PySem.W.Frag) (H : Hp) (as : List Addr) (ps : List (Int × Int)) : Prop := as.length = ps.length ∧ ∀ (i : Nat) (a : Addr) (p : Int × Int), as[i]? = some a → ps[i]? = some p → SqT K H a [.int p.1, .int p.2]
theorem PairsAt.nil {K : PySem.W.Frag} {H : Hp} : PairsAt K H [] [] := ⟨rfl, fun _ _ _ h => by simp at h⟩
theorem PairsAt.snoc {K : PySem.W.Frag} {H : Hp} {as : List Addr} {ps : List (Int × Int)} {a : Addr} {p : Int × Int} (h : PairsAt K H as ps) (hp : SqT K H a [.int p.1, .int p.2]) : PairsAt K H (as ++ [a]) (ps ++ [p]) := by
  refine ⟨by simp [h.1], fun i b q h1 h2 => ?_⟩
  rcases Nat.lt_or_ge i as.length with c | c
  · rw [List.getElem?_append_left c] at h1
    rw [List.getElem?_append_left (by rw [← h.1]; exact c)] at h2
    exact h.2 i b q h1 h2
  · rw [List.getElem?_append_right c] at h1
    rw [List.getElem?_append_right (by rw [← h.1]; exact c)] at h2
    have e1 : i - as.length = 0 := by
      have := (List.getElem?_eq_some_iff.mp h1).1
      simp at this
      omega
    rw [← h.1, e1] at h2
    rw [e1] at h1
    simp at h1 h2
    subst h1 h2
    exact hp
theorem dpAll_pairs {K : PySem.W.Frag} {H : Hp} : ∀ {as : List Addr} {ps : List (Int × Int)}, PairsAt K H as ps → DpAll K H (as.map V.ref) (dP ps)
  | [], [], _ => .nil
  | [], _ :: _, h => by
    have := h.1
    simp at this
  | _ :: _, [], h => by
    have := h.1
    simp at this
  | a :: as, p :: ps, h => .cons (.tup (h.2 0 a p rfl rfl) (dpAll_ints [p.1, p.2])) (dpAll_pairs ⟨by have := h.1; simp at this; exact this, fun i b q h1 h2 => h.2 (i + 1) b q (by simpa using h1) (by simpa using h2)⟩)
/-- a number, or None -/
def vo : Option Nat → V
  | some n => .int (n : Int)
  | none => .non
def dO : Option Nat → PyData
  | some n => .int (n : Int)
  | none => .none
theorem dp_o {K : PySem.W.Frag} {H : Hp} : ∀ l : Option Nat, Dp K H (vo l) (dO l)
  | some n => .int _
  | none => .non
theorem eqv_o : ∀ l l' : Option Nat, PyData.eqv (dO l) (dO l') = decide (l = l')
  | some a, some b => by
    simp only [dO, PyData.eqv, Option.some.injEq, Int.natCast_inj, Bool.beq_eq_decide_eq]
  | some a, none => by simp [dO, PyData.eqv]
  | none, some b => by simp [dO, PyData.eqv]
  | none, none => by simp [dO, PyData.eqv]
theorem sh_o (l : Option Nat) (g : Int) : SeqAt.shaped (.tuple [dO l, .int g]) = true := by cases l <;> rfl
section
variable {K : PySem.W.Frag} {H : Hp} {Q : VK} {a b : Addr}
theorem r_eqT {ns ms : List Int} (hx : SqT K H a (ns.map V.int)) (hy : SqT K H b (ms.map V.int)) (q : Q (.bl (decide (ns = ms))) H) : rEqD K (.ref a) (.ref b) H Q :=
  ⟨.tuple (dI ns), .tuple (dI ms), .tup hx (dpAll_ints ns), .tup hy (dpAll_ints ms), sh_tI ns, sh_tI ms, by rw [PyData.eqv, eqv_ints]; exact q⟩
theorem r_neT {ns ms : List Int} (hx : SqT K H a (ns.map V.int)) (hy : SqT K H b (ms.map V.int)) (q : Q (.bl (!decide (ns = ms))) H) : rNeD K (.ref a) (.ref b) H Q :=
  ⟨.tuple (dI ns), .tuple (dI ms), .tup hx (dpAll_ints ns), .tup hy (dpAll_ints ms), sh_tI ns, sh_tI ms, by rw [PyData.eqv, eqv_ints]; exact q⟩
theorem r_eqL {ns ms : List Int} (hx : SqL K H a (ns.map V.int)) (hy : SqL K H b (ms.map V.int)) (q : Q (.bl (decide (ns = ms))) H) : rEqD K (.ref a) (.ref b) H Q :=
  ⟨.list (dI ns), .list (dI ms), .lst hx (dpAll_ints ns), .lst hy (dpAll_ints ms), sh_lI ns, sh_lI ms, by rw [PyData.eqv, eqv_ints]; exact q⟩
theorem r_neL {ns ms : List Int} (hx : SqL K H a (ns.map V.int)) (hy : SqL K H b (ms.map V.int)) (q : Q (.bl (!decide (ns = ms))) H) : rNeD K (.ref a) (.ref b) H Q :=
  ⟨.list (dI ns), .list (dI ms), .lst hx (dpAll_ints ns), .lst hy (dpAll_ints ms), sh_lI ns, sh_lI ms, by rw [PyData.eqv, eqv_ints]; exact q⟩
theorem r_eqTP {as bs : List Addr} {ns ms : List (Int × Int)} (hx : SqT K H a (as.map V.ref)) (ha : PairsAt K H as ns) (hy : SqT K H b (bs.map V.ref)) (hb : PairsAt K H bs ms) (q : Q (.bl (decide (ns = ms))) H) : rEqD K (.ref a) (.ref b) H Q :=
  ⟨.tuple (dP ns), .tuple (dP ms), .tup hx (dpAll_pairs ha), .tup hy (dpAll_pairs hb), sh_tP ns, sh_tP ms, by rw [PyData.eqv, eqv_pairs]; exact q⟩
theorem r_neTP {as bs : List Addr} {ns ms : List (Int × Int)} (hx : SqT K H a (as.map V.ref)) (ha : PairsAt K H as ns) (hy : SqT K H b (bs.map V.ref)) (hb : PairsAt K H bs ms) (q : Q (.bl (!decide (ns = ms))) H) : rNeD K (.ref a) (.ref b) H Q :=
  ⟨.tuple (dP ns), .tuple (dP ms), .tup hx (dpAll_pairs ha), .tup hy (dpAll_pairs hb), sh_tP ns, sh_tP ms, by rw [PyData.eqv, eqv_pairs]; exact q⟩
theorem r_eqLP {as bs : List Addr} {ns ms : List (Int × Int)} (hx : SqL K H a (as.map V.ref)) (ha : PairsAt K H as ns) (hy : SqL K H b (bs.map V.ref)) (hb : PairsAt K H bs ms) (q : Q (.bl (decide (ns = ms))) H) : rEqD K (.ref a) (.ref b) H Q :=
  ⟨.list (dP ns), .list (dP ms), .lst hx (dpAll_pairs ha), .lst hy (dpAll_pairs hb), sh_lP ns, sh_lP ms, by rw [PyData.eqv, eqv_pairs]; exact q⟩
theorem r_neLP {as bs : List Addr} {ns ms : List (Int × Int)} (hx : SqL K H a (as.map V.ref)) (ha : PairsAt K H as ns) (hy : SqL K H b (bs.map V.ref)) (hb : PairsAt K H bs ms) (q : Q (.bl (!decide (ns = ms))) H) : rNeD K (.ref a) (.ref b) H Q :=
  ⟨.list (dP ns), .list (dP ms), .lst hx (dpAll_pairs ha), .lst hy (dpAll_pairs hb), sh_lP ns, sh_lP ms, by rw [PyData.eqv, eqv_pairs]; exact q⟩
theorem r_neO {l l' : Option Nat} {g g' : Nat} (hx : SqT K H a [vo l, .int (g : Int)]) (hy : SqT K H b [vo l', .int (g' : Int)]) (q : Q (.bl (!decide (l = l' ∧ g = g'))) H) : rNeD K (.ref a) (.ref b) H Q :=
  ⟨.tuple [dO l, .int g], .tuple [dO l', .int g'], .tup hx (.cons (dp_o l) (.cons (.int _) .nil)), .tup hy (.cons (dp_o l') (.cons (.int _) .nil)), sh_o l g, sh_o l' g', by
    rw [PyData.eqv]
    simp only [PyData.eqvAll, eqv_o, PyData.eqv, Bool.and_true]
    have : (decide (l = l') && ((g : Int) == (g' : Int))) = decide (l = l' ∧ g = g') := by
      rw [Bool.decide_and, Bool.beq_eq_decide_eq]
      simp only [Int.natCast_inj]
    rw [this]
    exact q⟩
theorem r_eqO {l l' : Option Nat} {g g' : Nat} (hx : SqT K H a [vo l, .int (g : Int)]) (hy : SqT K H b [vo l', .int (g' : Int)]) (q : Q (.bl (decide (l = l' ∧ g = g'))) H) : rEqD K (.ref a) (.ref b) H Q :=
  ⟨.tuple [dO l, .int g], .tuple [dO l', .int g'], .tup hx (.cons (dp_o l) (.cons (.int _) .nil)), .tup hy (.cons (dp_o l') (.cons (.int _) .nil)), sh_o l g, sh_o l' g', by
    rw [PyData.eqv]
    simp only [PyData.eqvAll, eqv_o, PyData.eqv, Bool.and_true]
    have : (decide (l = l') && ((g : Int) == (g' : Int))) = decide (l = l' ∧ g = g') := by
      rw [Bool.decide_and, Bool.beq_eq_decide_eq]
      simp only [Int.natCast_inj]
    rw [this]
    exact q⟩
theorem ty_non : TyX K H .non (.type "NoneType") := .base .non
/-- isinstance of a built-in class -/
theorem r_isi {x : V} {T n : String} {c : Bool} (ty : TyX K H x (.type T)) (hk : kitB T n = some c) (q : Q (.bl c) H) : rIsi K [x, .ty n] H Q := ⟨x, .ty n, .type T, .type n, c, rfl, .ty n, ty, kit_ty hk, q⟩
theorem ty_int (i : Int) : TyX K H (.int i) (.type "int") := .base (.int i)
theorem ty_bl (c : Bool) : TyX K H (.bl c) (.type "bool") := .base (.bl c)
theorem ty_str (c : PySem.Str) : TyX K H (.str c) (.type "str") := .base (.str c)
theorem ty_tup {xs : List V} (h : SqT K H a xs) : TyX K H (.ref a) (.type "tuple") := by
  rcases h with (h | ⟨o, h⟩) | ⟨o, its, n, h1, h2, _⟩
  · exact .base (.tup h)
  · exact .fTuple h
  · exact .kTuple h1 h2
theorem ty_lst {xs : List V} (h : SqL K H a xs) : TyX K H (.ref a) (.type "list") := by
  rcases h with (h | ⟨o, h⟩) | ⟨o, its, n, h1, h2, _⟩
  · exact .base (.lst h)
  · exact .base (.frz h)
  · exact .kList h1 h2
end
/-- all of these stand at tuples of a number to 10 ** 40 and an exponent from 1 to 200 -/
def Jobs (H : Hp) (xs : List V) : Prop := ∀ x ∈ xs, ∃ (a : Addr) (n e : Nat), x = .ref a ∧ H a = some (.tup [.int n, .int e]) ∧ n ≤ 10 ^ 40 ∧ 1 ≤ e ∧ e ≤ 200
theorem Jobs.kp {H H' : Hp} {xs : List V} {d : Addr} (h : Jobs H xs) (k : Kp d H H') (hd : ∃ ys, H d = some (.lst ys)) : Jobs H' xs := fun x hx => by
  obtain ⟨a, n, e, h1, h2, h3⟩ := h x hx
  obtain ⟨ys, hy⟩ := hd
  exact ⟨a, n, e, h1, k _ _ (ne_of h2 hy (by intro z; cases z)) h2, h3⟩
theorem Jobs.same {H H' : Hp} {xs : List V} (h : Jobs H xs) (k : Same H H') : Jobs H' xs := fun x hx => by
  obtain ⟨a, n, e, h1, h2, h3⟩ := h x hx
  exact ⟨a, n, e, h1, k _ _ h2, h3⟩
/-- a value that is no truth -/
def tyFalse (K : PySem.W.Frag) (x : V) (H : Hp) : Prop := ∃ T : String, TyX K H x (.type T) ∧ kitB T "bool" = some false
/-! ### a comprehension whose turns change nothing that was there -/
section
variable {σ : L2.St} {H : Hp} {Q : VK} {K : PySem.W.Frag} {te tl : TE} {tt : TT} {tr : TA} {g : TG} {vs : List Nat}
/-- the turns of a comprehension -/
def LJ (J : It) (g : TG) (tt : TT) (te : TE) (vs : List Nat) (σ : L2.St) (H1 : Hp) (Q : VK) : Prop := ∀ D, H1 D = none → ∃ W : Nat → Nat → Hp → Prop, (∃ m, W 0 m (upd H1 D (.lst []))) ∧ ∀ i m H, W i m H →
  (J.stop i H ∧ Q (.ref D) H) ∨ (J.go i H ∧ ∃ Nx : Hp → Prop, (∀ H', Nx H' → ∃ m', m' < m ∧ W (i + 1) m' H') ∧ ∀ x H', J.yld i H x H' → g x (wipe σ vs) H' fun σ2 H2 => wipe σ2 vs = wipe σ vs ∧ tt σ2 H2 fun b H3 =>
    if b = true then te σ2 H3 fun y H4 => ∃ acc, H4 D = some (.lst acc) ∧ acc.length < sizeLine ∧ Nx (upd H4 D (.lst (acc ++ [y]))) else Nx H3)
theorem w_lcL : tLc (iList K tl) g tt te vs σ H Q = tl σ H fun x H1 => ∃ a, x = .ref a ∧ (∃ xs, SqL K H1 a xs) ∧ LJ (Itl K a) g tt te vs σ H1 Q := rfl
theorem w_lcT : tLc (iTup K tl) g tt te vs σ H Q = tl σ H fun x H1 => ∃ a, x = .ref a ∧ (∃ xs, SqT K H1 a xs) ∧ LJ (Itt K a) g tt te vs σ H1 Q := rfl
theorem w_lc1 : tLc (iRng1 tr) g tt te vs σ H Q = tr σ H fun xs H1 => ∃ j : Int, xs = [.int j] ∧ -(2 ^ 62) ≤ j ∧ j < 2 ^ 62 ∧ LJ (Itr 0 j.toNat) g tt te vs σ H1 Q := rfl
theorem w_lc2 : tLc (iRng2 tr) g tt te vs σ H Q = tr σ H fun xs H1 => ∃ i j : Int, xs = [.int i, .int j] ∧ (-(2 ^ 62) ≤ i ∧ i < 2 ^ 62 ∧ -(2 ^ 62) ≤ j ∧ j < 2 ^ 62) ∧ LJ (Itr i (j - i).toNat) g tt te vs σ H1 Q := rfl
theorem w_lc3 : tLc (iRng3 tr) g tt te vs σ H Q = tr σ H fun xs H1 => ∃ (i j c : Int) (n : Nat), xs = [.int i, .int j, .int c] ∧ RgC i j c n ∧ LJ (Itc i c n) g tt te vs σ H1 Q := rfl
theorem w_yes {QT : Bool → Hp → Prop} : tYes σ H QT = QT true H := rfl
theorem same_seqT {K : PySem.W.Frag} {H H' : Hp} {a : Addr} {xs : List V} (e : Same H H') (h : SqT K H a xs) : SqT K H' a xs := by
  rcases h with (h | ⟨o, h⟩) | h
  · exact .inl (.inl (e _ _ h))
  · exact .inl (.inr ⟨o, e _ _ h⟩)
  · exact .inr h
theorem Kp.seqT {K : PySem.W.Frag} {a : Addr} {H H' : Hp} {l : Addr} {xs : List V} (x : Kp a H H') (n : l ≠ a) (h : SqT K H l xs) : SqT K H' l xs := by
  rcases h with (h | ⟨o, h⟩) | h
  · exact .inl (.inl (x _ _ n h))
  · exact .inl (.inr ⟨o, x _ _ n h⟩)
  · exact .inr h
theorem PairsAt.same {K : PySem.W.Frag} {H H' : Hp} {as : List Addr} {ps : List (Int × Int)} (h : PairsAt K H as ps) (e : Same H H') : PairsAt K H' as ps := ⟨h.1, fun i a p h1 h2 => same_seqT e (h.2 i a p h1 h2)⟩
theorem filt_take {α β : Type} (f : α → Option β) {xs : List α} {i : Nat} {x : α} (h : xs[i]? = some x) : (xs.take (i + 1)).filterMap f = (xs.take i).filterMap f ++ (f x).toList := by
  rw [List.take_add_one, h, List.filterMap_append]
  cases e : f x <;> simp [e]
/-- f tells of an item what is put into the list, if anything -/
theorem lc_l {a : Addr} {xs : List V} (f : V → Option V) (hx : SqL K H a xs) (hl : xs.length < sizeLine)
    (hs : ∀ (i : Nat) (x : V) (H' : Hp), xs[i]? = some x → Same H H' → ∀ (N0 : Hp → Prop) (N1 : VK), (f x = none → ∀ H2, Same H' H2 → N0 H2) → (∀ y, f x = some y → ∀ H2, Same H' H2 → N1 y H2) →
      g x (wipe σ vs) H' fun σ2 H2 => wipe σ2 vs = wipe σ vs ∧ tt σ2 H2 fun b H3 => if b = true then te σ2 H3 N1 else N0 H3)
    (q : ∀ D H', H D = none → Same H H' → H' D = some (.lst (xs.filterMap f)) → Q (.ref D) H') : LJ (Itl K a) g tt te vs σ H Q := by
  intro D hD
  refine lc_list (K := K) (a := a) (xs := xs) (fun i H' => Same H H' ∧ H' D = some (.lst ((xs.take i).filterMap f))) ⟨same_new hD, by rw [upd_same]; simp⟩ (fun i H' _ p => p.1.seq hx) ?_ ?_
  · rintro i x H' hi ⟨p1, p2⟩
    have hlen : ((xs.take i).filterMap f).length < sizeLine := Nat.lt_of_le_of_lt (Nat.le_trans (List.length_filterMap_le _ _) (by rw [List.length_take]; exact Nat.min_le_right _ _)) hl
    refine hs i x H' hi p1 _ _ (fun hf H2 e2 => ⟨p1.trans e2, ?_⟩) fun y hf H2 e2 => ⟨_, e2 _ _ p2, hlen, fun b o h => ?_, ?_⟩
    · rw [e2 _ _ p2, filt_take f hi, hf]
      simp
    · rw [upd_ne (ne_of_none h hD)]
      exact e2 _ _ (p1 _ _ h)
    · rw [upd_same, filt_take f hi, hf]
      rfl
  · rintro H' ⟨p1, p2⟩
    rw [List.take_length] at p2
    exact q D H' hD p1 p2
theorem lc_t {a : Addr} {xs : List V} (f : V → Option V) (hx : SqT K H a xs) (hl : xs.length < sizeLine)
    (hs : ∀ (i : Nat) (x : V) (H' : Hp), xs[i]? = some x → Same H H' → ∀ (N0 : Hp → Prop) (N1 : VK), (f x = none → ∀ H2, Same H' H2 → N0 H2) → (∀ y, f x = some y → ∀ H2, Same H' H2 → N1 y H2) →
      g x (wipe σ vs) H' fun σ2 H2 => wipe σ2 vs = wipe σ vs ∧ tt σ2 H2 fun b H3 => if b = true then te σ2 H3 N1 else N0 H3)
    (q : ∀ D H', H D = none → Same H H' → H' D = some (.lst (xs.filterMap f)) → Q (.ref D) H') : LJ (Itt K a) g tt te vs σ H Q := by
  intro D hD
  refine lc_tup (K := K) (a := a) (xs := xs) (fun i H' => Same H H' ∧ H' D = some (.lst ((xs.take i).filterMap f))) ⟨same_new hD, by rw [upd_same]; simp⟩ (fun i H' _ p => same_seqT p.1 hx) ?_ ?_
  · rintro i x H' hi ⟨p1, p2⟩
    have hlen : ((xs.take i).filterMap f).length < sizeLine := Nat.lt_of_le_of_lt (Nat.le_trans (List.length_filterMap_le _ _) (by rw [List.length_take]; exact Nat.min_le_right _ _)) hl
    refine hs i x H' hi p1 _ _ (fun hf H2 e2 => ⟨p1.trans e2, ?_⟩) fun y hf H2 e2 => ⟨_, e2 _ _ p2, hlen, fun b o h => ?_, ?_⟩
    · rw [e2 _ _ p2, filt_take f hi, hf]
      simp
    · rw [upd_ne (ne_of_none h hD)]
      exact e2 _ _ (p1 _ _ h)
    · rw [upd_same, filt_take f hi, hf]
      rfl
  · rintro H' ⟨p1, p2⟩
    rw [List.take_length] at p2
    exact q D H' hD p1 p2
/-- over lo, lo + 1, .. (n of them), by the place -/
theorem lc_r {lo : Int} {n : Nat} (f : Nat → Option V) (hl : n < sizeLine)
    (hs : ∀ (i : Nat) (H' : Hp), i < n → Same H H' → ∀ (N0 : Hp → Prop) (N1 : VK), (f i = none → ∀ H2, Same H' H2 → N0 H2) → (∀ y, f i = some y → ∀ H2, Same H' H2 → N1 y H2) →
      g (.int (lo + i)) (wipe σ vs) H' fun σ2 H2 => wipe σ2 vs = wipe σ vs ∧ tt σ2 H2 fun b H3 => if b = true then te σ2 H3 N1 else N0 H3)
    (q : ∀ D H', H D = none → Same H H' → H' D = some (.lst ((List.range n).filterMap f)) → Q (.ref D) H') : LJ (Itr lo n) g tt te vs σ H Q := by
  intro D hD
  refine lc_range (lo := lo) (n := n) (fun i H' => Same H H' ∧ H' D = some (.lst ((List.range i).filterMap f))) ⟨same_new hD, by rw [upd_same]; simp⟩ ?_ ?_
  · rintro i H' hi ⟨p1, p2⟩
    have hlen : ((List.range i).filterMap f).length < sizeLine := Nat.lt_of_le_of_lt (List.length_filterMap_le _ _) (by rw [List.length_range]; omega)
    have hf1 : (List.range (i + 1)).filterMap f = (List.range i).filterMap f ++ (f i).toList := by
      rw [List.range_succ, List.filterMap_append]
      cases e : f i <;> simp [e]
    refine hs i H' hi p1 _ _ (fun hf H2 e2 => ⟨p1.trans e2, ?_⟩) fun y hf H2 e2 => ⟨_, e2 _ _ p2, hlen, fun b o h => ?_, ?_⟩
    · rw [e2 _ _ p2, hf1, hf]
      simp
    · rw [upd_ne (ne_of_none h hD)]
      exact e2 _ _ (p1 _ _ h)
    · rw [upd_same, hf1, hf]
      rfl
  · rintro H' ⟨p1, p2⟩
    exact q D H' hD p1 p2
/-- a comprehension by an invariant over what is made so far -/
theorem lc_rI {lo : Int} {n : Nat} (Pv : Nat → List V → Hp → Prop) (h0 : ∀ D, H D = none → Pv 0 [] (upd H D (.lst [])))
    (hs : ∀ (i : Nat) (acc : List V) (D : Addr) (H' : Hp), i < n → H D = none → H' D = some (.lst acc) → Pv i acc H' → ∀ (N0 : Hp → Prop) (N1 : VK), (∀ H2, H2 D = some (.lst acc) → Pv (i + 1) acc H2 → N0 H2) →
      (∀ y H2, H2 D = some (.lst acc) → acc.length < sizeLine → Pv (i + 1) (acc ++ [y]) (upd H2 D (.lst (acc ++ [y]))) → N1 y H2) →
      g (.int (lo + i)) (wipe σ vs) H' fun σ2 H2 => wipe σ2 vs = wipe σ vs ∧ tt σ2 H2 fun b H3 => if b = true then te σ2 H3 N1 else N0 H3)
    (q : ∀ D acc H', H D = none → H' D = some (.lst acc) → Pv n acc H' → Q (.ref D) H') : LJ (Itr lo n) g tt te vs σ H Q := by
  intro D hD
  refine lc_range (lo := lo) (n := n) (fun i H' => ∃ acc, H' D = some (.lst acc) ∧ Pv i acc H') ⟨[], upd_same, h0 D hD⟩ ?_ ?_
  · rintro i H' hi ⟨acc, p1, p2⟩
    exact hs i acc D H' hi hD p1 p2 _ _ (fun H2 e h => ⟨acc, e, h⟩) fun y H2 e hl h => ⟨acc, e, hl, _, upd_same, h⟩
  · rintro H' ⟨acc, p1, p2⟩
    exact q D acc H' hD p1 p2
theorem lc_lI {a : Addr} {xs : List V} (Pv : Nat → List V → Hp → Prop) (h0 : ∀ D, H D = none → Pv 0 [] (upd H D (.lst []))) (hl : ∀ i acc H', i ≤ xs.length → Pv i acc H' → SqL K H' a xs)
    (hs : ∀ (i : Nat) (x : V) (acc : List V) (D : Addr) (H' : Hp), xs[i]? = some x → H D = none → H' D = some (.lst acc) → Pv i acc H' → ∀ (N0 : Hp → Prop) (N1 : VK), (∀ H2, H2 D = some (.lst acc) → Pv (i + 1) acc H2 → N0 H2) →
      (∀ y H2, H2 D = some (.lst acc) → acc.length < sizeLine → Pv (i + 1) (acc ++ [y]) (upd H2 D (.lst (acc ++ [y]))) → N1 y H2) →
      g x (wipe σ vs) H' fun σ2 H2 => wipe σ2 vs = wipe σ vs ∧ tt σ2 H2 fun b H3 => if b = true then te σ2 H3 N1 else N0 H3)
    (q : ∀ D acc H', H D = none → H' D = some (.lst acc) → Pv xs.length acc H' → Q (.ref D) H') : LJ (Itl K a) g tt te vs σ H Q := by
  intro D hD
  refine lc_list (K := K) (a := a) (xs := xs) (fun i H' => ∃ acc, H' D = some (.lst acc) ∧ Pv i acc H') ⟨[], upd_same, h0 D hD⟩ (fun i H' hi ⟨acc, _, p⟩ => hl i acc H' hi p) ?_ ?_
  · rintro i x H' hi ⟨acc, p1, p2⟩
    exact hs i x acc D H' hi hD p1 p2 _ _ (fun H2 e h => ⟨acc, e, h⟩) fun y H2 e hl h => ⟨acc, e, hl, _, upd_same, h⟩
  · rintro H' ⟨acc, p1, p2⟩
    exact q D acc H' hD p1 p2
end
/-- range(i, j, c) upwards -/
theorem RgC.up {i j c : Int} (ha : -(2 ^ 62) ≤ i) (ha' : i < 2 ^ 62) (hb : -(2 ^ 62) ≤ j) (hb' : j < 2 ^ 62) (hc : 0 < c) (hc' : c < 1073741824) : RgC i j c (if i < j then ((j - i - 1) / c + 1).toNat else 0) := by
  have hd : i < j → 0 ≤ (j - i - 1) / c ∧ (j - i - 1) / c ≤ j - i - 1 := fun h => ⟨Int.ediv_nonneg (by omega) (by omega), Int.ediv_le_self _ (by omega)⟩
  refine ⟨by omega, by omega, ?_, ?_⟩
  · unfold Builtin.Range.small
    simp only [Builtin.Range.rangeFitsLong, Bool.and_eq_true, Bool.or_eq_true, decide_eq_true_eq, beq_iff_eq, Builtin.Range.rangeSize, show c > 0 from hc, if_true]
    split
    · rename_i h
      obtain ⟨h1, h2⟩ := hd h
      generalize (j - i - 1) / c = z at h1 h2 ⊢
      omega
    · omega
  · simp only [Builtin.Range.rangeSize, show c > 0 from hc, if_true]
    split
    · rename_i h
      obtain ⟨h1, h2⟩ := hd h
      omega
    · rfl
theorem bits_nat {n : Nat} (h : 1 ≤ n) : Builtin.Int.intBits (n : Int) = n.log2 + 1 := by
  unfold Builtin.Int.intBits
  rw [if_neg (by simp; omega)]
  rfl
theorem bits_0 : Builtin.Int.intBits 0 = 0 := rfl
theorem filt_ints (f : Nat → Int) (k : Nat) : (List.range k).filterMap (fun i => some (V.int (f i))) = ((List.range k).map f).map V.int := by
  rw [List.map_map]
  exact congrFun (List.filterMap_eq_map (f := V.int ∘ f)) _
theorem size_le {n : Nat} (h : n ≤ 1000000) : n < sizeLine := Nat.lt_of_le_of_lt h (by decide)
theorem size_le' {n : Nat} (h : n ≤ 1000000) : n ≤ sizeLine := Nat.le_of_lt (size_le h)
/-- the items of a list of ints that are kept -/
def keepI (p : Int → Bool) : V → Option V
  | .int z => if p z = true then some (.int z) else none
  | _ => none
theorem filt_keep (p : Int → Bool) : ∀ ns : List Int, (ns.map V.int).filterMap (keepI p) = (ns.filter p).map V.int
  | [] => rfl
  | n :: r => by
    have ih := filt_keep p r
    simp only [List.map_cons, List.filterMap_cons, keepI, List.filter_cons]
    by_cases h : p n = true
    · rw [if_pos h, if_pos h]
      simp only [ih, List.map_cons]
    · rw [if_neg h, if_neg h]
      simp only [ih]
theorem int_at {ns : List Int} {i : Nat} {x : V} (h : (ns.map V.int)[i]? = some x) : ∃ n, n ∈ ns ∧ x = V.int n := by
  rw [List.getElem?_map] at h
  cases e : ns[i]? with
  | none => simp [e] at h
  | some n =>
    simp [e] at h
    exact ⟨n, List.mem_of_getElem? e, h.symm⟩
def ofN (ns : List Nat) : List Int := List.map (fun n : Nat => (n : Int)) ns
theorem ofN_filter (p : Int → Bool) (ns : List Nat) : (ofN ns).filter p = ofN (ns.filter fun n => p n) := by
  unfold ofN
  rw [List.filter_map]
  rfl
/-! ### sizes -/
theorem cmulN {a b : Nat} (h : a.log2 + b.log2 < 1000000) : CMulW (a : Int) (b : Int) := h
end Pn
namespace Pn
/-! ### powers -/
theorem tk_odd {f b e X B : Nat} (h : f * b ^ e = X) (hX : X ≤ B) (he : 1 ≤ e) : f * b ≤ B := by
  rcases Nat.eq_zero_or_pos b with rfl | hb
  · omega
  · have : b ≤ b ^ e := Nat.le_self_pow (by omega) b
    calc f * b ≤ f * b ^ e := Nat.mul_le_mul_left f this
      _ ≤ B := by omega
theorem tk_sq {f b e X B : Nat} (h : f * b ^ e = X) (hX : X ≤ B) (he : 2 ≤ e) (hf : f = 0 → b = 0) : b * b ≤ B := by
  rcases Nat.eq_zero_or_pos b with rfl | hb
  · omega
  · have h1 : b ^ 2 ≤ b ^ e := Nat.pow_le_pow_right hb he
    have hf1 : 1 ≤ f := by omega
    have h2 : 1 * b ^ e ≤ f * b ^ e := Nat.mul_le_mul_right _ hf1
    have h3 : b * b = b ^ 2 := by rw [Nat.pow_two]
    omega
theorem tk_step1 {f b e X : Nat} (h : f * b ^ e = X) (he : e % 2 = 1) : f * b * (b * b) ^ (e / 2) = X := by
  have e1 : e = 2 * (e / 2) + 1 := by omega
  have e2 : b ^ e = b * (b * b) ^ (e / 2) := by
    conv => lhs; rw [e1]
    rw [Nat.pow_succ, Nat.pow_mul, Nat.pow_two, Nat.mul_comm]
  rw [Nat.mul_assoc, ← e2, h]
theorem tk_step0 {f b e X : Nat} (h : f * b ^ e = X) (he : e % 2 = 0) : f * (b * b) ^ (e / 2) = X := by
  have e1 : e = 2 * (e / 2) := by omega
  have e2 : b ^ e = (b * b) ^ (e / 2) := by
    conv => lhs; rw [e1]
    rw [Nat.pow_mul, Nat.pow_two]
  rw [← e2, h]
theorem log2_le_of_le {x n : Nat} (h : x ≤ 2 ^ n) : x.log2 ≤ n := by
  rcases Nat.eq_zero_or_pos x with rfl | hx
  · simp
  · have : x.log2 < n + 1 := (Nat.log2_lt (by omega)).mpr (by rw [Nat.pow_succ]; omega)
    omega
theorem shl_one (j : Nat) : (1 : Int) * 2 ^ ((j : Int)).toNat = ((2 ^ j : Nat) : Int) := by
  rw [Int.toNat_natCast, Int.one_mul, Int.natCast_pow]
  rfl
/-! ### roots by halving -/
theorem root_unique {n e r s : Nat} (he : 1 ≤ e) (h1 : r ^ e ≤ n) (h2 : n < (r + 1) ^ e) (h3 : s ^ e ≤ n) (h4 : n < (s + 1) ^ e) : r = s := by
  have a : r < s + 1 := (Nat.pow_lt_pow_iff_left (by omega : e ≠ 0)).mp (Nat.lt_of_le_of_lt h1 h4)
  have b : s < r + 1 := (Nat.pow_lt_pow_iff_left (by omega : e ≠ 0)).mp (Nat.lt_of_le_of_lt h3 h2)
  omega
end Pn
namespace Pn
/-! ### the root of a number by an exponent; all ways in which it is a power -/
def rootD (n e : Nat) : Nat → Nat
  | 0 => 0
  | k + 1 => if (k + 1) ^ e ≤ n then k + 1 else rootD n e k
theorem rootD_spec (n e : Nat) (he : 1 ≤ e) : ∀ k, rootD n e k ≤ k ∧ (rootD n e k) ^ e ≤ n ∧ ∀ j, rootD n e k < j → j ≤ k → n < j ^ e
  | 0 => ⟨Nat.le_refl _, by rw [rootD, Nat.zero_pow (by omega)]; omega, fun j h1 h2 => by omega⟩
  | k + 1 => by
    obtain ⟨h1, h2, h3⟩ := rootD_spec n e he k
    rw [rootD]
    split
    · rename_i h
      exact ⟨Nat.le_refl _, h, fun j a b => by omega⟩
    · rename_i h
      refine ⟨by omega, h2, fun j a b => ?_⟩
      rcases Nat.lt_or_ge j (k + 1) with c | c
      · exact h3 j a (by omega)
      · have : j = k + 1 := by omega
        subst this
        omega
def rootN (n e : Nat) : Nat := rootD n e n
theorem rootN_le {n e : Nat} (he : 1 ≤ e) : (rootN n e) ^ e ≤ n := (rootD_spec n e he n).2.1
theorem rootN_lt {n e : Nat} (he : 1 ≤ e) : n < (rootN n e + 1) ^ e := by
  obtain ⟨h1, h2, h3⟩ := rootD_spec n e he n
  unfold rootN
  rcases Nat.lt_or_ge (rootD n e n) n with c | c
  · exact h3 _ (by omega) (by omega)
  · have : rootD n e n = n := by omega
    rw [this]
    exact Nat.lt_of_lt_of_le (Nat.lt_succ_self n) (Nat.le_self_pow (by omega) _)
theorem rootN_is {n e r : Nat} (he : 1 ≤ e) (h1 : r ^ e ≤ n) (h2 : n < (r + 1) ^ e) : r = rootN n e := root_unique he h1 h2 (rootN_le he) (rootN_lt he)
theorem rootN_ge {n e b : Nat} (he : 1 ≤ e) (h : b ^ e ≤ n) : b ≤ rootN n e := by
  have : b < rootN n e + 1 := (Nat.pow_lt_pow_iff_left (by omega : e ≠ 0)).mp (Nat.lt_of_le_of_lt h (rootN_lt he))
  omega
theorem rootN_pow {b e : Nat} (he : 1 ≤ e) : rootN (b ^ e) e = b := (rootN_is he (Nat.le_refl _) (Nat.pow_lt_pow_left (Nat.lt_succ_self b) (by omega))).symm
theorem rootN_gt1 {n e : Nat} (he : 1 ≤ e) : 1 < rootN n e ↔ 2 ^ e ≤ n := by
  constructor
  · intro h
    exact Nat.le_trans (Nat.pow_le_pow_left h e) (rootN_le he)
  · intro h
    exact rootN_ge he h
def wayAt (n e : Nat) : Option (Nat × Nat) := if (rootN n e) ^ e = n then some (rootN n e, e) else none
/-- the ways by exponents 2, .., k + 1 -/
def waysTo (n k : Nat) : List (Nat × Nat) := (List.range k).filterMap fun i => wayAt n (i + 2)
theorem waysTo_succ (n k : Nat) : waysTo n (k + 1) = waysTo n k ++ (wayAt n (k + 2)).toList := by
  unfold waysTo
  rw [List.range_succ, List.filterMap_append]
  cases e : wayAt n (k + 2) <;> simp [e]
def waysN (n : Nat) : List (Nat × Nat) := if n = 0 then [] else if n = 1 then [(1, 2)] else waysTo n (n.log2 - 1)
def greatestN (n : Nat) : Nat × Nat := (waysN n).getLast?.getD (n, 1)
theorem last_filt {α : Type} {f : Nat → Option α} {v : α} {i : Nat} (hi : f i = some v) : ∀ k, i < k → (∀ j, i < j → j < k → f j = none) → ((List.range k).filterMap f).getLast? = some v
  | 0, h, _ => by omega
  | k + 1, h, hn => by
    rw [List.range_succ, List.filterMap_append]
    rcases Nat.lt_or_ge i k with c | c
    · have : f k = none := hn k c (Nat.lt_succ_self k)
      simp only [List.filterMap_cons, List.filterMap_nil, this, List.append_nil]
      exact last_filt hi k c fun j a b => hn j a (by omega)
    · have : i = k := by omega
      subst this
      simp [hi]
theorem none_filt {α : Type} {f : Nat → Option α} : ∀ k, (∀ j, j < k → f j = none) → (List.range k).filterMap f = []
  | 0, _ => rfl
  | k + 1, h => by
    rw [List.range_succ, List.filterMap_append, none_filt k fun j a => h j (by omega)]
    simp [h k (Nat.lt_succ_self k)]
theorem two_pow_le_iff {n e : Nat} (hn : n ≠ 0) : 2 ^ e ≤ n ↔ e ≤ n.log2 := by
  rw [Nat.le_log2 hn]
theorem greatest_of {n e : Nat} (hn : 2 ≤ n) (he : 2 ≤ e) (h1 : 2 ^ e ≤ n) (h2 : (rootN n e) ^ e = n) (h3 : ∀ e', e < e' → 2 ^ e' ≤ n → (rootN n e') ^ e' ≠ n) : greatestN n = (rootN n e, e) := by
  have hl : e ≤ n.log2 := (two_pow_le_iff (by omega)).mp h1
  unfold greatestN waysN
  rw [if_neg (by omega), if_neg (by omega)]
  unfold waysTo
  have hf : wayAt n (e - 2 + 2) = some (rootN n e, e) := by
    rw [show e - 2 + 2 = e by omega]
    unfold wayAt
    rw [if_pos h2]
  rw [last_filt (f := fun i => wayAt n (i + 2)) (i := e - 2) hf (n.log2 - 1) (by omega) fun j a b => ?_]
  · rfl
  · show wayAt n (j + 2) = none
    unfold wayAt
    rw [if_neg (h3 _ (by omega) ((two_pow_le_iff (by omega)).mpr (by omega)))]
theorem greatest_none {n : Nat} (hn : 2 ≤ n) (h : ∀ e, 2 ≤ e → 2 ^ e ≤ n → (rootN n e) ^ e ≠ n) : greatestN n = (n, 1) := by
  unfold greatestN waysN
  rw [if_neg (by omega), if_neg (by omega)]
  unfold waysTo
  rw [none_filt]
  · rfl
  · intro j hj
    show wayAt n (j + 2) = none
    unfold wayAt
    rw [if_neg (h _ (by omega) ((two_pow_le_iff (by omega)).mpr (by omega)))]
def zz (p : Nat × Nat) : Int × Int := ((p.1 : Int), (p.2 : Int))
/-! ### a power factor by factor, stopped beyond the number -/
theorem more_end {n x e j : Nat} (hx : 1 ≤ x) (hj : j ≤ e) (h : j = e ∨ n < x ^ j) : (x ^ j ≤ n ↔ x ^ e ≤ n) := by
  rcases h with rfl | h
  · exact Iff.rfl
  · have : x ^ j ≤ x ^ e := Nat.pow_le_pow_right hx hj
    constructor <;> omega
end Pn
namespace Pn
/-! ### Newton's steps to a root, in whole numbers -/
theorem rearr (r x k : Nat) : r * x ^ k + x * r ^ k ≤ x * x ^ k + r * r ^ k := by
  rcases Nat.le_total r x with h | h
  · obtain ⟨d, rfl⟩ := Nat.exists_eq_add_of_le h
    obtain ⟨c, hc⟩ := Nat.exists_eq_add_of_le (Nat.pow_le_pow_left h k)
    rw [hc]
    generalize r ^ k = y
    have : 0 ≤ d * c := Nat.zero_le _
    grind
  · obtain ⟨d, rfl⟩ := Nat.exists_eq_add_of_le h
    obtain ⟨c, hc⟩ := Nat.exists_eq_add_of_le (Nat.pow_le_pow_left h k)
    rw [hc]
    generalize x ^ k = y
    have : 0 ≤ d * c := Nat.zero_le _
    grind
theorem amgm (r x : Nat) : ∀ m, (m + 1) * r * x ^ m ≤ m * x ^ (m + 1) + r ^ (m + 1)
  | 0 => by simp
  | m + 1 => by
    have ih := amgm r x m
    have h1 := rearr r x (m + 1)
    have h2 : x * ((m + 1) * r * x ^ m) ≤ x * (m * x ^ (m + 1) + r ^ (m + 1)) := Nat.mul_le_mul_left x ih
    have e1 : x ^ (m + 1) = x * x ^ m := by rw [Nat.pow_succ, Nat.mul_comm]
    have e2 : x ^ (m + 1 + 1) = x * (x * x ^ m) := by rw [Nat.pow_succ, e1, Nat.mul_comm]
    have e3 : r ^ (m + 1 + 1) = r * r ^ (m + 1) := by rw [Nat.pow_succ, Nat.mul_comm]
    rw [e1] at h1 h2
    rw [e1, e2, e3]
    generalize x ^ m = y at *
    generalize r ^ (m + 1) = z at *
    grind
theorem newton_ge {n e r x : Nat} (he : 1 ≤ e) (hx : 1 ≤ x) (hr : r ^ e ≤ n) : r ≤ ((e - 1) * x + n / x ^ (e - 1)) / e := by
  obtain ⟨m, rfl⟩ : ∃ m, e = m + 1 := ⟨e - 1, by omega⟩
  rw [Nat.add_sub_cancel]
  have hy : 0 < x ^ m := Nat.pow_pos (by omega)
  have h := amgm r x m
  rw [Nat.le_div_iff_mul_le (by omega)]
  have e1 : x ^ (m + 1) = x * x ^ m := by rw [Nat.pow_succ, Nat.mul_comm]
  rw [e1] at h
  rcases Nat.le_total (r * (m + 1)) (m * x) with c | c
  · exact Nat.le_trans c (Nat.le_add_right _ _)
  · obtain ⟨d, hd⟩ := Nat.exists_eq_add_of_le c
    have : d ≤ n / x ^ m := by
      rw [Nat.le_div_iff_mul_le hy]
      have e2 : (m + 1) * r * x ^ m = m * (x * x ^ m) + d * x ^ m := by
        rw [show (m + 1) * r = r * (m + 1) by rw [Nat.mul_comm], hd, Nat.add_mul, Nat.mul_assoc]
      omega
    omega
theorem newton_stop {n e x : Nat} (he : 1 ≤ e) (hx : 1 ≤ x) (h : x ≤ ((e - 1) * x + n / x ^ (e - 1)) / e) : x ^ e ≤ n := by
  obtain ⟨m, rfl⟩ : ∃ m, e = m + 1 := ⟨e - 1, by omega⟩
  rw [Nat.add_sub_cancel] at h
  have hy : 0 < x ^ m := Nat.pow_pos (by omega)
  rw [Nat.le_div_iff_mul_le (by omega)] at h
  have h2 : x ≤ n / x ^ m := by
    have : x * (m + 1) = m * x + x := by rw [Nat.mul_add, Nat.mul_one, Nat.mul_comm]
    omega
  rw [Nat.le_div_iff_mul_le hy] at h2
  rw [Nat.pow_succ, Nat.mul_comm]
  exact h2
theorem newton_start {n e : Nat} (he : 1 ≤ e) : rootN n e ≤ 2 ^ ((n.log2 + 1 + e - 1) / e) := by
  have h1 : n < 2 ^ (n.log2 + 1) := Nat.lt_log2_self
  have h2 : n.log2 + 1 ≤ (n.log2 + 1 + e - 1) / e * e := by
    have := Nat.lt_div_mul_add (a := n.log2 + 1 + e - 1) (b := e) (by omega)
    omega
  have h3 : (rootN n e) ^ e < (2 ^ ((n.log2 + 1 + e - 1) / e)) ^ e := by
    rw [← Nat.pow_mul]
    exact Nat.lt_of_le_of_lt (rootN_le he) (Nat.lt_of_lt_of_le h1 (Nat.pow_le_pow_right (by decide) h2))
  exact Nat.le_of_lt ((Nat.pow_lt_pow_iff_left (by omega : e ≠ 0)).mp h3)
theorem rootN_0 {e : Nat} (he : 1 ≤ e) : rootN 0 e = 0 := (rootN_is he (by rw [Nat.zero_pow (by omega)]; omega) (by simp)).symm
theorem rootN_1 {e : Nat} (he : 1 ≤ e) : rootN 1 e = 1 := (rootN_is he (by simp) (Nat.one_lt_two_pow (by omega))).symm
theorem rootN_pos {n e : Nat} (he : 1 ≤ e) (hn : 1 ≤ n) : 1 ≤ rootN n e := rootN_ge he (by simpa using hn)
end Pn
namespace Pn
/-! ### powers, the next one, the one before -/
def IsPow (m : Nat) : Prop := ∃ b e : Nat, 1 ≤ b ∧ 2 ≤ e ∧ m = b ^ e
def NextPow (n g : Nat) : Prop := IsPow g ∧ n < g ∧ ∀ m, IsPow m → n < m → g ≤ m
def PrevPow (n l : Nat) : Prop := IsPow l ∧ l ≤ n ∧ ∀ m, IsPow m → m ≤ n → m ≤ l
theorem NextPow.eq {n g g' : Nat} (h : NextPow n g) (h' : NextPow n g') : g = g' := Nat.le_antisymm (h.2.2 _ h'.1 h'.2.1) (h'.2.2 _ h.1 h.2.1)
theorem PrevPow.eq {n g g' : Nat} (h : PrevPow n g) (h' : PrevPow n g') : g = g' := Nat.le_antisymm (h'.2.2 _ h.1 h.2.1) (h.2.2 _ h'.1 h'.2.1)
theorem isPow_one : IsPow 1 := ⟨1, 2, by omega, by omega, rfl⟩
theorem IsPow.pos {m : Nat} (h : IsPow m) : 1 ≤ m := by
  obtain ⟨b, e, h1, h2, rfl⟩ := h
  exact Nat.pow_pos (by omega)
theorem IsPow.base {m : Nat} (h : IsPow m) (hm : 2 ≤ m) : ∃ b e : Nat, 2 ≤ b ∧ 2 ≤ e ∧ m = b ^ e := by
  obtain ⟨b, e, h1, h2, rfl⟩ := h
  rcases (by omega : b = 1 ∨ 2 ≤ b) with rfl | h
  · simp at hm
  · exact ⟨b, e, h, h2, rfl⟩
theorem IsPow.four {m : Nat} (h : IsPow m) (hm : 2 ≤ m) : 4 ≤ m := by
  obtain ⟨b, e, h1, h2, rfl⟩ := h.base hm
  calc 4 = 2 ^ 2 := rfl
    _ ≤ b ^ 2 := Nat.pow_le_pow_left h1 2
    _ ≤ b ^ e := Nat.pow_le_pow_right (by omega) h2
theorem isPow_root {n e : Nat} (he : 2 ≤ e) (hn : 1 ≤ n) : IsPow (rootN n e ^ e) := ⟨_, e, rootN_pos (by omega) hn, he, rfl⟩
theorem isPow_up {n e : Nat} (he : 2 ≤ e) : IsPow ((rootN n e + 1) ^ e) := ⟨_, e, by omega, he, rfl⟩
/-- g is the next power above n where it is one of these, or no more than a power of two, and none of these is less -/
theorem nextPow_of {n g T : Nat} (hn : 1 ≤ n) (hg : IsPow g) (hgn : n < g) (hgT : ∀ m, IsPow m → n < m → 2 ^ (T + 1) ≤ m → g ≤ m) (hm : ∀ e, 2 ≤ e → e ≤ T → g ≤ (rootN n e + 1) ^ e) : NextPow n g := by
  refine ⟨hg, hgn, fun m hp hm2 => ?_⟩
  obtain ⟨b, e, h1, h2, rfl⟩ := hp.base (by omega)
  rcases Nat.lt_or_ge T e with c | c
  · exact hgT _ hp hm2 (Nat.le_trans (Nat.pow_le_pow_right (by omega) c) (Nat.pow_le_pow_left h1 e))
  · refine Nat.le_trans (hm e h2 c) (Nat.pow_le_pow_left ?_ e)
    have h3 : (rootN n e) ^ e < b ^ e := Nat.lt_of_le_of_lt (rootN_le (by omega)) hm2
    exact (Nat.pow_lt_pow_iff_left (by omega : e ≠ 0)).mp h3
theorem prevPow_of {n l : Nat} (hn : 1 ≤ n) (hl : IsPow l) (hln : l ≤ n) (hm : ∀ e, 2 ≤ e → e ≤ n.log2 → rootN n e ^ e ≤ l) : PrevPow n l := by
  refine ⟨hl, hln, fun m hp hm2 => ?_⟩
  rcases (by have := hp.pos; omega : m = 1 ∨ 2 ≤ m) with rfl | h
  · exact hl.pos
  · obtain ⟨b, e, h1, h2, rfl⟩ := hp.base h
    have he : e ≤ n.log2 := (two_pow_le_iff (by omega)).mp (Nat.le_trans (Nat.pow_le_pow_left h1 e) hm2)
    exact Nat.le_trans (Nat.pow_le_pow_left (rootN_ge (by omega) hm2) e) (hm e h2 he)
theorem lt_two_pow_log (n : Nat) : n < 2 ^ (n.log2 + 1) := Nat.lt_log2_self
theorem rootN_big {n e : Nat} (hn : 1 ≤ n) (h : n.log2 < e) : rootN n e = 1 := (rootN_is (by omega) (by simpa using hn) (Nat.lt_of_lt_of_le (lt_two_pow_log n) (Nat.pow_le_pow_right (by decide) h))).symm
theorem isPow_iff {n : Nat} : IsPow n ↔ n = 1 ∨ ∃ e, 2 ≤ e ∧ 2 ^ e ≤ n ∧ rootN n e ^ e = n := by
  constructor
  · intro h
    rcases (by have := h.pos; omega : n = 1 ∨ 2 ≤ n) with rfl | h2
    · exact .inl rfl
    · obtain ⟨b, e, h3, h4, rfl⟩ := h.base h2
      exact .inr ⟨e, h4, Nat.pow_le_pow_left h3 e, by rw [rootN_pow (by omega)]⟩
  · rintro (rfl | ⟨e, h1, h2, h3⟩)
    · exact isPow_one
    · exact ⟨rootN n e, e, by have := (rootN_gt1 (n := n) (e := e) (by omega)).mpr h2; omega, h1, h3.symm⟩
def Beside (n : Nat) (l : Option Nat) (g : Nat) : Prop := (n = 0 → g = 1) ∧ (1 ≤ n → NextPow n g) ∧ (n ≤ 1 → l = none) ∧ (2 ≤ n → ∃ x, l = some x ∧ PrevPow (n - 1) x)
theorem Beside.eq {n : Nat} {l l' : Option Nat} {g g' : Nat} (h : Beside n l g) (h' : Beside n l' g') : l = l' ∧ g = g' := by
  obtain ⟨a1, a2, a3, a4⟩ := h
  obtain ⟨b1, b2, b3, b4⟩ := h'
  constructor
  · rcases Nat.lt_or_ge n 2 with c | c
    · rw [a3 (by omega), b3 (by omega)]
    · obtain ⟨x, rfl, hx⟩ := a4 c
      obtain ⟨y, rfl, hy⟩ := b4 c
      rw [hx.eq hy]
  · rcases Nat.eq_zero_or_pos n with c | c
    · rw [a1 c, b1 c]
    · exact (a2 c).eq (b2 c)
def Nearest (n r : Nat) : Prop := (n = 0 → r = 1) ∧ (1 ≤ n → ∃ l g, PrevPow n l ∧ NextPow n g ∧ r = if n - l ≤ g - n then l else g)
theorem Nearest.eq {n r r' : Nat} (h : Nearest n r) (h' : Nearest n r') : r = r' := by
  rcases Nat.eq_zero_or_pos n with c | c
  · rw [h.1 c, h'.1 c]
  · obtain ⟨l, g, h1, h2, h3⟩ := h.2 c
    obtain ⟨l', g', h1', h2', h3'⟩ := h'.2 c
    rw [h3, h3', h1.eq h1', h2.eq h2']
theorem near_pow {n r : Nat} (hp : IsPow n) (h : Nearest n r) : r = n := by
  obtain ⟨l, g, h1, h2, h3⟩ := h.2 hp.pos
  have e : l = n := h1.eq ⟨hp, Nat.le_refl _, fun m _ hm => hm⟩
  subst e
  rw [h3, if_pos (by omega)]
theorem small_pow {m : Nat} (hp : IsPow m) (hm : m < 8) : m = 1 ∨ m = 4 := by
  rcases (by have := hp.pos; omega : m = 1 ∨ 2 ≤ m) with h | h
  · exact .inl h
  · right
    obtain ⟨b, e, h1, h2, rfl⟩ := hp.base h
    rcases (by omega : b = 2 ∨ 3 ≤ b) with rfl | hb
    · rcases (by omega : e = 2 ∨ 3 ≤ e) with rfl | he
      · rfl
      · have : 2 ^ 3 ≤ 2 ^ e := Nat.pow_le_pow_right (by decide) he
        omega
    · have h3 : 3 ^ 2 ≤ b ^ 2 := Nat.pow_le_pow_left hb 2
      have h4 : b ^ 2 ≤ b ^ e := Nat.pow_le_pow_right (by omega) h2
      omega
theorem isPow_four : IsPow 4 := ⟨2, 2, by omega, by omega, rfl⟩
theorem isPow_eight : IsPow 8 := ⟨2, 3, by omega, by omega, rfl⟩
theorem next_one : NextPow 1 4 := ⟨isPow_four, by omega, fun m hp h => hp.four h⟩
theorem next_two : NextPow 2 4 := ⟨isPow_four, by omega, fun m hp h => hp.four (by omega)⟩
theorem prev_two : PrevPow 2 1 := ⟨isPow_one, by omega, fun m hp h => by
  rcases small_pow hp (by omega) with h | h <;> omega⟩
theorem prev_six : PrevPow 6 4 := ⟨isPow_four, by omega, fun m hp h => by
  rcases small_pow hp (by omega) with h | h <;> omega⟩
theorem next_six : NextPow 6 8 := ⟨isPow_eight, by omega, fun m hp h => by
  rcases Nat.lt_or_ge m 8 with c | c
  · rcases small_pow hp c with h | h <;> omega
  · exact c⟩
end Pn
namespace Pn
/-! ### all powers to a number, in order -/
open Classical in
noncomputable def powAt (i : Nat) : Option Nat := if IsPow (1 + i) then some (1 + i) else none
noncomputable def powL (k : Nat) : List Nat := (List.range k).filterMap powAt
theorem mem_powL {k m : Nat} : m ∈ powL k ↔ 1 ≤ m ∧ m ≤ k ∧ IsPow m := by
  unfold powL powAt
  simp only [List.mem_filterMap, List.mem_range]
  constructor
  · rintro ⟨i, hi, h⟩
    split at h
    · rename_i hp
      cases h
      exact ⟨by omega, by omega, hp⟩
    · cases h
  · rintro ⟨h1, h2, h3⟩
    refine ⟨m - 1, by omega, ?_⟩
    have e : 1 + (m - 1) = m := by omega
    rw [e, if_pos h3]
theorem powL_sorted (k : Nat) : (powL k).Pairwise (· < ·) := by
  unfold powL
  rw [List.pairwise_filterMap]
  refine List.Pairwise.imp (R := fun a b => a < b) ?_ List.pairwise_lt_range
  intro a b hab x hx y hy
  unfold powAt at hx hy
  split at hx
  · split at hy
    · cases hx
      cases hy
      omega
    · cases hy
  · cases hx
theorem last_ge : ∀ {l : List Nat} {z : Nat}, l.Pairwise (· < ·) → l.getLast? = some z → ∀ y ∈ l, y ≤ z
  | [], _, _, h, _, _ => by simp at h
  | [x], z, _, h, y, hy => by
    simp at h hy
    omega
  | x :: x' :: r, z, hp, h, y, hy => by
    rw [List.getLast?_cons_cons] at h
    rw [List.pairwise_cons] at hp
    have ih := last_ge hp.2 h
    rcases List.mem_cons.mp hy with rfl | hy
    · have := hp.1 x' List.mem_cons_self
      have := ih x' List.mem_cons_self
      omega
    · exact ih y hy
theorem bs_list {n k g : Nat} {r : List Nat} (hn : n < 500) (hk : n + 60 ≤ k) (hm : (powL k).filter (fun m => decide (n < m)) = g :: r) : Beside n ((powL k).filter fun m => decide (m < n)).getLast? g := by
  have hs : ((powL k).filter fun m => decide (n < m)).Pairwise (· < ·) := (powL_sorted k).filter _
  rw [hm, List.pairwise_cons] at hs
  have hg : g ∈ (powL k).filter (fun m => decide (n < m)) := by rw [hm]; exact List.mem_cons_self
  rw [List.mem_filter, mem_powL, decide_eq_true_eq] at hg
  obtain ⟨⟨g1, g2, g3⟩, g4⟩ := hg
  have hmin : ∀ m, IsPow m → n < m → g ≤ m := by
    intro m hp hnm
    rcases Nat.lt_or_ge k m with c | c
    · omega
    · have : m ∈ (powL k).filter (fun m => decide (n < m)) := by
        rw [List.mem_filter, mem_powL, decide_eq_true_eq]
        exact ⟨⟨hp.pos, c, hp⟩, hnm⟩
      rw [hm] at this
      rcases List.mem_cons.mp this with rfl | h
      · exact Nat.le_refl _
      · exact Nat.le_of_lt (hs.1 m h)
  refine ⟨fun h0 => ?_, fun _ => ⟨g3, g4, hmin⟩, fun h1 => ?_, fun h2 => ?_⟩
  · have := hmin 1 isPow_one (by omega)
    omega
  · have : (powL k).filter (fun m => decide (m < n)) = [] := by
      rw [List.filter_eq_nil_iff]
      intro m hm
      rw [mem_powL] at hm
      simp
      omega
    rw [this]
    rfl
  · have h1 : 1 ∈ (powL k).filter (fun m => decide (m < n)) := by
      rw [List.mem_filter, mem_powL, decide_eq_true_eq]
      exact ⟨⟨by omega, by omega, isPow_one⟩, by omega⟩
    have hne : (powL k).filter (fun m => decide (m < n)) ≠ [] := fun e => by
      rw [e] at h1
      cases h1
    have hl := List.getLast?_eq_some_getLast hne
    refine ⟨_, hl, ?_⟩
    have hmem := List.getLast_mem hne
    have hge := last_ge ((powL_sorted k).filter _) hl
    rw [List.mem_filter, mem_powL, decide_eq_true_eq] at hmem
    obtain ⟨⟨a1, a2, a3⟩, a4⟩ := hmem
    refine ⟨a3, by omega, fun m hp hm => hge m ?_⟩
    rw [List.mem_filter, mem_powL, decide_eq_true_eq]
    exact ⟨⟨hp.pos, by omega, hp⟩, by omega⟩
theorem more_ex {n k : Nat} (hn : n < 500) (hk : n + 60 ≤ k) : ∃ g r, (powL k).filter (fun m => decide (n < m)) = g :: r := by
  have h1 := rootN_le (n := n) (e := 2) (by omega)
  have h2 := rootN_lt (n := n) (e := 2) (by omega)
  have h3 : rootN n 2 ≤ 22 := by
    refine Nat.le_of_not_lt fun c => ?_
    have : 23 ^ 2 ≤ rootN n 2 ^ 2 := Nat.pow_le_pow_left c 2
    omega
  have hp : IsPow ((rootN n 2 + 1) ^ 2) := isPow_up (by omega)
  have h4 : (rootN n 2 + 1) ^ 2 = rootN n 2 ^ 2 + 2 * rootN n 2 + 1 := by grind
  have : (rootN n 2 + 1) ^ 2 ∈ (powL k).filter (fun m => decide (n < m)) := by
    rw [List.mem_filter, mem_powL, decide_eq_true_eq]
    exact ⟨⟨hp.pos, by omega, hp⟩, h2⟩
  cases e : (powL k).filter (fun m => decide (n < m)) with
  | nil =>
    rw [e] at this
    cases this
  | cons g r => exact ⟨g, r, rfl⟩
end Pn
namespace Pn
/-! ### how often a rest comes -/
def sumN : Nat → (Nat → Nat) → Nat
  | 0, _ => 0
  | n + 1, f => sumN n f + f n
theorem sumN_congr {f g : Nat → Nat} : ∀ n, (∀ i, i < n → f i = g i) → sumN n f = sumN n g
  | 0, _ => rfl
  | n + 1, h => by rw [sumN, sumN, sumN_congr n fun i hi => h i (by omega), h n (by omega)]
/-- one place is greater by a -/
theorem sumN_one {f g : Nat → Nat} {a : Nat} : ∀ n j, j < n → (∀ i, i < n → i ≠ j → f i = g i) → f j = g j + a → sumN n f = sumN n g + a
  | 0, _, h, _, _ => by omega
  | n + 1, j, h, h1, h2 => by
    rw [sumN, sumN]
    rcases Nat.lt_or_ge j n with c | c
    · rw [sumN_one n j c (fun i hi => h1 i (by omega)) h2, h1 n (by omega) (by omega)]
      omega
    · have : j = n := by omega
      subst this
      rw [sumN_congr j fun i hi => h1 i (by omega) (by omega), h2]
      omega
theorem sumN_zero {f : Nat → Nat} {m : Nat} : ∀ n, m ≤ n → (∀ i, m ≤ i → i < n → f i = 0) → sumN n f = sumN m f
  | 0, h, _ => by
    have : m = 0 := by omega
    rw [this]
  | n + 1, h, h1 => by
    rcases Nat.lt_or_ge n m with c | c
    · have : m = n + 1 := by omega
      rw [this]
    · rw [sumN, sumN_zero n c fun i a b => h1 i a (by omega), h1 n c (by omega)]
      omega
theorem div_succ' {m d : Nat} (hd : 0 < d) : (m + 1) / d = m / d + if (m + 1) % d = 0 then 1 else 0 := by
  have h1 := Nat.div_add_mod m d
  have h2 := Nat.mod_lt m hd
  by_cases c : m % d + 1 = d
  · have e : m + 1 = d * (m / d + 1) := by rw [Nat.mul_add, Nat.mul_one]; omega
    rw [if_pos]
    · conv => lhs; rw [e]
      rw [Nat.mul_div_cancel_left _ hd]
    · rw [e, Nat.mul_mod_right]
  · have e : m + 1 = d * (m / d) + (m % d + 1) := by omega
    rw [if_neg]
    · conv => lhs; rw [e]
      rw [Nat.mul_add_div hd, Nat.div_eq_of_lt (show m % d + 1 < d by omega)]
    · rw [e, Nat.mul_add_mod, Nat.mod_eq_of_lt (by omega)]
      omega
/-- by the bases 1, .., d below one another -/
def cntS (B e d r : Nat) : Nat := sumN d fun i => if (i + 1) ^ e % d = r then (B + d - (i + 1)) / d else 0
def cntR (B e d r : Nat) : Nat := sumN B fun i => if (i + 1) ^ e % d = r then 1 else 0
theorem pow_mod_eq {a b e d : Nat} (h : a % d = b % d) : a ^ e % d = b ^ e % d := by
  rw [Nat.pow_mod, h, ← Nat.pow_mod]
theorem cntS_succ {B e d r : Nat} (hd : 0 < d) : cntS (B + 1) e d r = cntS B e d r + if (B + 1) ^ e % d = r then 1 else 0 := by
  unfold cntS
  have hj : B % d < d := Nat.mod_lt B hd
  have hB := Nat.div_add_mod B d
  refine sumN_one d (B % d) hj (fun i hi hne => ?_) ?_
  · have e1 : B + 1 + d - (i + 1) = (B + d - (i + 1)) + 1 := by omega
    rw [e1, div_succ' hd, if_neg (c := (B + d - (i + 1) + 1) % d = 0)]
    · rfl
    · intro h
      apply hne
      have h2 : B + d - (i + 1) + 1 = d * (B / d) + (B % d + d - i) := by omega
      rw [h2, Nat.mul_add_mod] at h
      rcases Nat.lt_or_ge (B % d + d - i) d with c | c
      · rw [Nat.mod_eq_of_lt c] at h
        omega
      · have h3 : B % d + d - i = (B % d - i) + d := by omega
        rw [h3, Nat.add_mod_right, Nat.mod_eq_of_lt (by omega)] at h
        omega
  · have hc : (B % d + 1) ^ e % d = (B + 1) ^ e % d := pow_mod_eq (by rw [Nat.mod_add_mod])
    rw [hc]
    by_cases c : (B + 1) ^ e % d = r
    · rw [if_pos c, if_pos c, if_pos c]
      have e1 : B + 1 + d - (B % d + 1) = (B + d - (B % d + 1)) + 1 := by omega
      rw [e1, div_succ' hd, if_pos]
      have h2 : B + d - (B % d + 1) + 1 = d * (B / d) + d := by omega
      rw [h2, Nat.mul_add_mod, Nat.mod_self]
    · rw [if_neg c, if_neg c, if_neg c]
theorem cntS_zero {e d r : Nat} (hd : 0 < d) : cntS 0 e d r = 0 := by
  unfold cntS
  rw [sumN_zero (m := 0) d (by omega)]
  · rfl
  · intro i _ hi
    split
    · rw [Nat.div_eq_of_lt (by omega)]
    · rfl
theorem cntS_eq {e d r : Nat} (hd : 0 < d) : ∀ B, cntS B e d r = cntR B e d r
  | 0 => cntS_zero hd
  | B + 1 => by
    rw [cntS_succ hd, cntS_eq hd B]
    rfl
/-- as the program sums -/
theorem cnt_prog {B e d r : Nat} (hd : 0 < d) : sumN (min d B) (fun i => if (i + 1) ^ e % d = r then (B - (i + 1)) / d + 1 else 0) = cntS B e d r := by
  unfold cntS
  rw [sumN_zero (m := min d B) d (by omega)]
  · refine sumN_congr _ fun i hi => ?_
    split
    · rw [show B + d - (i + 1) = (B - (i + 1)) + d by omega, Nat.add_div_right _ hd]
    · rfl
  · intro i h1 h2
    split
    · rw [Nat.div_eq_of_lt (by omega)]
    · rfl
theorem sumN_shift (f : Nat → Nat) : ∀ n, sumN (n + 1) f = f 0 + sumN n fun i => f (i + 1)
  | 0 => by simp [sumN]
  | n + 1 => by
    rw [sumN, sumN_shift f n, sumN]
    omega
/-- as the law sums: by the bases 0, .., d - 1 -/
theorem cnt_law {B e d r : Nat} (hd : 0 < d) : sumN d (fun i => if i ^ e % d = r then (B + d - i) / d - (if i = 0 then 1 else 0) else 0) = cntS B e d r := by
  obtain ⟨m, rfl⟩ : ∃ m, d = m + 1 := ⟨d - 1, by omega⟩
  unfold cntS
  rw [sumN_shift, sumN]
  have h0 : (0 : Nat) ^ e % (m + 1) = (m + 1) ^ e % (m + 1) := pow_mod_eq (by simp)
  have h1 : (if (0 : Nat) ^ e % (m + 1) = r then (B + (m + 1) - 0) / (m + 1) - (if (0 : Nat) = 0 then 1 else 0) else 0) = if (m + 1) ^ e % (m + 1) = r then (B + (m + 1) - (m + 1)) / (m + 1) else 0 := by
    rw [h0]
    split
    · rw [if_pos rfl, Nat.sub_zero, Nat.add_div_right _ hd, Nat.add_sub_cancel, Nat.add_sub_cancel]
    · rfl
  rw [h1, Nat.add_comm]
  congr 1
/-- a rest by halves -/
theorem rest_step1 {f b e d X : Nat} (h : f * b ^ e % d = X) (he : e % 2 = 1) : (f * b % d) * (b * b % d) ^ (e / 2) % d = X := by
  have e1 : e = 2 * (e / 2) + 1 := by omega
  have e2 : b ^ e = b * (b * b) ^ (e / 2) := by
    conv => lhs; rw [e1]
    rw [Nat.pow_succ, Nat.pow_mul, Nat.pow_two, Nat.mul_comm]
  rw [e2, ← Nat.mul_assoc] at h
  rw [Nat.mul_mod, Nat.mod_mod, ← Nat.pow_mod, ← Nat.mul_mod]
  exact h
theorem rest_step0 {f b e d X : Nat} (h : f * b ^ e % d = X) (he : e % 2 = 0) : f * (b * b % d) ^ (e / 2) % d = X := by
  have e1 : e = 2 * (e / 2) := by omega
  have e2 : b ^ e = (b * b) ^ (e / 2) := by
    conv => lhs; rw [e1]
    rw [Nat.pow_mul, Nat.pow_two]
  rw [e2] at h
  rw [Nat.mul_mod, ← Nat.pow_mod, ← Nat.mul_mod]
  exact h
theorem count_cntR (e d r : Nat) : ∀ B, ((List.range B).map fun i => (((1 + i) ^ e % d : Nat) : Int)).count (r : Int) = cntR B e d r
  | 0 => rfl
  | B + 1 => by
    have ih := count_cntR e d r B
    rw [List.range_succ, List.map_append, List.count_append, ih]
    unfold cntR
    rw [sumN]
    congr 1
    rw [List.map_singleton, List.count_singleton, Nat.add_comm 1 B]
    by_cases h : (B + 1) ^ e % d = r
    · rw [if_pos h, if_pos (by rw [h]; exact beq_self_eq_true _)]
    · rw [if_neg h, if_neg (by rw [beq_iff_eq]; omega)]
end Pn
namespace Pn
/-! ### by which exponents a number is a power -/
theorem pow_inj_left {a b n : Nat} (hn : n ≠ 0) (h : a ^ n = b ^ n) : a = b := by
  rcases Nat.lt_trichotomy a b with c | c | c
  · have := Nat.pow_lt_pow_left c hn
    omega
  · exact c
  · have := Nat.pow_lt_pow_left c hn
    omega
theorem dvd_of_pow_dvd {a b n : Nat} (hn : n ≠ 0) (h : a ^ n ∣ b ^ n) : a ∣ b := (Nat.pow_dvd_pow_iff hn).mp h
/-- two powers that are one, by exponents with nothing in common -/
theorem coprime_pow : ∀ (s a b x y : Nat), a + b ≤ s → 1 ≤ a → 1 ≤ b → 1 ≤ x → 1 ≤ y → Nat.gcd a b = 1 → x ^ a = y ^ b → ∃ z, x = z ^ b ∧ y = z ^ a
  | 0, a, b, _, _, h, ha, _, _, _, _, _ => by omega
  | s + 1, a, b, x, y, h, ha, hb, hx, hy, hg, he => by
    rcases Nat.lt_trichotomy a b with c | c | c
    · -- y divides x
      have hd : y ∣ x := dvd_of_pow_dvd (n := a) (by omega) (by rw [he]; exact Nat.pow_dvd_pow y (by omega))
      obtain ⟨k, rfl⟩ := hd
      have hk : 1 ≤ k := by
        rcases Nat.eq_zero_or_pos k with rfl | h0
        · simp at hx
        · exact h0
      have e1 : k ^ a = y ^ (b - a) := by
        have h1 : y ^ a * k ^ a = y ^ a * y ^ (b - a) := by
          rw [← Nat.mul_pow, he, ← Nat.pow_add]
          congr 1
          omega
        exact Nat.eq_of_mul_eq_mul_left (Nat.pow_pos (by omega)) h1
      have hg2 : Nat.gcd a (b - a) = 1 := by
        rw [Nat.gcd_sub_self_right (by omega)]
        exact hg
      obtain ⟨z, h1, h2⟩ := coprime_pow s a (b - a) k y (by omega) ha (by omega) hk hy hg2 e1
      refine ⟨z, ?_, h2⟩
      rw [h1, h2, ← Nat.pow_add]
      congr 1
      omega
    · subst c
      rw [Nat.gcd_self] at hg
      subst hg
      simp at he
      exact ⟨x, by simp, by simpa using he.symm⟩
    · have hd : x ∣ y := dvd_of_pow_dvd (n := b) (by omega) (by rw [← he]; exact Nat.pow_dvd_pow x (by omega))
      obtain ⟨k, rfl⟩ := hd
      have hk : 1 ≤ k := by
        rcases Nat.eq_zero_or_pos k with rfl | h0
        · simp at hy
        · exact h0
      have e1 : x ^ (a - b) = k ^ b := by
        have h1 : x ^ b * x ^ (a - b) = x ^ b * k ^ b := by
          rw [← Nat.mul_pow, ← he, ← Nat.pow_add]
          congr 1
          omega
        exact Nat.eq_of_mul_eq_mul_left (Nat.pow_pos (by omega)) h1
      have hg2 : Nat.gcd (a - b) b = 1 := by
        rw [Nat.gcd_sub_self_left (by omega)]
        exact hg
      obtain ⟨z, h1, h2⟩ := coprime_pow s (a - b) b x k (by omega) (by omega) hb hx hk hg2 e1
      refine ⟨z, h1, ?_⟩
      rw [h1, h2, ← Nat.pow_add]
      congr 1
      omega
/-- m is a power by e -/
def PowBy (m e : Nat) : Prop := ∃ b, m = b ^ e
theorem PowBy.lcm {m a b : Nat} (hm : 1 ≤ m) (ha : 1 ≤ a) (hb : 1 ≤ b) (h1 : PowBy m a) (h2 : PowBy m b) : PowBy m (Nat.lcm a b) := by
  obtain ⟨x, hx⟩ := h1
  obtain ⟨y, hy⟩ := h2
  have hg : 0 < Nat.gcd a b := Nat.gcd_pos_of_pos_left b ha
  have hx1 : 1 ≤ x := by
    rcases Nat.eq_zero_or_pos x with rfl | h
    · rw [Nat.zero_pow ha] at hx
      omega
    · exact h
  have hy1 : 1 ≤ y := by
    rcases Nat.eq_zero_or_pos y with rfl | h
    · rw [Nat.zero_pow hb] at hy
      omega
    · exact h
  have ea : a = a / Nat.gcd a b * Nat.gcd a b := (Nat.div_mul_cancel (Nat.gcd_dvd_left a b)).symm
  have eb : b = b / Nat.gcd a b * Nat.gcd a b := (Nat.div_mul_cancel (Nat.gcd_dvd_right a b)).symm
  have h3 : x ^ (a / Nat.gcd a b) = y ^ (b / Nat.gcd a b) := by
    refine pow_inj_left (n := Nat.gcd a b) (by omega) ?_
    rw [← Nat.pow_mul, ← Nat.pow_mul, ← ea, ← eb, ← hx, ← hy]
  have ha' : 1 ≤ a / Nat.gcd a b := Nat.div_pos (Nat.gcd_le_left b ha) hg
  have hb' : 1 ≤ b / Nat.gcd a b := Nat.div_pos (Nat.gcd_le_right a hb) hg
  have hc : Nat.gcd (a / Nat.gcd a b) (b / Nat.gcd a b) = 1 := by rw [Nat.gcd_div (Nat.gcd_dvd_left a b) (Nat.gcd_dvd_right a b), Nat.div_self hg]
  obtain ⟨z, h4, h5⟩ := coprime_pow _ _ _ x y (Nat.le_refl _) ha' hb' hx1 hy1 hc h3
  refine ⟨z, ?_⟩
  rw [hx, h4, ← Nat.pow_mul]
  congr 1
  unfold Nat.lcm
  rw [Nat.mul_comm a b]
  conv => lhs; rw [ea]
  rw [← Nat.mul_assoc, Nat.mul_comm]
  have : b / Nat.gcd a b * a = b * a / Nat.gcd a b := by
    rw [Nat.mul_comm b a, Nat.mul_div_assoc a (Nat.gcd_dvd_right a b), Nat.mul_comm]
  rw [← this]
  conv => rhs; rw [ea]
  rw [Nat.mul_comm (Nat.gcd a b), Nat.mul_assoc]
theorem powBy_iff {m e : Nat} (he : 1 ≤ e) : PowBy m e ↔ rootN m e ^ e = m := by
  constructor
  · rintro ⟨b, rfl⟩
    rw [rootN_pow he]
  · intro h
    exact ⟨_, h.symm⟩
instance powByDec (m e : Nat) : Decidable (1 ≤ e ∧ PowBy m e) :=
  if h : 1 ≤ e then
    if h2 : rootN m e ^ e = m then isTrue ⟨h, (powBy_iff h).mpr h2⟩ else isFalse fun c => h2 ((powBy_iff h).mp c.2)
  else isFalse fun c => h c.1
/-- the greatest exponent by which m (from 2 on) is a power, 1 where it is none -/
def gexpD (m : Nat) : Nat → Nat
  | 0 => 1
  | k + 1 => if rootN m (k + 1) ^ (k + 1) = m then k + 1 else gexpD m k
def gexp (m : Nat) : Nat := gexpD m m.log2
theorem gexpD_spec (m : Nat) : ∀ k, 1 ≤ gexpD m k ∧ PowBy m (gexpD m k) ∧ ∀ e, 1 ≤ e → e ≤ k → PowBy m e → e ≤ gexpD m k
  | 0 => ⟨Nat.le_refl _, ⟨m, by rw [gexpD, Nat.pow_one]⟩, fun e h1 h2 => by omega⟩
  | k + 1 => by
    obtain ⟨h1, h2, h3⟩ := gexpD_spec m k
    rw [gexpD]
    split
    · rename_i h
      exact ⟨by omega, (powBy_iff (by omega)).mpr h, fun e a b _ => b⟩
    · rename_i h
      refine ⟨h1, h2, fun e a b c => ?_⟩
      rcases Nat.lt_or_ge e (k + 1) with d | d
      · exact h3 e a (by omega) c
      · have : e = k + 1 := by omega
        subst this
        exact (h ((powBy_iff (by omega)).mp c)).elim
theorem powBy_le {m e : Nat} (hm : 2 ≤ m) (h : PowBy m e) : e ≤ m.log2 := by
  obtain ⟨b, rfl⟩ := h
  have hb : 2 ≤ b := by
    rcases (by omega : b = 0 ∨ b = 1 ∨ 2 ≤ b) with rfl | rfl | h
    · rcases Nat.eq_zero_or_pos e with rfl | h
      · simp at hm
      · rw [Nat.zero_pow h] at hm
        omega
    · simp at hm
    · exact h
  exact (two_pow_le_iff (by omega)).mp (Nat.pow_le_pow_left hb e)
theorem gexp_pos (m : Nat) : 1 ≤ gexp m := (gexpD_spec m _).1
theorem gexp_by (m : Nat) : PowBy m (gexp m) := (gexpD_spec m _).2.1
theorem gexp_max {m e : Nat} (hm : 2 ≤ m) (he : 1 ≤ e) (h : PowBy m e) : e ≤ gexp m := (gexpD_spec m _).2.2 e he (powBy_le hm h) h
theorem gexp_le {m : Nat} (hm : 2 ≤ m) : gexp m ≤ m.log2 := powBy_le hm (gexp_by m)
/-- a number is a power by just the divisors of its greatest exponent -/
theorem powBy_dvd {m e : Nat} (hm : 2 ≤ m) (he : 1 ≤ e) : PowBy m e ↔ e ∣ gexp m := by
  constructor
  · intro h
    have h1 := PowBy.lcm (by omega) he (gexp_pos m) h (gexp_by m)
    have h2 : 1 ≤ Nat.lcm e (gexp m) := Nat.lcm_pos he (gexp_pos m)
    have h3 := gexp_max hm h2 h1
    have h4 : gexp m ∣ Nat.lcm e (gexp m) := Nat.dvd_lcm_right _ _
    have h5 : Nat.lcm e (gexp m) = gexp m := Nat.le_antisymm h3 (Nat.le_of_dvd h2 h4)
    rw [← h5]
    exact Nat.dvd_lcm_left _ _
  · rintro ⟨k, hk⟩
    obtain ⟨b, hb⟩ := gexp_by m
    refine ⟨b ^ k, ?_⟩
    rw [← Nat.pow_mul, Nat.mul_comm k e, ← hk]
    exact hb
theorem isPow_gexp {m : Nat} (hm : 2 ≤ m) : IsPow m ↔ 2 ≤ gexp m := by
  constructor
  · intro h
    obtain ⟨b, e, h1, h2, h3⟩ := h.base hm
    exact Nat.le_trans h2 (gexp_max hm (by omega) ⟨b, h3⟩)
  · intro h
    obtain ⟨b, hb⟩ := gexp_by m
    refine ⟨b, gexp m, ?_, h, hb⟩
    rcases Nat.eq_zero_or_pos b with rfl | hb0
    · rw [Nat.zero_pow (by omega)] at hb
      omega
    · exact hb0
end Pn
namespace Pn
/-! ### how many powers there are to a number -/
theorem sumN_add (f g : Nat → Nat) : ∀ n, sumN n (fun i => f i + g i) = sumN n f + sumN n g
  | 0 => rfl
  | n + 1 => by
    rw [sumN, sumN, sumN, sumN_add f g n]
    omega
theorem sumN_nil : ∀ n, sumN n (fun _ => 0) = 0
  | 0 => rfl
  | n + 1 => by rw [sumN, sumN_nil n]
theorem sumN_swap (f : Nat → Nat → Nat) (m : Nat) : ∀ n, sumN n (fun i => sumN m fun j => f i j) = sumN m fun j => sumN n fun i => f i j
  | 0 => by
    show 0 = sumN m fun _ => 0
    rw [sumN_nil]
  | n + 1 => by
    rw [sumN, sumN_swap f m n, ← sumN_add]
    rfl
/-- just one place has 1 -/
theorem sumN_point {n j : Nat} {f : Nat → Nat} (hj : j < n) (h1 : f j = 1) (h0 : ∀ i, i < n → i ≠ j → f i = 0) : sumN n f = 1 := by
  have := sumN_one (f := f) (g := fun _ => 0) (a := 1) n j hj h0 (by rw [h1])
  rw [this, sumN_nil]
def cg (n e : Nat) : Nat := sumN (n + 1) fun m => if 2 ≤ m ∧ gexp m = e then 1 else 0
def cb (n e : Nat) : Nat := sumN (n + 1) fun m => if 2 ≤ m ∧ rootN m e ^ e = m then 1 else 0
def cp (n : Nat) : Nat := sumN (n + 1) fun m => if 2 ≤ m ∧ 2 ≤ gexp m then 1 else 0
theorem rootN_succ {n e : Nat} (he : 1 ≤ e) : rootN (n + 1) e = rootN n e + if rootN (n + 1) e ^ e = n + 1 then 1 else 0 := by
  have h1 := rootN_le (n := n) he
  have h2 := rootN_lt (n := n) he
  rcases Nat.lt_or_ge (n + 1) ((rootN n e + 1) ^ e) with c | c
  · have e1 : rootN n e = rootN (n + 1) e := rootN_is he (by omega) c
    rw [if_neg, ← e1, Nat.add_zero]
    rw [← e1]
    omega
  · have c2 : (rootN n e + 1) ^ e = n + 1 := by omega
    have e1 : rootN n e + 1 = rootN (n + 1) e := rootN_is he (by omega) (by rw [← c2]; exact Nat.pow_lt_pow_left (by omega) (by omega))
    rw [if_pos, ← e1]
    rw [← e1]
    exact c2
theorem cb_root {e : Nat} (he : 1 ≤ e) : ∀ n, 1 ≤ n → cb n e + 1 = rootN n e
  | 0, h => by omega
  | 1, _ => by
    rw [rootN_1 he]
    unfold cb
    rw [sumN, sumN, sumN]
    simp
  | n + 2, _ => by
    have ih := cb_root he (n + 1) (by omega)
    have e1 : cb (n + 2) e = cb (n + 1) e + if rootN (n + 2) e ^ e = n + 2 then 1 else 0 := by
      show sumN (n + 2 + 1) _ = sumN (n + 1 + 1) _ + _
      rw [sumN]
      congr 1
      by_cases h : rootN (n + 2) e ^ e = n + 2
      · rw [if_pos h, if_pos ⟨by omega, h⟩]
      · rw [if_neg h, if_neg fun c => h c.2]
    have e2 : rootN (n + 2) e = rootN (n + 1) e + if rootN (n + 2) e ^ e = n + 2 then 1 else 0 := rootN_succ he
    omega
theorem cb_sum {n e K : Nat} (he : 1 ≤ e) (hK : n.log2 < (K + 1) * e) : cb n e = sumN K fun i => cg n ((i + 1) * e) := by
  unfold cg
  rw [← sumN_swap (fun m i => if 2 ≤ m ∧ gexp m = (i + 1) * e then 1 else 0)]
  unfold cb
  refine sumN_congr _ fun m hm => ?_
  by_cases h2 : 2 ≤ m
  · have hmn : m.log2 ≤ n.log2 := by
      rw [Nat.le_log2 (by omega)]
      exact Nat.le_trans (Nat.log2_self_le (by omega)) (by omega)
    by_cases hp : rootN m e ^ e = m
    · rw [if_pos ⟨h2, hp⟩]
      have hd := (powBy_dvd h2 he).mp ((powBy_iff he).mpr hp)
      obtain ⟨k, hk⟩ := hd
      have hk1 : 1 ≤ k := by
        rcases Nat.eq_zero_or_pos k with rfl | h
        · have := gexp_pos m
          omega
        · exact h
      have hkK : k < K + 1 := by
        have h3 : e * k < (K + 1) * e := by
          have := gexp_le h2
          omega
        rw [Nat.mul_comm] at h3
        exact Nat.lt_of_mul_lt_mul_right h3
      refine (sumN_point (j := k - 1) (by omega) ?_ fun i hi hne => ?_).symm
      · rw [if_pos]
        refine ⟨h2, ?_⟩
        rw [show k - 1 + 1 = k by omega, hk, Nat.mul_comm]
      · rw [if_neg]
        rintro ⟨_, h4⟩
        rw [hk, Nat.mul_comm] at h4
        have := Nat.eq_of_mul_eq_mul_right (by omega) h4
        omega
    · rw [if_neg fun c => hp c.2]
      rw [sumN_congr (g := fun _ => 0) K, sumN_nil]
      intro i hi
      rw [if_neg]
      rintro ⟨_, h4⟩
      exact hp ((powBy_iff he).mp ((powBy_dvd h2 he).mpr ⟨i + 1, by rw [h4, Nat.mul_comm]⟩))
  · rw [if_neg fun c => h2 c.1]
    rw [sumN_congr (g := fun _ => 0) K, sumN_nil]
    intro i hi
    rw [if_neg fun c => h2 c.1]
theorem cp_sum {n L : Nat} (hL : n.log2 ≤ L + 1) : cp n = sumN L fun i => cg n (i + 2) := by
  unfold cg
  rw [← sumN_swap (fun m i => if 2 ≤ m ∧ gexp m = i + 2 then 1 else 0)]
  unfold cp
  refine sumN_congr _ fun m hm => ?_
  by_cases h2 : 2 ≤ m ∧ 2 ≤ gexp m
  · rw [if_pos h2]
    have hmn : m.log2 ≤ n.log2 := by
      rw [Nat.le_log2 (by omega)]
      exact Nat.le_trans (Nat.log2_self_le (by omega)) (by omega)
    have := gexp_le h2.1
    refine (sumN_point (j := gexp m - 2) (by omega) ?_ fun i hi hne => ?_).symm
    · rw [if_pos ⟨h2.1, by omega⟩]
    · rw [if_neg]
      rintro ⟨_, h4⟩
      omega
  · rw [if_neg h2]
    rw [sumN_congr (g := fun _ => 0) L, sumN_nil]
    intro i hi
    rw [if_neg]
    rintro ⟨h3, h4⟩
    exact h2 ⟨h3, by omega⟩
/-- how many powers there are to n -/
noncomputable def cntP (n : Nat) : Nat := (powL n).length
theorem powL_succ (n : Nat) : powL (n + 1) = powL n ++ (powAt n).toList := by
  unfold powL
  rw [List.range_succ, List.filterMap_append]
  cases e : powAt n <;> simp [e]
theorem cntP_zero : cntP 0 = 0 := rfl
open Classical in
theorem cntP_succ (n : Nat) : cntP (n + 1) = cntP n + if IsPow (n + 1) then 1 else 0 := by
  unfold cntP
  rw [powL_succ, List.length_append]
  congr 1
  unfold powAt
  rw [Nat.add_comm 1 n]
  by_cases h : IsPow (n + 1)
  · rw [if_pos h, if_pos h]
    rfl
  · rw [if_neg h, if_neg h]
    rfl
theorem cntP_cp : ∀ n, 1 ≤ n → cntP n = 1 + cp n
  | 0, h => by omega
  | 1, _ => by
    rw [cntP_succ, cntP_zero, if_pos isPow_one]
    rfl
  | n + 2, _ => by
    have ih := cntP_cp (n + 1) (by omega)
    rw [cntP_succ, ih]
    have e1 : cp (n + 2) = cp (n + 1) + if 2 ≤ gexp (n + 2) then 1 else 0 := by
      show sumN (n + 2 + 1) _ = sumN (n + 1 + 1) _ + _
      rw [sumN]
      congr 1
      by_cases h : 2 ≤ gexp (n + 2)
      · rw [if_pos h, if_pos ⟨by omega, h⟩]
      · rw [if_neg h, if_neg fun c => h c.2]
    rw [e1]
    have := isPow_gexp (m := n + 2) (by omega)
    by_cases h : IsPow (n + 2)
    · rw [if_pos h, if_pos (this.mp h)]
      omega
    · rw [if_neg h, if_neg fun c => h (this.mpr c)]
      omega
theorem cntP_mono {a b : Nat} (h : a ≤ b) : cntP a ≤ cntP b := by
  induction b with
  | zero =>
    have : a = 0 := by omega
    rw [this]
    exact Nat.le_refl _
  | succ b ih =>
    rcases Nat.lt_or_ge a (b + 1) with c | c
    · exact Nat.le_trans (ih (by omega)) (by rw [cntP_succ]; omega)
    · have : a = b + 1 := by omega
      rw [this]
      exact Nat.le_refl _
theorem cntP_le (n : Nat) : cntP n ≤ n := by
  induction n with
  | zero => exact Nat.le_refl _
  | succ n ih =>
    rw [cntP_succ]
    split <;> omega
end Pn
namespace Pn
/-! ### sums turned about, and the counts by greatest exponents -/
theorem sumN_head (f : Nat → Nat) : ∀ n, sumN (n + 1) f = f 0 + sumN n (fun i => f (i + 1))
  | 0 => by simp [sumN]
  | n + 1 => by
    rw [sumN, sumN_head f n, sumN]
    omega
theorem sumN_congr' {f g : Nat → Nat} : ∀ {n : Nat}, (∀ i, i < n → f i = g i) → sumN n f = sumN n g
  | 0, _ => rfl
  | n + 1, h => by rw [sumN, sumN, sumN_congr' (fun i hi => h i (by omega)), h n (by omega)]
theorem sumN_rev (f : Nat → Nat) : ∀ n, sumN n (fun i => f (n - 1 - i)) = sumN n f
  | 0 => rfl
  | n + 1 => by
    rw [sumN_head]
    have e : sumN n (fun i => f (n + 1 - 1 - (i + 1))) = sumN n (fun i => f (n - 1 - i)) := sumN_congr' fun i hi => by
      congr 1
      omega
    rw [e, sumN_rev f n, sumN]
    simp
    omega
theorem sum_range (f : Nat → Nat) : ∀ n, ((List.range n).map fun i => (f i : Int)).sum = (sumN n f : Int)
  | 0 => rfl
  | n + 1 => by
    rw [List.range_succ, List.map_append, List.sum_append, sum_range f n, sumN]
    simp
/-- the exponents from the greatest one down to 2 -/
def dn (M k : Nat) : List Nat := (List.range k).map fun j => M - j
theorem mem_dn {M k e : Nat} (hk : k ≤ M) : e ∈ dn M k ↔ M - k < e ∧ e ≤ M := by
  unfold dn
  rw [List.mem_map]
  constructor
  · rintro ⟨j, hj, rfl⟩
    have := List.mem_range.mp hj
    omega
  · intro h
    exact ⟨M - e, List.mem_range.mpr (by omega), by omega⟩
theorem dn_succ (M k : Nat) : dn M (k + 1) = dn M k ++ [M - k] := by
  unfold dn
  rw [List.range_succ, List.map_append]
  rfl
theorem dn_len (M k : Nat) : (dn M k).length = k := by simp [dn]
/-- the step of the counts -/
theorem cg_step {n e : Nat} (hn : 1 ≤ n) (h2 : 2 ≤ e) (he : e ≤ n.log2) : ((rootN n e : Nat) : Int) - 1 - ((sumN (n.log2 / e - 1) fun j => cg n ((j + 2) * e) : Nat) : Int) = (cg n e : Nat) := by
  have h1 := cb_root (e := e) (by omega) n hn
  have hd : 1 ≤ n.log2 / e := (Nat.le_div_iff_mul_le (by omega)).mpr (by omega)
  have hk : n.log2 < (n.log2 / e + 1) * e := by
    have := Nat.lt_mul_div_succ n.log2 (show 0 < e by omega)
    rw [Nat.mul_comm] at this
    exact this
  have h3 := cb_sum (n := n) (e := e) (K := n.log2 / e) (by omega) hk
  obtain ⟨k, hk'⟩ : ∃ k, n.log2 / e = k + 1 := ⟨n.log2 / e - 1, by omega⟩
  rw [hk'] at h3 ⊢
  rw [sumN_head] at h3
  have e1 : sumN k (fun i => cg n ((i + 1 + 1) * e)) = sumN k (fun j => cg n ((j + 2) * e)) := rfl
  rw [e1] at h3
  simp only [Nat.zero_add, Nat.one_mul, Nat.add_sub_cancel] at h3 ⊢
  omega
theorem cg_all {n : Nat} (hn : 1 ≤ n) : 1 + ((dn (max 1 n.log2) (max 1 n.log2 - 1)).map fun e => ((cg n e : Nat) : Int)).sum = ((cntP n : Nat) : Int) := by
  generalize hM : max 1 n.log2 = M
  have h1 := cntP_cp n hn
  have h2 := cp_sum (n := n) (L := M - 1) (by omega)
  have h3 : ((dn M (M - 1)).map fun e => ((cg n e : Nat) : Int)).sum = ((sumN (M - 1) (fun i => cg n (M - i)) : Nat) : Int) := by
    rw [← sum_range]
    unfold dn
    rw [List.map_map]
    rfl
  have h4 : sumN (M - 1) (fun i => cg n (M - i)) = sumN (M - 1) (fun i => cg n (i + 2)) := by
    rw [← sumN_rev (fun i => cg n (i + 2)) (M - 1)]
    exact sumN_congr' fun i hi => by
      congr 1
      omega
  rw [h3, h4, h1, h2]
  omega
end Pn
namespace Pn
/-! ### signs of numbers, in and out -/
/-- a turn of the law's own going along the primes: what is left, and the sign -/
def sgnN (g : Nat) : Nat → Nat × Int
  | 0 => (g, 1)
  | k + 1 => if (sgnN g k).1 % (k + 2) = 0 then ((sgnN g k).1 / (k + 2), if (sgnN g k).1 / (k + 2) % (k + 2) = 0 then 0 else 0 - (sgnN g k).2) else sgnN g k
def sg (g : Nat) : Int := if g = 0 then 0 else (sgnN g (g - 1)).2
def sumZ : Nat → (Nat → Int) → Int
  | 0, _ => 0
  | n + 1, f => sumZ n f + f n
theorem sumZ_congr {f g : Nat → Int} : ∀ {n : Nat}, (∀ i, i < n → f i = g i) → sumZ n f = sumZ n g
  | 0, _ => rfl
  | n + 1, h => by rw [sumZ, sumZ, sumZ_congr (fun i hi => h i (by omega)), h n (by omega)]
theorem sumZ_add (f g : Nat → Int) : ∀ n, sumZ n (fun i => f i + g i) = sumZ n f + sumZ n g
  | 0 => rfl
  | n + 1 => by
    rw [sumZ, sumZ, sumZ, sumZ_add f g n]
    omega
theorem sumZ_nil : ∀ n, sumZ n (fun _ => 0) = 0
  | 0 => rfl
  | n + 1 => by rw [sumZ, sumZ_nil n]; rfl
theorem sumZ_swap (f : Nat → Nat → Int) (m : Nat) : ∀ n, sumZ n (fun i => sumZ m fun j => f i j) = sumZ m fun j => sumZ n fun i => f i j
  | 0 => (sumZ_nil m).symm
  | n + 1 => by
    rw [sumZ, sumZ_swap f m n, ← sumZ_add]
    rfl
theorem sumZ_mul (c : Int) (f : Nat → Int) : ∀ n, sumZ n (fun i => c * f i) = c * sumZ n f
  | 0 => by simp [sumZ]
  | n + 1 => by rw [sumZ, sumZ, sumZ_mul c f n, Int.mul_add]
theorem sumZ_nat (f : Nat → Nat) : ∀ n, sumZ n (fun i => (f i : Int)) = ((sumN n f : Nat) : Int)
  | 0 => rfl
  | n + 1 => by
    rw [sumZ, sumZ_nat f n, sumN]
    simp
theorem sumZ_zero {f : Nat → Int} {m : Nat} : ∀ n, m ≤ n → (∀ i, m ≤ i → i < n → f i = 0) → sumZ n f = sumZ m f
  | 0, h, _ => by
    have : m = 0 := by omega
    rw [this]
  | n + 1, h, h0 => by
    by_cases e : m = n + 1
    · rw [e]
    · rw [sumZ, sumZ_zero n (by omega) (fun i hi hi2 => h0 i hi (by omega)), h0 n (by omega) (by omega)]
      omega
theorem sg_list : (List.range 141).map sg = [0, 1, -1, -1, 0, -1, 1, -1, 0, 0, 1, -1, 0, -1, 1, 1, 0, -1, 0, -1, 0, 1, 1, -1, 0, 0, 1, 0, 0, -1, -1, -1, 0, 1, 1, 1, 0, -1, 1, 1, 0, -1, -1, -1, 0, 0, 1, -1, 0, 0, 0, 1, 0, -1, 0, 1, 0, 1, 1, -1, 0, -1, 1, 0, 0, 1, -1, -1, 0, 1, -1, -1, 0, -1, 1, 0, 0, 1, -1, -1, 0, 0, 1, -1, 0, 1, 1, 1, 0, -1, 0, 1, 0, 1, 1, 1, 0, -1, 0, 0, 0, -1, -1, -1, 0, -1, 1, -1, 0, -1, -1, 1, 0, -1, -1, 1, 0, 0, 1, 1, 0, 0, 1, 1, 0, 0, 0, -1, 0, 1, -1, -1, 0, 1, 1, 0, 0, -1, -1, -1, 0] := by decide +kernel
def sgD (g : Nat) : Int := ([0, 1, -1, -1, 0, -1, 1, -1, 0, 0, 1, -1, 0, -1, 1, 1, 0, -1, 0, -1, 0, 1, 1, -1, 0, 0, 1, 0, 0, -1, -1, -1, 0, 1, 1, 1, 0, -1, 1, 1, 0, -1, -1, -1, 0, 0, 1, -1, 0, 0, 0, 1, 0, -1, 0, 1, 0, 1, 1, -1, 0, -1, 1, 0, 0, 1, -1, -1, 0, 1, -1, -1, 0, -1, 1, 0, 0, 1, -1, -1, 0, 0, 1, -1, 0, 1, 1, 1, 0, -1, 0, 1, 0, 1, 1, 1, 0, -1, 0, 0, 0, -1, -1, -1, 0, -1, 1, -1, 0, -1, -1, 1, 0, -1, -1, 1, 0, 0, 1, 1, 0, 0, 1, 1, 0, 0, 0, -1, 0, 1, -1, -1, 0, 1, 1, 0, 0, -1, -1, -1, 0] : List Int).getD g 0
theorem sgD_sg {g : Nat} (h : g < 141) : sgD g = sg g := by
  unfold sgD
  rw [← sg_list, List.getD_eq_getElem?_getD, List.getElem?_map, List.getElem?_range h]
  rfl
theorem sgD_all : ∀ g, g < 141 → 1 ≤ g → sumZ (g - 1) (fun i => if g % (i + 2) = 0 then sgD (i + 2) else 0) = if 2 ≤ g then -1 else 0 := by decide +kernel
theorem sg_all {g L : Nat} (h : g < 141) (h1 : 1 ≤ g) (hL : g ≤ L + 1) : sumZ L (fun i => if (i + 2) ∣ g then sg (i + 2) else 0) = if 2 ≤ g then -1 else 0 := by
  rw [sumZ_zero (m := g - 1) L (by omega) (fun i hi _ => if_neg fun hd => absurd (Nat.le_of_dvd (by omega) hd) (by omega)), ← sgD_all g h h1]
  refine sumZ_congr fun i hi => ?_
  by_cases c : (i + 2) ∣ g
  · rw [if_pos c, if_pos (Nat.mod_eq_zero_of_dvd c), sgD_sg (by omega)]
  · rw [if_neg c, if_neg fun z => c (Nat.dvd_of_mod_eq_zero z)]
/-- all powers by exponents that no square divides, in and out -/
theorem sg_count {n L : Nat} (hn : 1 ≤ n) (hL : n.log2 ≤ L + 1) (hb : n.log2 < 141) : 1 - sumZ L (fun i => sg (i + 2) * ((rootN n (i + 2) : Int) - 1)) = ((cntP n : Nat) : Int) := by
  have h1 : ∀ i, sg (i + 2) * ((rootN n (i + 2) : Int) - 1) = sumZ (n + 1) fun m => sg (i + 2) * (if 2 ≤ m ∧ rootN m (i + 2) ^ (i + 2) = m then 1 else 0) := fun i => by
    have e1 := cb_root (e := i + 2) (by omega) n hn
    have e2 : (rootN n (i + 2) : Int) - 1 = (cb n (i + 2) : Nat) := by omega
    rw [e2, sumZ_mul]
    congr 1
    unfold cb
    rw [← sumZ_nat]
    refine sumZ_congr fun m hm => ?_
    split <;> rfl
  rw [sumZ_congr (fun i _ => h1 i), sumZ_swap]
  have h2 : ∀ m, m < n + 1 → sumZ L (fun i => sg (i + 2) * (if 2 ≤ m ∧ rootN m (i + 2) ^ (i + 2) = m then 1 else 0)) = -1 * (((if 2 ≤ m ∧ 2 ≤ gexp m then 1 else 0 : Nat)) : Int) := fun m hm => by
    by_cases hm2 : 2 ≤ m
    · have hmn : m.log2 ≤ n.log2 := by
        rw [Nat.le_log2 (by omega)]
        exact Nat.le_trans (Nat.log2_self_le (by omega)) (by omega)
      have hg := gexp_le hm2
      have e1 := sg_all (g := gexp m) (L := L) (by omega) (gexp_pos m) (by omega)
      have e2 : sumZ L (fun i => sg (i + 2) * (if 2 ≤ m ∧ rootN m (i + 2) ^ (i + 2) = m then 1 else 0)) = sumZ L (fun i => if (i + 2) ∣ gexp m then sg (i + 2) else 0) := sumZ_congr fun i hi => by
        have e3 : (2 ≤ m ∧ rootN m (i + 2) ^ (i + 2) = m) ↔ (i + 2) ∣ gexp m := by
          rw [← powBy_iff (by omega), powBy_dvd hm2 (by omega)]
          exact ⟨fun z => z.2, fun z => ⟨hm2, z⟩⟩
        by_cases c : (i + 2) ∣ gexp m
        · rw [if_pos c, if_pos (e3.mpr c), Int.mul_one]
        · rw [if_neg c, if_neg fun z => c (e3.mp z), Int.mul_zero]
      rw [e2, e1]
      by_cases c : 2 ≤ gexp m
      · rw [if_pos c, if_pos ⟨hm2, c⟩]; rfl
      · rw [if_neg c, if_neg fun z => c z.2]; rfl
    · rw [if_neg fun z => hm2 z.1]
      rw [sumZ_congr (g := fun _ => 0) (fun i _ => by rw [if_neg fun z => hm2 z.1, Int.mul_zero]), sumZ_nil]
      rfl
  rw [sumZ_congr h2, sumZ_mul, sumZ_nat, cntP_cp n hn]
  have h3 : sumN (n + 1) (fun m => if 2 ≤ m ∧ 2 ≤ gexp m then 1 else 0) = cp n := rfl
  rw [h3]
  omega
end Pn
namespace Pn
/-! ### the counts by greatest exponents, by roots -/
theorem gexp_pow {b e : Nat} (hb : 2 ≤ b) (he : 1 ≤ e) : gexp (b ^ e) = e * gexp b := by
  have h2 : 2 ≤ b ^ e := Nat.le_trans hb (Nat.le_self_pow (by omega) _)
  have hg := gexp_pos b
  obtain ⟨c, hc⟩ := gexp_by b
  have h1 : e * gexp b ∣ gexp (b ^ e) := by
    rw [← powBy_dvd h2 (Nat.mul_pos (by omega) hg)]
    exact ⟨c, by rw [Nat.mul_comm, Nat.pow_mul, ← hc]⟩
  obtain ⟨t, ht⟩ := h1
  have h3 := gexp_pos (b ^ e)
  have t1 : 1 ≤ t := by
    rcases Nat.eq_zero_or_pos t with h | h
    · rw [h] at ht
      omega
    · exact h
  obtain ⟨d, hd⟩ := gexp_by (b ^ e)
  have e1 : b ^ e = (d ^ (gexp b * t)) ^ e := by
    have : d ^ gexp (b ^ e) = (d ^ (gexp b * t)) ^ e := by
      rw [← Nat.pow_mul, ht]
      congr 1
      rw [Nat.mul_assoc, Nat.mul_comm]
    rw [← this]
    exact hd
  have e2 := pow_inj_left (by omega) e1
  have h4 : gexp b * t ≤ gexp b := gexp_max hb (Nat.mul_pos hg t1) ⟨d, e2⟩
  have h5 : t = 1 := by
    have : gexp b * t ≤ gexp b * 1 := by omega
    have := Nat.le_of_mul_le_mul_left this hg
    omega
  rw [ht, h5, Nat.mul_one]
theorem cg_succ (n e : Nat) : cg (n + 1) e = cg n e + if 2 ≤ n + 1 ∧ gexp (n + 1) = e then 1 else 0 := rfl
theorem cg_root {e : Nat} (he : 1 ≤ e) : ∀ n, 1 ≤ n → cg n e + cntP (rootN n e) = rootN n e
  | 0, h => by omega
  | 1, _ => by
    rw [rootN_1 he]
    have h1 : cg 1 e = 0 := by
      unfold cg
      rw [sumN, sumN, sumN]
      simp
    rw [h1, cntP_succ, cntP_zero, if_pos isPow_one]
  | n + 2, _ => by
    have ih := cg_root he (n + 1) (by omega)
    have hr := rootN_succ (n := n + 1) he
    rw [cg_succ]
    by_cases h : rootN (n + 2) e ^ e = n + 2
    · rw [if_pos h] at hr
      have hb2 : 2 ≤ rootN (n + 2) e := by
        rcases (by omega : rootN (n + 2) e = 0 ∨ rootN (n + 2) e = 1 ∨ 2 ≤ rootN (n + 2) e) with c | c | c
        · rw [c, Nat.zero_pow (by omega)] at h
          omega
        · rw [c, Nat.one_pow] at h
          omega
        · exact c
      have hg := gexp_pow hb2 he
      rw [h] at hg
      have hp := isPow_gexp hb2
      have h1 := gexp_pos (rootN (n + 2) e)
      rw [hr, cntP_succ]
      rw [hr] at hp hg h1
      by_cases c : IsPow (rootN (n + 1) e + 1)
      · have h2 := hp.mp c
        rw [if_pos c, if_neg]
        · omega
        · rintro ⟨_, h3⟩
          rw [hg] at h3
          have : e * 2 ≤ e * gexp (rootN (n + 1) e + 1) := Nat.mul_le_mul_left e h2
          omega
      · have h2 : gexp (rootN (n + 1) e + 1) = 1 := by
          have : ¬ 2 ≤ gexp (rootN (n + 1) e + 1) := fun z => c (hp.mpr z)
          omega
        rw [if_neg c, if_pos ⟨by omega, by rw [hg, h2, Nat.mul_one]⟩]
        omega
    · rw [if_neg h] at hr
      rw [if_neg, hr]
      · omega
      · rintro ⟨_, h3⟩
        refine h ((powBy_iff he).mp ?_)
        rw [← h3]
        exact gexp_by (n + 2)
/-- what is told of all powers to n, by greatest exponents, 1 counted to 2 -/
def cgT (n : Nat) : List Nat := if n = 0 then [] else (List.range (max 2 n.log2 - 1)).map fun i => cg n (i + 2) + if i = 0 then 1 else 0
theorem cg_none {n e : Nat} (hn : 1 ≤ n) (h : n.log2 < e) (h2 : 2 ≤ e) : cg n e = 0 := by
  have h1 := cg_root (e := e) (by omega) n hn
  rw [rootN_big hn h] at h1
  have : cntP 1 = 1 := by rw [cntP_succ, cntP_zero, if_pos isPow_one]
  omega
theorem gexp_two (L : Nat) (h : 1 ≤ L) : gexp (2 ^ L) = L := by
  have h2 : gexp 2 = 1 := by
    have h1 := gexp_pos 2
    have h3 := gexp_le (m := 2) (by omega)
    have : Nat.log2 2 = 1 := by decide +kernel
    omega
  rw [gexp_pow (by omega) h, h2, Nat.mul_one]
theorem cg_top {n : Nat} (hn : 2 ≤ n) : 1 ≤ cg n n.log2 := by
  have hL : 1 ≤ n.log2 := (Nat.le_log2 (by omega)).mpr (by omega)
  have h := Nat.log2_self_le (n := n) (by omega)
  unfold cg
  have := sumN_one (f := fun m => if 2 ≤ m ∧ gexp m = n.log2 then 1 else 0) (g := fun m => if m = 2 ^ n.log2 then 0 else if 2 ≤ m ∧ gexp m = n.log2 then 1 else 0) (a := 1) (n + 1) (2 ^ n.log2) (by omega) (fun i _ hi => by rw [if_neg hi]) (by
    have e1 : (2 ≤ 2 ^ n.log2 ∧ gexp (2 ^ n.log2) = n.log2) := ⟨Nat.le_trans (by omega : 2 ≤ 2 ^ 1) (Nat.pow_le_pow_right (by omega) hL), gexp_two _ hL⟩
    simp [e1])
  omega
end Pn
namespace Pn
/-! ### powers by place -/
theorem cntP_pow {m : Nat} (h1 : 1 ≤ m) (h : IsPow m) : cntP m = cntP (m - 1) + 1 := by
  obtain ⟨k, rfl⟩ : ∃ k, m = k + 1 := ⟨m - 1, by omega⟩
  rw [cntP_succ, if_pos h]
  rfl
theorem cntP_same {n : Nat} : ∀ k, n ≤ k → (∀ m, n < m → m ≤ k → ¬ IsPow m) → cntP k = cntP n
  | 0, h, _ => by
    have : n = 0 := by omega
    rw [this]
  | k + 1, h, hn => by
    rcases (by omega : n = k + 1 ∨ n ≤ k) with c | c
    · rw [c]
    · rw [cntP_succ, if_neg (hn (k + 1) (by omega) (Nat.le_refl _)), cntP_same k c fun m h1 h2 => hn m h1 (by omega)]
      rfl
theorem cntP_next {n g : Nat} (h : NextPow n g) : cntP g = cntP n + 1 := by
  obtain ⟨h2, h1, h3⟩ := h
  have e1 : cntP (g - 1) = cntP n := cntP_same (g - 1) (by omega) fun m a b c => by
    have := h3 m c a
    omega
  have e2 := cntP_pow (m := g) (by omega) h2
  omega
theorem cntP_inj {x y : Nat} (hx : IsPow x) (hy : IsPow y) (hx1 : 1 ≤ x) (hy1 : 1 ≤ y) (h : cntP x = cntP y) : x = y := by
  rcases Nat.lt_trichotomy x y with c | c | c
  · have h1 := cntP_pow hy1 hy
    have h2 := cntP_mono (show x ≤ y - 1 by omega)
    omega
  · exact c
  · have h1 := cntP_pow hx1 hx
    have h2 := cntP_mono (show y ≤ x - 1 by omega)
    omega
theorem root_cntP {n : Nat} (hn : 1 ≤ n) : rootN n 2 ≤ cntP n := by
  have h1 := cb_root (e := 2) (by omega) n hn
  have h2 := cntP_cp n hn
  have h3 : cb n 2 ≤ cp n := by
    unfold cb cp
    have key : ∀ k, sumN k (fun m => if 2 ≤ m ∧ rootN m 2 ^ 2 = m then 1 else 0) ≤ sumN k (fun m => if 2 ≤ m ∧ 2 ≤ gexp m then 1 else 0) := fun k => by
      induction k with
      | zero => exact Nat.le_refl _
      | succ k ih =>
        rw [sumN, sumN]
        refine Nat.add_le_add ih ?_
        by_cases c : 2 ≤ k ∧ rootN k 2 ^ 2 = k
        · have h4 := gexp_max c.1 (by omega) ((powBy_iff (by omega)).mpr c.2)
          rw [if_pos c, if_pos ⟨c.1, h4⟩]
          exact Nat.le_refl _
        · rw [if_neg c]
          exact Nat.zero_le _
    exact key _
  omega
theorem sq_cntP {b : Nat} (hb : 1 ≤ b) : b ≤ cntP (b * b) := by
  have h := root_cntP (n := b * b) (Nat.mul_pos hb hb)
  have e : rootN (b * b) 2 = b := by
    rw [← Nat.pow_two]
    exact rootN_pow (by omega)
  omega
theorem cntP_bound {n k : Nat} (hn : 1 ≤ n) (h : cntP n ≤ k) : n < (k + 1) * (k + 1) := by
  have h1 := root_cntP hn
  have h2 := rootN_lt (n := n) (e := 2) (by omega)
  have h3 : (rootN n 2 + 1) ^ 2 ≤ (k + 1) ^ 2 := Nat.pow_le_pow_left (by omega) 2
  rw [Nat.pow_two (k + 1)] at h3
  omega
theorem powL_prefix {y : Nat} : ∀ k, ∃ r, powL (y + k) = powL y ++ r
  | 0 => ⟨[], by simp⟩
  | k + 1 => by
    obtain ⟨r, hr⟩ := powL_prefix (y := y) k
    refine ⟨r ++ (powAt (y + k)).toList, ?_⟩
    rw [← Nat.add_assoc, powL_succ, hr, List.append_assoc]
theorem powL_at {M i y : Nat} (h : (powL M)[i]? = some y) : 1 ≤ y ∧ y ≤ M ∧ IsPow y ∧ cntP y = i + 1 := by
  have hm := mem_powL.mp (List.mem_of_getElem? h)
  refine ⟨hm.1, hm.2.1, hm.2.2, ?_⟩
  obtain ⟨r, hr⟩ := powL_prefix (y := y) (M - y)
  rw [show y + (M - y) = M by omega] at hr
  have h1 := cntP_pow hm.1 hm.2.2
  have h2 : powL y = powL (y - 1) ++ [y] := by
    obtain ⟨k, hk⟩ : ∃ k, y = k + 1 := ⟨y - 1, by omega⟩
    rw [hk, powL_succ]
    have : powAt k = some (k + 1) := by
      unfold powAt
      rw [Nat.add_comm 1 k, if_pos (by rw [← hk]; exact hm.2.2)]
    rw [this]
    rfl
  have h3 : (powL M)[cntP (y - 1)]? = some y := by
    have e : cntP (y - 1) = (powL (y - 1)).length := rfl
    rw [hr, h2, List.append_assoc, e, List.getElem?_append_right (Nat.le_refl _)]
    simp
  have hi := (List.getElem?_eq_some_iff.mp h)
  have hj := (List.getElem?_eq_some_iff.mp h3)
  obtain ⟨i1, i2⟩ := hi
  obtain ⟨j1, j2⟩ := hj
  have so := List.pairwise_iff_getElem.mp (powL_sorted M)
  rcases Nat.lt_trichotomy i (cntP (y - 1)) with c | c | c
  · have := so i _ i1 j1 c
    omega
  · omega
  · have := so _ i j1 i1 c
    omega
end Pn
namespace Pn
/-! ### ways and powers -/
theorem waysN_none {n : Nat} : waysN n = [] ↔ ¬ IsPow n := by
  unfold waysN
  by_cases h0 : n = 0
  · subst h0
    rw [if_pos rfl]
    exact ⟨fun _ h => by
      have := h.pos
      omega, fun _ => rfl⟩
  · rw [if_neg h0]
    by_cases h1 : n = 1
    · subst h1
      rw [if_pos rfl]
      exact ⟨fun z => by simp at z, fun z => absurd isPow_one z⟩
    · rw [if_neg h1]
      have hn2 : 2 ≤ n := by omega
      constructor
      · intro h hp
        obtain ⟨b, e, hb, he, rfl⟩ := hp
        have hb2 : 2 ≤ b := by
          rcases (by omega : b = 1 ∨ 2 ≤ b) with z | z
          · rw [z, Nat.one_pow] at h1
            omega
          · exact z
        have hle : e ≤ (b ^ e).log2 := (two_pow_le_iff h0).mp (Nat.pow_le_pow_left hb2 e)
        have hw : wayAt (b ^ e) (e - 2 + 2) ≠ none := by
          rw [show e - 2 + 2 = e by omega]
          unfold wayAt
          rw [rootN_pow (by omega)]
          simp
        unfold waysTo at h
        have hm : ∀ x ∈ List.range ((b ^ e).log2 - 1), wayAt (b ^ e) (x + 2) = none := by
          intro x hx
          cases q : wayAt (b ^ e) (x + 2) with
          | none => rfl
          | some v =>
            have : v ∈ ([] : List (Nat × Nat)) := by
              rw [← h]
              exact List.mem_filterMap.mpr ⟨x, hx, q⟩
            simp at this
        exact hw (hm (e - 2) (List.mem_range.mpr (by omega)))
      · intro hp
        refine none_filt _ fun j hj => ?_
        unfold wayAt
        rw [if_neg]
        intro hq
        refine hp ⟨rootN n (j + 2), j + 2, ?_, by omega, hq.symm⟩
        rcases Nat.eq_zero_or_pos (rootN n (j + 2)) with z | z
        · rw [z, Nat.zero_pow (by omega)] at hq
          omega
        · exact z
theorem cntP_prev {n l : Nat} (h : PrevPow n l) : cntP n = cntP l := by
  obtain ⟨h1, h2, h3⟩ := h
  exact cntP_same n h2 fun m a b c => by
    have := h3 m c b
    omega
theorem PrevPow.self {n : Nat} (h : IsPow n) : PrevPow n n := ⟨h, Nat.le_refl _, fun _ _ z => z⟩
theorem PrevPow.less {n x l : Nat} (hn : 1 ≤ n) (hp : ¬ IsPow n) (h : PrevPow (n - 1) x) (h' : PrevPow n l) : x = l := by
  have h1 : l ≤ n - 1 := by
    rcases (by have := h'.2.1; omega : l = n ∨ l ≤ n - 1) with z | z
    · exact absurd (z ▸ h'.1) hp
    · exact z
  exact Nat.le_antisymm (h'.2.2 x h.1 (by have := h.2.1; omega)) (h.2.2 l h'.1 h1)
theorem Nearest.self {n r : Nat} (h : Nearest n r) (hp : IsPow n) : r = n := by
  have h1 := hp.pos
  obtain ⟨l, g, h2, h3, h4⟩ := h.2 h1
  have h5 := h2.eq (PrevPow.self hp)
  subst h5
  rw [h4, if_pos (by omega)]
end Pn
namespace Pn
/-! ### the first greatest gap in a row -/
/-- a pair beside the best one so far -/
def gapStep (o : Option (Nat × Nat × Nat)) (x y : Nat) : Option (Nat × Nat × Nat) := match o with
  | none => some (y - x, x, y)
  | some t => if y - x > t.1 then some (y - x, x, y) else some t
/-- the best of the first i pairs of neighbours -/
def gapTo (l : List Nat) : Nat → Option (Nat × Nat × Nat)
  | 0 => none
  | i + 1 => match l[i]?, l[i + 1]? with
    | some x, some y => gapStep (gapTo l i) x y
    | _, _ => gapTo l i
theorem gapTo_succ {l : List Nat} {i x y : Nat} (h1 : l[i]? = some x) (h2 : l[i + 1]? = some y) : gapTo l (i + 1) = gapStep (gapTo l i) x y := by
  rw [gapTo, h1, h2]
end Pn
namespace Pn
/-! ### prime factors by trial division -/
def pfT (d n : Nat) : List Nat :=
  if h : n ≤ 1 ∨ d < 2 then [] else if h2 : n < d * d then [n] else if h3 : n % d = 0 then d :: pfT d (n / d) else pfT (d + 1) n
termination_by 2 * n - d
decreasing_by
  · have h4 : d ≤ n := Nat.le_trans (Nat.le_mul_of_pos_left d (by omega)) (by omega : d * d ≤ n)
    have h5 : n / d < n := Nat.div_lt_self (by omega) (by omega)
    omega
  · have h4 : d ≤ n := Nat.le_trans (Nat.le_mul_of_pos_left d (by omega)) (by omega : d * d ≤ n)
    omega
def pf (n : Nat) : List Nat := pfT 2 n
/-- no divisor below d -/
def Low (d n : Nat) : Prop := ∀ k, 2 ≤ k → k < d → ¬ k ∣ n
theorem low_2 (n : Nat) : Low 2 n := fun k h1 h2 => by omega
theorem low_div {d n : Nat} (h : Low d n) (hd : d ∣ n) : Low d (n / d) := fun k h1 h2 h3 => h k h1 h2 (Nat.dvd_trans h3 (Nat.div_dvd_of_dvd hd))
theorem low_up {d n : Nat} (h : Low d n) (hd : ¬ d ∣ n) : Low (d + 1) n := fun k h1 h2 h3 => by
  rcases (by omega : k < d ∨ k = d) with c | c
  · exact h k h1 c h3
  · exact hd (c ▸ h3)
theorem pfT_one {d n : Nat} (h : n ≤ 1) : pfT d n = [] := by
  rw [pfT, dif_pos (.inl h)]
theorem pfT_big {d n : Nat} (hd : 2 ≤ d) (hn : 1 < n) (h : n < d * d) : pfT d n = [n] := by
  rw [pfT, dif_neg (by omega), dif_pos h]
/-- a number without a divisor below d that is less than d * d has none below itself -/
theorem low_self {d n : Nat} (h : Low d n) (hn : n < d * d) : Low n n := fun k h1 h2 h3 => by
  obtain ⟨j, rfl⟩ := h3
  have hj : 2 ≤ j := by
    rcases (by omega : j = 0 ∨ j = 1 ∨ 2 ≤ j) with c | c | c
    · subst c
      omega
    · subst c
      omega
    · exact c
  rcases Nat.lt_or_ge k d with c | c
  · exact h k h1 c ⟨j, rfl⟩
  · rcases Nat.lt_or_ge j d with c2 | c2
    · exact h j hj c2 ⟨k, Nat.mul_comm k j⟩
    · exact absurd (Nat.mul_le_mul c c2) (by omega)
theorem pfT_dvd {d n : Nat} (hd : 2 ≤ d) (hn : 1 ≤ n) (hl : Low d n) (h : d ∣ n) : pfT d n = d :: pfT d (n / d) := by
  have hn2 : 2 ≤ n := Nat.le_trans hd (Nat.le_of_dvd hn h)
  rcases Nat.lt_or_ge n (d * d) with c | c
  · have e : n = d := by
      have h1 := low_self hl c
      rcases (by have := Nat.le_of_dvd hn h; omega : d < n ∨ n = d) with c2 | c2
      · exact absurd h (h1 d hd c2)
      · exact c2
    subst e
    rw [pfT_big hd (by omega) c, Nat.div_self (by omega), pfT_one (Nat.le_refl 1)]
  · rw [pfT, dif_neg (by omega), dif_neg (by omega), dif_pos (Nat.mod_eq_zero_of_dvd h)]
theorem pfT_up {d n : Nat} (hd : 2 ≤ d) (h : ¬ d ∣ n) : pfT d n = pfT (d + 1) n := by
  rcases Nat.lt_or_ge 1 n with hn | hn
  · rcases Nat.lt_or_ge n (d * d) with c | c
    · have h2 : n < (d + 1) * (d + 1) := Nat.lt_of_lt_of_le c (Nat.mul_le_mul (by omega) (by omega))
      rw [pfT_big hd hn c, pfT_big (by omega) hn h2]
    · rw [pfT, dif_neg (by omega), dif_neg (by omega), dif_neg fun z => h (Nat.dvd_of_mod_eq_zero z)]
  · rw [pfT_one hn, pfT_one hn]
/-- all are from d to n -/
theorem pfT_mem : ∀ (z d n : Nat), 2 * n - d ≤ z → 2 ≤ d → ∀ p ∈ pfT d n, 2 ≤ p ∧ p ≤ n := by
  intro z
  induction z with
  | zero =>
    intro d n hz hd p hp
    rcases Nat.lt_or_ge 1 n with hn | hn
    · have c : n < d * d := Nat.lt_of_lt_of_le (by omega : n < 2 * d) (Nat.mul_le_mul_right d hd)
      rw [pfT_big hd hn c] at hp
      simp at hp
      omega
    · rw [pfT_one hn] at hp
      cases hp
  | succ z ih =>
    intro d n hz hd p hp
    rcases Nat.lt_or_ge 1 n with hn | hn
    · rcases Nat.lt_or_ge n (d * d) with c | c
      · rw [pfT_big hd hn c] at hp
        simp at hp
        omega
      · have h4 : d ≤ n := Nat.le_trans (Nat.le_mul_of_pos_left d (by omega)) c
        rw [pfT, dif_neg (by omega), dif_neg (by omega)] at hp
        split at hp
        · have h5 : n / d < n := Nat.div_lt_self (by omega) (by omega)
          rcases List.mem_cons.mp hp with rfl | hp
          · exact ⟨hd, h4⟩
          · have := ih d (n / d) (by omega) hd p hp
            omega
        · exact ih (d + 1) n (by omega) (by omega) p hp
    · rw [pfT_one hn] at hp
      cases hp
theorem pf_mem {n p : Nat} (h : p ∈ pf n) : 2 ≤ p ∧ p ≤ n := pfT_mem _ 2 n (Nat.le_refl _) (Nat.le_refl _) p h
/-! ### the product of a list -/
def prodL (l : List Nat) : Nat := l.foldr (· * ·) 1
theorem prodL_nil : prodL [] = 1 := rfl
theorem prodL_cons (a : Nat) (l : List Nat) : prodL (a :: l) = a * prodL l := rfl
theorem prodL_append (a b : List Nat) : prodL (a ++ b) = prodL a * prodL b := by
  induction a with
  | nil => simp [prodL_nil]
  | cons x a ih => rw [List.cons_append, prodL_cons, prodL_cons, ih, Nat.mul_assoc]
theorem prodL_perm {a b : List Nat} (h : a.Perm b) : prodL a = prodL b := by
  induction h with
  | nil => rfl
  | cons x _ ih => rw [prodL_cons, prodL_cons, ih]
  | swap x y l => rw [prodL_cons, prodL_cons, prodL_cons, prodL_cons, Nat.mul_left_comm]
  | trans _ _ ih1 ih2 => exact ih1.trans ih2
theorem prodL_pos {l : List Nat} (h : ∀ x ∈ l, 1 ≤ x) : 1 ≤ prodL l := by
  induction l with
  | nil => exact Nat.le_refl _
  | cons a l ih => exact Nat.mul_pos (h a List.mem_cons_self) (ih fun x hx => h x (List.mem_cons_of_mem _ hx))
theorem prodL_one {l : List Nat} (h : ∀ x ∈ l, x = 1) : prodL l = 1 := by
  induction l with
  | nil => rfl
  | cons a l ih => rw [prodL_cons, h a List.mem_cons_self, ih fun x hx => h x (List.mem_cons_of_mem _ hx)]
theorem prodL_le {l : List Nat} (f g : Nat → Nat) (h : ∀ x ∈ l, f x ≤ g x) : prodL (l.map f) ≤ prodL (l.map g) := by
  induction l with
  | nil => exact Nat.le_refl _
  | cons a l ih =>
    rw [List.map_cons, List.map_cons, prodL_cons, prodL_cons]
    exact Nat.mul_le_mul (h a List.mem_cons_self) (ih fun x hx => h x (List.mem_cons_of_mem _ hx))
theorem prodL_pow (l : List Nat) (e : Nat) : prodL (l.map (· ^ e)) = prodL l ^ e := by
  induction l with
  | nil => simp [prodL_nil]
  | cons a l ih => rw [List.map_cons, prodL_cons, prodL_cons, ih, Nat.mul_pow]
theorem pfT_prod : ∀ (z d n : Nat), 2 * n - d ≤ z → 2 ≤ d → 1 ≤ n → prodL (pfT d n) = n := by
  intro z
  induction z with
  | zero =>
    intro d n hz hd h1
    rcases Nat.lt_or_ge 1 n with hn | hn
    · have c : n < d * d := Nat.lt_of_lt_of_le (by omega : n < 2 * d) (Nat.mul_le_mul_right d hd)
      rw [pfT_big hd hn c, prodL_cons, prodL_nil, Nat.mul_one]
    · rw [pfT_one hn, prodL_nil]
      omega
  | succ z ih =>
    intro d n hz hd h1
    rcases Nat.lt_or_ge 1 n with hn | hn
    · rcases Nat.lt_or_ge n (d * d) with c | c
      · rw [pfT_big hd hn c, prodL_cons, prodL_nil, Nat.mul_one]
      · have h4 : d ≤ n := Nat.le_trans (Nat.le_mul_of_pos_left d (by omega)) c
        rw [pfT, dif_neg (by omega), dif_neg (by omega)]
        split
        · rename_i h3
          have h5 : n / d < n := Nat.div_lt_self (by omega) (by omega)
          have h6 : 1 ≤ n / d := Nat.div_pos h4 (by omega)
          rw [prodL_cons, ih d (n / d) (by omega) hd h6]
          exact Nat.mul_div_cancel' (Nat.dvd_of_mod_eq_zero h3)
        · exact ih (d + 1) n (by omega) (by omega) h1
    · rw [pfT_one hn, prodL_nil]
      omega
theorem pf_prod {n : Nat} (h : 1 ≤ n) : prodL (pf n) = n := pfT_prod _ 2 n (Nat.le_refl _) (Nat.le_refl _) h
/-! ### all primes of many numbers -/
def pfs (L : List Nat) : List Nat := L.flatMap pf
theorem pfs_nil : pfs [] = [] := rfl
theorem pfs_append (a b : List Nat) : pfs (a ++ b) = pfs a ++ pfs b := List.flatMap_append
theorem pfs_one (n : Nat) : pfs [n] = pf n := by simp [pfs]
theorem pfs_perm {a b : List Nat} (h : a.Perm b) : (pfs a).Perm (pfs b) := h.flatMap_right pf
theorem pfs_mem {L : List Nat} {N p : Nat} (hL : ∀ x ∈ L, x ≤ N) (h : p ∈ pfs L) : 2 ≤ p ∧ p ≤ N := by
  unfold pfs at h
  obtain ⟨x, hx, hp⟩ := List.mem_flatMap.mp h
  have := pf_mem hp
  have := hL x hx
  omega
theorem pfs_prod {L : List Nat} (h : ∀ x ∈ L, 1 ≤ x) : prodL (pfs L) = prodL L := by
  induction L with
  | nil => rfl
  | cons a L ih =>
    have e : pfs (a :: L) = pf a ++ pfs L := rfl
    rw [e, prodL_append, prodL_cons, pf_prod (h a List.mem_cons_self), ih fun x hx => h x (List.mem_cons_of_mem _ hx)]
/-! ### the greatest exponent, and what lacks -/
/-- what divides all counts divides it; 2 where there are none -/
def IsExp (l : List Nat) (e : Nat) : Prop := (l = [] → e = 2) ∧ (l ≠ [] → 1 ≤ e ∧ ∀ d, d ∣ e ↔ ∀ p ∈ l, d ∣ l.count p)
theorem isExp_unique {l : List Nat} {e e' : Nat} (h : IsExp l e) (h' : IsExp l e') : e = e' := by
  by_cases c : l = []
  · rw [h.1 c, h'.1 c]
  · have a := (h.2 c).2
    have b := (h'.2 c).2
    exact Nat.dvd_antisymm ((b e).mpr ((a e).mp (Nat.dvd_refl e))) ((a e').mpr ((b e').mp (Nat.dvd_refl e')))
theorem isExp_perm {l l' : List Nat} {e : Nat} (p : l.Perm l') (h : IsExp l e) : IsExp l' e := by
  refine ⟨fun c => h.1 ?_, fun c => ?_⟩
  · subst c
    exact p.eq_nil
  · have c' : l ≠ [] := fun z => c (by subst z; exact p.symm.eq_nil)
    obtain ⟨h1, h2⟩ := h.2 c'
    refine ⟨h1, fun d => (h2 d).trans ?_⟩
    constructor
    · intro h3 q hq
      rw [← p.count_eq q]
      exact h3 q (p.mem_iff.mpr hq)
    · intro h3 q hq
      rw [p.count_eq q]
      exact h3 q (p.mem_iff.mp hq)
/-- what lacks of a prime that stands so often -/
def lackE (m e : Nat) : Nat := (e - m % e) % e
def lackK (ks l : List Nat) (e : Nat) : Nat := prodL (ks.map fun p => p ^ lackE (l.count p) e)
theorem lackE_0 (e : Nat) : lackE 0 e = 0 := by simp [lackE]
/-- over more keys it is no other -/
theorem prod_keys (f : Nat → Nat) {ks ks' : List Nat} (h1 : ks.Nodup) (h2 : ks'.Nodup) (h3 : ∀ p ∈ ks, p ∉ ks' → f p = 1) (h4 : ∀ p ∈ ks', p ∉ ks → f p = 1) : prodL (ks.map f) = prodL (ks'.map f) := by
  have cut : ∀ l : List Nat, prodL (l.map f) = prodL ((l.filter fun p => decide (f p ≠ 1)).map f) := by
    intro l
    induction l with
    | nil => rfl
    | cons a l ih =>
      rw [List.map_cons, prodL_cons, List.filter_cons]
      by_cases c : f a = 1
      · rw [if_neg (by simp [c]), c, Nat.one_mul, ih]
      · rw [if_pos (by simp [c]), List.map_cons, prodL_cons, ih]
  rw [cut ks, cut ks']
  refine prodL_perm (List.Perm.map f ?_)
  rw [List.perm_ext_iff_of_nodup (h1.filter _) (h2.filter _)]
  intro p
  rw [List.mem_filter, List.mem_filter]
  simp only [decide_eq_true_eq]
  constructor
  · rintro ⟨a, b⟩
    exact ⟨Classical.byContradiction fun c => b (h3 p a c), b⟩
  · rintro ⟨a, b⟩
    exact ⟨Classical.byContradiction fun c => b (h4 p a c), b⟩
/-- what lacks of all -/
def IsLack (l : List Nat) (e r : Nat) : Prop := ∀ ks : List Nat, ks.Nodup → (∀ p ∈ l, p ∈ ks) → r = lackK ks l e
theorem lack_keys {l ks : List Nat} {e : Nat} (h1 : ks.Nodup) (h2 : ∀ p ∈ l, p ∈ ks) : IsLack l e (lackK ks l e) := by
  intro ks' h3 h4
  refine prod_keys _ h1 h3 (fun p _ h => ?_) fun p _ h => ?_
  · rw [List.count_eq_zero_of_not_mem fun z => h (h4 p z), lackE_0, Nat.pow_zero]
  · rw [List.count_eq_zero_of_not_mem fun z => h (h2 p z), lackE_0, Nat.pow_zero]
theorem nodup_of (l : List Nat) : ∃ ks : List Nat, ks.Nodup ∧ ∀ p, p ∈ ks ↔ p ∈ l := by
  induction l with
  | nil => exact ⟨[], List.nodup_nil, fun p => Iff.rfl⟩
  | cons a l ih =>
    obtain ⟨ks, h1, h2⟩ := ih
    by_cases c : a ∈ ks
    · refine ⟨ks, h1, fun p => ?_⟩
      rw [h2, List.mem_cons]
      exact ⟨.inr, fun z => z.elim (fun e => by rw [e]; exact (h2 a).mp c) id⟩
    · refine ⟨a :: ks, List.nodup_cons.mpr ⟨c, h1⟩, fun p => ?_⟩
      rw [List.mem_cons, List.mem_cons, h2]
theorem isLack_unique {l : List Nat} {e r r' : Nat} (h : IsLack l e r) (h' : IsLack l e r') : r = r' := by
  obtain ⟨ks, h1, h2⟩ := nodup_of l
  rw [h ks h1 fun p hp => (h2 p).mpr hp, h' ks h1 fun p hp => (h2 p).mpr hp]
theorem isLack_perm {l l' : List Nat} {e r : Nat} (p : l.Perm l') (h : IsLack l e r) : IsLack l' e r := by
  intro ks h1 h2
  rw [h ks h1 fun q hq => h2 q (p.mem_iff.mp hq)]
  unfold lackK
  congr 1
  exact List.map_congr_left fun q _ => by rw [p.count_eq q]
/-- a part of the primes, each once, has no greater product -/
theorem prod_sub {ks l : List Nat} (h1 : ks.Nodup) (h2 : ∀ p ∈ ks, p ∈ l) (h3 : ∀ p ∈ l, 1 ≤ p) : prodL ks ≤ prodL l := by
  induction ks generalizing l with
  | nil => exact prodL_pos h3
  | cons a ks ih =>
    have ha : a ∈ l := h2 a List.mem_cons_self
    rw [List.nodup_cons] at h1
    have hp := List.perm_cons_erase ha
    rw [prodL_perm hp, prodL_cons, prodL_cons]
    refine Nat.mul_le_mul_left a (ih h1.2 (fun p hp2 => ?_) fun p hp2 => h3 p (List.mem_of_mem_erase hp2))
    exact (List.mem_erase_of_ne fun e : p = a => h1.1 (e ▸ hp2)).mpr (h2 p (List.mem_cons_of_mem _ hp2))
/-- partial products are small: at most N to the e -/
theorem lack_le {ks l : List Nat} {e : Nat} (he : 1 ≤ e) (h1 : ks.Nodup) (h3 : ∀ p ∈ l, 1 ≤ p) (h4 : ∀ p ∈ ks, 1 ≤ p) : lackK ks l e ≤ prodL l ^ e := by
  have e1 : lackK ks l e = lackK (ks.filter fun p => decide (p ∈ l)) l e := by
    refine prod_keys _ h1 (h1.filter _) (fun p hp h => ?_) fun p hp h => absurd (List.mem_filter.mp hp).1 h
    rw [List.mem_filter] at h
    have : p ∉ l := fun z => h ⟨hp, by simp [z]⟩
    rw [List.count_eq_zero_of_not_mem this, lackE_0, Nat.pow_zero]
  rw [e1]
  unfold lackK
  refine Nat.le_trans (prodL_le _ (fun p => p ^ e) fun p hp => Nat.pow_le_pow_right (h4 p (List.mem_filter.mp hp).1) (Nat.le_of_lt (Nat.mod_lt _ (by omega)))) ?_
  rw [prodL_pow]
  refine Nat.pow_le_pow_left (prod_sub (h1.filter _) (fun p hp => ?_) h3) e
  simpa using (List.mem_filter.mp hp).2
theorem lackK_snoc (ks : List Nat) (p : Nat) (l : List Nat) (e : Nat) : lackK (ks ++ [p]) l e = lackK ks l e * p ^ lackE (l.count p) e := by
  unfold lackK
  rw [List.map_append, prodL_append]
  simp [prodL]
end Pn
namespace Pn
/-! ### one factorization alone -/
def Pr (p : Nat) : Prop := 2 ≤ p ∧ Low p p
theorem pr_dvd {p k : Nat} (h : Pr p) (hk : k ∣ p) : k = 1 ∨ k = p := by
  have h1 : k ≤ p := Nat.le_of_dvd (by have := h.1; omega) hk
  rcases (by omega : k = 0 ∨ k = 1 ∨ (2 ≤ k ∧ k < p) ∨ k = p) with c | c | c | c
  · subst c
    have := Nat.eq_zero_of_zero_dvd hk
    have := h.1
    omega
  · exact .inl c
  · exact absurd hk (h.2 k c.1 c.2)
  · exact .inr c
theorem pr_mul {p a b : Nat} (h : Pr p) (hd : p ∣ a * b) : p ∣ a ∨ p ∣ b := by
  rcases pr_dvd h (Nat.gcd_dvd_left p a) with c | c
  · exact .inr (Nat.Coprime.dvd_of_dvd_mul_left c hd)
  · exact .inl (c ▸ Nat.gcd_dvd_right p a)
theorem pr_list {p : Nat} (h : Pr p) : ∀ {l : List Nat}, (∀ q ∈ l, Pr q) → p ∣ prodL l → p ∈ l
  | [], _, hd => by
    have := Nat.le_of_dvd (by decide) hd
    have := h.1
    simp [prodL] at *
    omega
  | a :: l, hl, hd => by
    rw [prodL_cons] at hd
    rcases pr_mul h hd with c | c
    · rcases pr_dvd (hl a List.mem_cons_self) c with e | e
      · have := h.1
        omega
      · exact e ▸ List.mem_cons_self
    · exact List.mem_cons_of_mem _ (pr_list h (fun q hq => hl q (List.mem_cons_of_mem _ hq)) c)
theorem pr_unique : ∀ {l l' : List Nat}, (∀ q ∈ l, Pr q) → (∀ q ∈ l', Pr q) → prodL l = prodL l' → l.Perm l'
  | [], l', _, h', e => by
    cases l' with
    | nil => exact List.Perm.refl _
    | cons a l' =>
      exfalso
      have h1 := (h' a List.mem_cons_self).1
      have h2 := prodL_pos (l := l') fun x hx => by have := (h' x (List.mem_cons_of_mem _ hx)).1; omega
      rw [prodL_cons] at e
      have h3 : prodL [] = 1 := rfl
      have h4 : 2 * 1 ≤ a * prodL l' := Nat.mul_le_mul h1 h2
      omega
  | a :: l, l', h, h', e => by
    have ha := h a List.mem_cons_self
    have hm : a ∈ l' := pr_list ha h' (by rw [← e, prodL_cons]; exact Nat.dvd_mul_right a _)
    have hp := List.perm_cons_erase hm
    have e2 : prodL l = prodL (l'.erase a) := by
      have h1 := prodL_perm hp
      rw [← e, prodL_cons, prodL_cons] at h1
      exact Nat.eq_of_mul_eq_mul_left (by have := ha.1; omega) h1
    exact ((pr_unique (fun q hq => h q (List.mem_cons_of_mem _ hq)) (fun q hq => h' q (List.mem_of_mem_erase hq)) e2).cons a).trans hp.symm
theorem pfT_pr : ∀ (z d n : Nat), 2 * n - d ≤ z → 2 ≤ d → Low d n → ∀ p ∈ pfT d n, Pr p := by
  intro z
  induction z with
  | zero =>
    intro d n hz hd hl p hp
    rcases Nat.lt_or_ge 1 n with hn | hn
    · have c : n < d * d := Nat.lt_of_lt_of_le (by omega : n < 2 * d) (Nat.mul_le_mul_right d hd)
      rw [pfT_big hd hn c] at hp
      simp at hp
      subst hp
      exact ⟨hn, low_self hl c⟩
    · rw [pfT_one hn] at hp
      cases hp
  | succ z ih =>
    intro d n hz hd hl p hp
    rcases Nat.lt_or_ge 1 n with hn | hn
    · rcases Nat.lt_or_ge n (d * d) with c | c
      · rw [pfT_big hd hn c] at hp
        simp at hp
        subst hp
        exact ⟨hn, low_self hl c⟩
      · have h4 : d ≤ n := Nat.le_trans (Nat.le_mul_of_pos_left d (by omega)) c
        by_cases h3 : d ∣ n
        · rw [pfT_dvd hd (by omega) hl h3] at hp
          have h5 : n / d < n := Nat.div_lt_self (by omega) (by omega)
          rcases List.mem_cons.mp hp with rfl | hp
          · exact ⟨hd, fun k h1 h2 h6 => hl k h1 h2 (Nat.dvd_trans h6 h3)⟩
          · exact ih d (n / d) (by omega) hd (low_div hl h3) p hp
        · rw [pfT_up hd h3] at hp
          exact ih (d + 1) n (by omega) (by omega) (low_up hl h3) p hp
    · rw [pfT_one hn] at hp
      cases hp
theorem pf_pr {n p : Nat} (h : p ∈ pf n) : Pr p := pfT_pr _ 2 n (Nat.le_refl _) (Nat.le_refl _) (low_2 n) p h
theorem pfs_pr {L : List Nat} {p : Nat} (h : p ∈ pfs L) : Pr p := by
  obtain ⟨x, _, hp⟩ := List.mem_flatMap.mp h
  exact pf_pr hp
/-- the primes of numbers are those of their product -/
theorem pfs_pf {L : List Nat} (h : ∀ x ∈ L, 1 ≤ x) : (pfs L).Perm (pf (prodL L)) :=
  pr_unique (fun _ hq => pfs_pr hq) (fun _ hq => pf_pr hq) (by rw [pfs_prod h, pf_prod (prodL_pos h)])
theorem pf_mul {a b : Nat} (ha : 1 ≤ a) (hb : 1 ≤ b) : (pf (a * b)).Perm (pf a ++ pf b) := by
  refine pr_unique (fun _ hq => pf_pr hq) (fun q hq => ?_) ?_
  · rcases List.mem_append.mp hq with c | c <;> exact pf_pr c
  · rw [prodL_append, pf_prod (Nat.mul_pos ha hb), pf_prod ha, pf_prod hb]
theorem ct_mul {a b p : Nat} (ha : 1 ≤ a) (hb : 1 ≤ b) : (pf (a * b)).count p = (pf a).count p + (pf b).count p := by
  rw [(pf_mul ha hb).count_eq, List.count_append]
theorem pf_1 : pf 1 = [] := pfT_one (Nat.le_refl 1)
theorem ct_pow {a p : Nat} (ha : 1 ≤ a) (e : Nat) : (pf (a ^ e)).count p = e * (pf a).count p := by
  induction e with
  | zero => rw [Nat.pow_zero, pf_1, Nat.zero_mul]; rfl
  | succ e ih => rw [Nat.pow_succ, ct_mul (Nat.pow_pos ha) ha, ih, Nat.succ_mul]
theorem pf_self {p : Nat} (h : Pr p) : pf p = [p] := by
  have h1 : (pf p).Perm [p] := pr_unique (fun _ hq => pf_pr hq) (fun q hq => by simp at hq; exact hq ▸ h) (by rw [pf_prod (by have := h.1; omega)]; simp [prodL])
  exact List.perm_singleton.mp h1
/-- a list's product by its counts -/
theorem prod_counts {ks : List Nat} (hn : ks.Nodup) : ∀ l : List Nat, (∀ p ∈ l, p ∈ ks) → prodL l = prodL (ks.map fun p => p ^ l.count p)
  | [], _ => by
    have e : prodL (ks.map fun p => p ^ ([] : List Nat).count p) = 1 := prodL_one fun x hx => by
      obtain ⟨y, _, rfl⟩ := List.mem_map.mp hx
      simp
    rw [e]
    rfl
  | a :: l, h => by
    have ih := prod_counts hn l fun p hp => h p (List.mem_cons_of_mem _ hp)
    have ha := h a List.mem_cons_self
    rw [prodL_cons, ih]
    have hp := List.perm_cons_erase ha
    rw [prodL_perm (hp.map fun p => p ^ l.count p), prodL_perm (hp.map fun p => p ^ (a :: l).count p), List.map_cons, List.map_cons, prodL_cons, prodL_cons, List.count_cons_self, Nat.pow_succ, ← Nat.mul_assoc, Nat.mul_comm a]
    congr 2
    refine List.map_congr_left fun p hp2 => ?_
    have hne : p ≠ a := fun e => by
      subst e
      exact (List.Nodup.not_mem_erase hn) hp2
    rw [List.count_cons_of_ne (Ne.symm hne)]
/-- the counts of a product of powers of primes -/
theorem ct_prod {ks : List Nat} (hn : ks.Nodup) (hp : ∀ q ∈ ks, Pr q) (f : Nat → Nat) (p : Nat) : (pf (prodL (ks.map fun q => q ^ f q))).count p = if p ∈ ks then f p else 0 := by
  induction ks with
  | nil => simp [prodL, pf_1]
  | cons a ks ih =>
    have ha := hp a List.mem_cons_self
    have hpos : ∀ x ∈ ks.map (fun q => q ^ f q), 1 ≤ x := fun x hx => by
      obtain ⟨y, hy, rfl⟩ := List.mem_map.mp hx
      exact Nat.pow_pos (by have := (hp y (List.mem_cons_of_mem _ hy)).1; omega)
    rw [List.nodup_cons] at hn
    rw [List.map_cons, prodL_cons, ct_mul (Nat.pow_pos (by have := ha.1; omega)) (prodL_pos hpos), ct_pow (by have := ha.1; omega), pf_self ha, ih hn.2 fun q hq => hp q (List.mem_cons_of_mem _ hq)]
    by_cases c : p = a
    · subst c
      rw [if_neg hn.1, if_pos List.mem_cons_self]
      simp
    · rw [List.count_eq_zero_of_not_mem (by simp [c]), Nat.mul_zero, Nat.zero_add]
      by_cases c2 : p ∈ ks
      · rw [if_pos c2, if_pos (List.mem_cons_of_mem _ c2)]
      · rw [if_neg c2, if_neg (by simp [c, c2])]
/-- N is a power by e just where e divides all counts -/
theorem pow_iff {N e : Nat} (hN : 1 ≤ N) (he : 1 ≤ e) : (∃ b, N = b ^ e) ↔ ∀ p, e ∣ (pf N).count p := by
  constructor
  · rintro ⟨b, rfl⟩ p
    have hb : 1 ≤ b := by
      rcases Nat.eq_zero_or_pos b with c | c
      · subst c
        rw [Nat.zero_pow (by omega)] at hN
        omega
      · exact c
    rw [ct_pow hb]
    exact Nat.dvd_mul_right e _
  · intro h
    obtain ⟨ks, h1, h2⟩ := nodup_of (pf N)
    refine ⟨prodL (ks.map fun p => p ^ ((pf N).count p / e)), ?_⟩
    rw [← prodL_pow, List.map_map]
    have e1 := prod_counts h1 (pf N) fun p hp => (h2 p).mpr hp
    rw [pf_prod hN] at e1
    refine e1.trans ?_
    congr 1
    refine List.map_congr_left fun p _ => ?_
    show p ^ (pf N).count p = (p ^ ((pf N).count p / e)) ^ e
    rw [← Nat.pow_mul, Nat.div_mul_cancel (h p)]
theorem lackE_dvd (m : Nat) {e : Nat} (he : 1 ≤ e) : e ∣ m + lackE m e := by
  unfold lackE
  have h1 : m % e < e := Nat.mod_lt _ (by omega)
  have h3 := Nat.div_add_mod m e
  rcases Nat.eq_zero_or_pos (m % e) with c | c
  · rw [c, Nat.sub_zero, Nat.mod_self, Nat.add_zero]
    exact Nat.dvd_of_mod_eq_zero c
  · rw [Nat.mod_eq_of_lt (by omega : e - m % e < e)]
    refine ⟨m / e + 1, ?_⟩
    rw [Nat.mul_add, Nat.mul_one]
    omega
theorem lackE_min {m k e : Nat} (he : 1 ≤ e) (h : e ∣ m + k) : lackE m e ≤ k := by
  unfold lackE
  have h1 : m % e < e := Nat.mod_lt _ (by omega)
  rcases Nat.eq_zero_or_pos (m % e) with c | c
  · rw [c, Nat.sub_zero, Nat.mod_self]
    exact Nat.zero_le _
  · rw [Nat.mod_eq_of_lt (by omega : e - m % e < e)]
    refine Nat.le_of_not_lt fun z => ?_
    have h2 : (m + k) % e = 0 := Nat.mod_eq_zero_of_dvd h
    rw [Nat.add_mod, Nat.mod_eq_of_lt (by omega : k < e), Nat.mod_eq_of_lt (by omega : m % e + k < e)] at h2
    omega
/-- the counts of what lacks -/
theorem ct_lack {N e r : Nat} (h : IsLack (pf N) e r) (p : Nat) : (pf r).count p = lackE ((pf N).count p) e := by
  obtain ⟨ks, h1, h2⟩ := nodup_of (pf N)
  rw [h ks h1 fun q hq => (h2 q).mpr hq]
  unfold lackK
  rw [ct_prod h1 (fun q hq => pf_pr ((h2 q).mp hq)) (fun q => lackE ((pf N).count q) e)]
  by_cases c : p ∈ ks
  · rw [if_pos c]
  · rw [if_neg c, List.count_eq_zero_of_not_mem fun z => c ((h2 p).mpr z), lackE_0]
theorem lack_pos {N e r : Nat} (h : IsLack (pf N) e r) : 1 ≤ r := by
  obtain ⟨ks, h1, h2⟩ := nodup_of (pf N)
  rw [h ks h1 fun q hq => (h2 q).mpr hq]
  refine prodL_pos fun x hx => ?_
  obtain ⟨y, hy, rfl⟩ := List.mem_map.mp hx
  exact Nat.pow_pos (by have := (pf_mem ((h2 y).mp hy)).1; omega)
/-- with what lacks it is a power -/
theorem lack_pow {N e r : Nat} (hN : 1 ≤ N) (he : 1 ≤ e) (h : IsLack (pf N) e r) : ∃ b, N * r = b ^ e := by
  rw [pow_iff (Nat.mul_pos hN (lack_pos h)) he]
  intro p
  rw [ct_mul hN (lack_pos h), ct_lack h]
  exact lackE_dvd _ he
/-- and with no lesser number -/
theorem lack_min {N e r s : Nat} (hN : 1 ≤ N) (he : 1 ≤ e) (hs : 1 ≤ s) (h : IsLack (pf N) e r) (hb : ∃ b, N * s = b ^ e) : r ≤ s := by
  rw [pow_iff (Nat.mul_pos hN hs) he] at hb
  obtain ⟨ks, h1, h2⟩ := nodup_of (pf N ++ pf s)
  rw [h ks h1 fun q hq => (h2 q).mpr (List.mem_append_left _ hq)]
  have e1 := prod_counts h1 (pf s) fun p hp => (h2 p).mpr (List.mem_append_right _ hp)
  rw [pf_prod hs] at e1
  rw [e1]
  refine prodL_le _ _ fun p hp => Nat.pow_le_pow_right ?_ ?_
  · rcases List.mem_append.mp ((h2 p).mp hp) with c | c
    · have := (pf_mem c).1
      omega
    · have := (pf_mem c).1
      omega
  · have := hb p
    rw [ct_mul hN hs] at this
    exact lackE_min he this
/-- the greatest exponent -/
theorem exp_pow {N e : Nat} (hN : 2 ≤ N) (h : IsExp (pf N) e) : (∃ b, N = b ^ e) ∧ ∀ e', 1 ≤ e' → (∃ b, N = b ^ e') → e' ≤ e := by
  have hne : pf N ≠ [] := fun c => by
    have := pf_prod (n := N) (by omega)
    rw [c, prodL_nil] at this
    omega
  obtain ⟨h1, h2⟩ := h.2 hne
  refine ⟨(pow_iff (by omega) h1).mpr fun p => ?_, fun e' he' hb => ?_⟩
  · by_cases c : p ∈ pf N
    · exact (h2 e).mp (Nat.dvd_refl e) p c
    · rw [List.count_eq_zero_of_not_mem c]
      exact Nat.dvd_zero e
  · rw [pow_iff (by omega) he'] at hb
    exact Nat.le_of_dvd (by omega) ((h2 e').mpr fun p _ => hb p)
theorem pf_nil {N : Nat} (hN : 1 ≤ N) : pf N = [] ↔ N = 1 := by
  constructor
  · intro c
    have := pf_prod hN
    rw [c, prodL_nil] at this
    exact this.symm
  · rintro rfl
    exact pf_1
/-- all twice -/
theorem exp_twice {l : List Nat} {e : Nat} (hl : l ≠ []) (h : IsExp l e) : IsExp (l ++ l) (2 * e) := by
  obtain ⟨h1, h2⟩ := h.2 hl
  refine ⟨fun c => absurd (List.append_eq_nil_iff.mp c).1 hl, fun _ => ⟨by omega, fun d => ?_⟩⟩
  constructor
  · intro hd p hp
    rw [List.count_append, ← Nat.two_mul]
    have hp' : p ∈ l := (List.mem_append.mp hp).elim id id
    exact Nat.dvd_trans hd (Nat.mul_dvd_mul_left 2 ((h2 e).mp (Nat.dvd_refl e) p hp'))
  · intro hd
    have hm : ∀ p ∈ l, Nat.lcm d 2 ∣ 2 * l.count p := fun p hp => by
      have := hd p (List.mem_append_left _ hp)
      rw [List.count_append, ← Nat.two_mul] at this
      exact Nat.lcm_dvd this (Nat.dvd_mul_right 2 _)
    obtain ⟨k, hk⟩ := Nat.dvd_lcm_right d 2
    have hke : k ∣ e := (h2 k).mpr fun p hp => by
      have := hm p hp
      rw [hk] at this
      exact Nat.dvd_of_mul_dvd_mul_left (by decide) this
    have : Nat.lcm d 2 ∣ 2 * e := by
      rw [hk]
      exact Nat.mul_dvd_mul_left 2 hke
    exact Nat.dvd_trans (Nat.dvd_lcm_left d 2) this
/-- with what lacks nothing lacks -/
theorem lack_one {l r' : List Nat} {e : Nat} (he : 1 ≤ e) (h : ∀ p, e ∣ (l ++ r').count p) : IsLack (l ++ r') e 1 := by
  intro ks _ _
  refine (prodL_one fun x hx => ?_).symm
  obtain ⟨p, _, rfl⟩ := List.mem_map.mp hx
  have : lackE ((l ++ r').count p) e ≤ 0 := lackE_min he (by simpa using h p)
  rw [Nat.le_zero.mp this, Nat.pow_zero]
end Pn
namespace Pn
/-! ### ways by divisors of the greatest exponent -/
theorem way_iff {n e : Nat} (hn : 2 ≤ n) (he : 1 ≤ e) : wayAt n e = if gexp n % e = 0 then some (rootN n (gexp n) ^ (gexp n / e), e) else none := by
  have hg := gexp_pos n
  have hB : rootN n (gexp n) ^ gexp n = n := (powBy_iff hg).mp (gexp_by n)
  unfold wayAt
  by_cases h : gexp n % e = 0
  · have hd : e ∣ gexp n := Nat.dvd_of_mod_eq_zero h
    have h1 : (rootN n (gexp n) ^ (gexp n / e)) ^ e = n := by
      rw [← Nat.pow_mul, Nat.div_mul_cancel hd, hB]
    have h2 : rootN n e = rootN n (gexp n) ^ (gexp n / e) := by
      generalize rootN n (gexp n) ^ (gexp n / e) = c at h1
      rw [← h1]
      exact rootN_pow he
    rw [if_pos h, h2, if_pos h1]
  · rw [if_neg h, if_neg]
    intro h1
    exact h (Nat.mod_eq_zero_of_dvd ((powBy_dvd hn he).mp ((powBy_iff he).mpr h1)))
theorem filt_more {α : Type} (f : Nat → Option α) (j : Nat) : ∀ d, (∀ i, j ≤ i → i < j + d → f i = none) → (List.range (j + d)).filterMap f = (List.range j).filterMap f
  | 0, _ => rfl
  | d + 1, h => by
    rw [← Nat.add_assoc, List.range_succ, List.filterMap_append, filt_more f j d fun i a b => h i a (by omega)]
    simp [h (j + d) (by omega) (by omega)]
/-- what a divisor of the greatest exponent gives -/
def dueAt (n i : Nat) : Option (Nat × Nat) := if gexp n % (i + 2) = 0 then some (rootN n (gexp n) ^ (gexp n / (i + 2)), i + 2) else none
theorem ways_due {n : Nat} (hn : 2 ≤ n) : waysN n = (List.range (gexp n - 1)).filterMap (dueAt n) := by
  have h1 : waysN n = (List.range (n.log2 - 1)).filterMap (dueAt n) := by
    unfold waysN waysTo
    rw [if_neg (by omega), if_neg (by omega)]
    congr 1
    funext i
    exact way_iff hn (by omega)
  have hl := gexp_le hn
  have hg := gexp_pos n
  rw [h1, show n.log2 - 1 = gexp n - 1 + (n.log2 - gexp n) by omega, filt_more]
  intro i a b
  unfold dueAt
  rw [if_neg]
  intro z
  have := Nat.le_of_dvd (by omega) (Nat.dvd_of_mod_eq_zero z)
  omega
theorem rootN_one (n : Nat) : rootN n 1 = n := (rootN_is (Nat.le_refl 1) (by simp) (by simp)).symm
theorem greatest_gexp {n : Nat} (hn : 2 ≤ n) : greatestN n = (rootN n (gexp n), gexp n) := by
  have hg := gexp_pos n
  have hB : rootN n (gexp n) ^ gexp n = n := (powBy_iff hg).mp (gexp_by n)
  rcases (by omega : gexp n = 1 ∨ 2 ≤ gexp n) with h | h
  · rw [greatest_none hn fun e h1 h2 h3 => ?_, h, rootN_one]
    have := gexp_max hn (by omega) ((powBy_iff (by omega)).mpr h3)
    omega
  · refine greatest_of hn h ((two_pow_le_iff (by omega)).mpr (gexp_le hn)) hB fun e h1 h2 h3 => ?_
    have := gexp_max hn (by omega) ((powBy_iff (by omega)).mpr h3)
    omega
theorem gbase_two {n : Nat} (hn : 2 ≤ n) : 2 ≤ rootN n (gexp n) := by
  have hg := gexp_pos n
  have hB : rootN n (gexp n) ^ gexp n = n := (powBy_iff hg).mp (gexp_by n)
  rcases (by omega : rootN n (gexp n) = 0 ∨ rootN n (gexp n) = 1 ∨ 2 ≤ rootN n (gexp n)) with h | h | h
  · rw [h, Nat.zero_pow (by omega)] at hB
    omega
  · rw [h, Nat.one_pow] at hB
    omega
  · exact h
theorem gexp_base {n : Nat} (hn : 2 ≤ n) : gexp (rootN n (gexp n)) = 1 := by
  have hg := gexp_pos n
  have hB : rootN n (gexp n) ^ gexp n = n := (powBy_iff hg).mp (gexp_by n)
  have h2 := gbase_two hn
  have hg2 := gexp_pos (rootN n (gexp n))
  obtain ⟨c, hc⟩ := gexp_by (rootN n (gexp n))
  have hp : PowBy n (gexp (rootN n (gexp n)) * gexp n) := ⟨c, by rw [Nat.pow_mul, ← hc, hB]⟩
  have h3 := gexp_max hn (Nat.mul_pos hg2 hg) hp
  generalize gexp (rootN n (gexp n)) = f at *
  rcases (by omega : f = 1 ∨ 2 ≤ f) with h | h
  · exact h
  · have : 2 * gexp n ≤ f * gexp n := Nat.mul_le_mul_right _ h
    omega
theorem greatest_base {n : Nat} (hn : 2 ≤ n) : greatestN (rootN n (gexp n)) = (rootN n (gexp n), 1) := by
  rw [greatest_gexp (gbase_two hn), gexp_base hn, rootN_one]
theorem mem_ways {b e : Nat} (hb : 2 ≤ b) (he : 2 ≤ e) : (b, e) ∈ waysN (b ^ e) := by
  have hn : 2 ≤ b ^ e := Nat.le_trans hb (Nat.le_self_pow (by omega) b)
  have hle : e ≤ (b ^ e).log2 := (two_pow_le_iff (by omega)).mp (Nat.pow_le_pow_left hb e)
  unfold waysN waysTo
  rw [if_neg (by omega), if_neg (by omega)]
  refine List.mem_filterMap.mpr ⟨e - 2, List.mem_range.mpr (by omega), ?_⟩
  rw [show e - 2 + 2 = e by omega]
  unfold wayAt
  rw [rootN_pow (by omega), if_pos rfl]
/-- each way is one -/
theorem way_is {n b e : Nat} (h : (b, e) ∈ waysN n) : 2 ≤ e ∧ b ^ e = n ∧ rootN n e = b ∧ 1 ≤ n ∧ 1 ≤ b := by
  unfold waysN at h
  split at h
  · cases h
  · split at h
    · rename_i h1
      simp only [List.mem_singleton, Prod.mk.injEq] at h
      obtain ⟨rfl, rfl⟩ := h
      subst h1
      exact ⟨by omega, rfl, rootN_1 (by omega), by omega, by omega⟩
    · obtain ⟨i, _, hi⟩ := List.mem_filterMap.mp h
      unfold wayAt at hi
      split at hi
      · rename_i h3
        injection hi with hi
        injection hi with h4 h5
        subst h5
        rw [h4] at h3
        refine ⟨by omega, h3, h4, by omega, ?_⟩
        rcases Nat.eq_zero_or_pos b with z | z
        · rw [z, Nat.zero_pow (by omega)] at h3
          omega
        · exact z
      · cases hi
theorem greatest_pow (n : Nat) : (greatestN n).1 ^ (greatestN n).2 = n ∧ 1 ≤ (greatestN n).2 ∧ (1 < (greatestN n).2 ↔ waysN n ≠ []) := by
  rcases (by omega : n = 0 ∨ n = 1 ∨ 2 ≤ n) with rfl | rfl | hn
  · exact ⟨rfl, Nat.le_refl _, by decide⟩
  · exact ⟨rfl, by decide, by decide⟩
  · rw [greatest_gexp hn]
    refine ⟨(powBy_iff (gexp_pos n)).mp (gexp_by n), gexp_pos n, ?_⟩
    have h := waysN_none (n := n)
    have h2 := isPow_gexp hn
    constructor
    · intro a b
      exact h.mp b (h2.mpr a)
    · intro a
      exact h2.mp (Classical.byContradiction fun z => a (h.mpr z))
end Pn
namespace Pn
/-! ### kin: primes to the third root, and what is left -/
/-- the primes, so often as told -/
def ex (qs : List (Nat × Nat)) : List Nat := qs.flatMap fun q => List.replicate q.2 q.1
theorem ex_nil : ex [] = [] := rfl
theorem ex_snoc (qs : List (Nat × Nat)) (p k : Nat) : ex (qs ++ [(p, k)]) = ex qs ++ List.replicate k p := by
  unfold ex
  rw [List.flatMap_append]
  simp
theorem ex_not : ∀ {qs : List (Nat × Nat)} {p : Nat}, p ∉ qs.map (·.1) → (ex qs).count p = 0
  | [], _, _ => rfl
  | q :: qs, p, h => by
    have h1 : p ≠ q.1 := fun z => h (by simp [z])
    have h2 : p ∉ qs.map (·.1) := fun z => h (by rw [List.map_cons]; exact List.mem_cons_of_mem _ z)
    have e : ex (q :: qs) = List.replicate q.2 q.1 ++ ex qs := rfl
    rw [e, List.count_append, ex_not h2, List.count_replicate, if_neg (by simpa using fun z => h1 z.symm)]
theorem ex_count : ∀ {qs : List (Nat × Nat)} {p k : Nat}, (qs.map (·.1)).Nodup → (p, k) ∈ qs → (ex qs).count p = k
  | [], _, _, _, h => by cases h
  | q :: qs, p, k, nd, h => by
    rw [List.map_cons, List.nodup_cons] at nd
    have e : ex (q :: qs) = List.replicate q.2 q.1 ++ ex qs := rfl
    rw [e, List.count_append]
    rcases List.mem_cons.mp h with c | c
    · rw [← c] at nd ⊢
      rw [ex_not nd.1, List.count_replicate, if_pos (by simp)]
      omega
    · have hp : p ∈ qs.map (·.1) := List.mem_map.mpr ⟨(p, k), c, rfl⟩
      have hne : q.1 ≠ p := fun z => nd.1 (z ▸ hp)
      rw [ex_count nd.2 c, List.count_replicate, if_neg (by simpa using hne)]
      omega
theorem prodL_replicate (k p : Nat) : prodL (List.replicate k p) = p ^ k := by
  induction k with
  | zero => rfl
  | succ k ih => rw [List.replicate_succ, prodL_cons, ih, Nat.pow_succ, Nat.mul_comm]
/-- the primes of n with how often, and the rest of two primes at most -/
structure KinOf (n : Nat) (qs : List (Nat × Nat)) (left : Nat) (R : List Nat) : Prop where
  eq : ex qs ++ R = pf n
  pr : prodL R = left
  two : R.length ≤ 2
  no : ∀ p ∈ R, p ∉ qs.map (·.1)
  nd : (qs.map (·.1)).Nodup
  ge : ∀ q ∈ qs, 2 ≤ q.1 ∧ 1 ≤ q.2
theorem KinOf.prs {n left : Nat} {qs : List (Nat × Nat)} {R : List Nat} (h : KinOf n qs left R) {p : Nat} (hp : p ∈ R) : Pr p := pf_pr (n := n) (by rw [← h.eq]; exact List.mem_append_right _ hp)
theorem KinOf.left_pos {n left : Nat} {qs : List (Nat × Nat)} {R : List Nat} (h : KinOf n qs left R) : 1 ≤ left := by
  rw [← h.pr]
  exact prodL_pos fun x hx => by
    have := (h.prs hx).1
    omega
/-- what is left is a square just where it is 1, or one prime twice -/
theorem KinOf.sq {n left : Nat} {qs : List (Nat × Nat)} {R : List Nat} (h : KinOf n qs left R) : (∃ r, left = r * r) ↔ R = [] ∨ ∃ a, R = [a, a] := by
  constructor
  · rintro ⟨r, hr⟩
    have hp := h.pr
    have h2 := h.two
    match R, h, hp, h2 with
    | [], _, _, _ => exact .inl rfl
    | [a], h, hp, _ =>
      exfalso
      have ha := h.prs (p := a) (by simp)
      rw [prodL_cons, prodL_nil, Nat.mul_one, hr] at hp
      have h1 := ha.1
      rcases pr_dvd ha (k := r) ⟨r, hp⟩ with c | c
      · subst c
        omega
      · rw [c] at hp
        have := Nat.mul_le_mul_right a h1
        omega
    | [a, b], h, hp, _ =>
      right
      have ha := h.prs (p := a) (by simp)
      have hb := h.prs (p := b) (by simp)
      rw [prodL_cons, prodL_cons, prodL_nil, Nat.mul_one, hr] at hp
      have h1 : a ∣ r * r := ⟨b, hp.symm⟩
      have h2 : a ∣ r := (pr_mul ha h1).elim id id
      obtain ⟨t, rfl⟩ := h2
      have h3 : a * b = a * (t * (a * t)) := by rw [hp, Nat.mul_assoc]
      have h4 := Nat.eq_of_mul_eq_mul_left (by have := ha.1; omega) h3
      have h5 : a ∣ b := ⟨t * t, by rw [h4, Nat.mul_left_comm]⟩
      rcases pr_dvd hb h5 with c | c
      · have := ha.1
        omega
      · exact ⟨a, by rw [c]⟩
    | a :: b :: c :: r', _, _, h2 => simp at h2
  · rintro (c | ⟨a, c⟩)
    · exact ⟨1, by rw [← h.pr, c]; rfl⟩
    · exact ⟨a, by rw [← h.pr, c, prodL_cons, prodL_cons, prodL_nil, Nat.mul_one]⟩
/-- each prime comes twice -/
def FullN (n : Nat) : Prop := ∀ p ∈ pf n, 2 ≤ (pf n).count p
/-- no prime comes so often -/
def FreeN (n e : Nat) : Prop := ∀ p, (pf n).count p < e
theorem KinOf.count {n left : Nat} {qs : List (Nat × Nat)} {R : List Nat} (h : KinOf n qs left R) (p : Nat) : (pf n).count p = (ex qs).count p + R.count p := by rw [← h.eq, List.count_append]
theorem KinOf.full {n left : Nat} {qs : List (Nat × Nat)} {R : List Nat} (h : KinOf n qs left R) : FullN n ↔ (∀ q ∈ qs, 2 ≤ q.2) ∧ ∃ r, left = r * r := by
  rw [h.sq]
  constructor
  · intro hf
    refine ⟨fun q hq => ?_, ?_⟩
    · have hc := ex_count h.nd (p := q.1) (k := q.2) hq
      have hg := h.ge q hq
      have hm : q.1 ∈ pf n := by
        rw [← h.eq]
        refine List.mem_append_left _ (List.count_pos_iff.mp ?_)
        omega
      have h2 := hf q.1 hm
      rw [h.count, hc] at h2
      have hn : R.count q.1 = 0 := List.count_eq_zero_of_not_mem fun z => h.no _ z (List.mem_map.mpr ⟨q, hq, rfl⟩)
      omega
    · have hall : ∀ p ∈ R, 2 ≤ R.count p := fun p hp => by
        have h2 := hf p (by rw [← h.eq]; exact List.mem_append_right _ hp)
        rw [h.count, ex_not (h.no p hp)] at h2
        omega
      have h2 := h.two
      match R, hall, h2 with
      | [], _, _ => exact .inl rfl
      | [a], hall, _ =>
        have := hall a (by simp)
        simp at this
      | [a, b], hall, _ =>
        have h3 := hall a (by simp)
        rw [List.count_cons_self, List.count_cons] at h3
        by_cases c : b = a
        · exact .inr ⟨a, by rw [c]⟩
        · rw [if_neg (by simpa using c)] at h3
          simp at h3
      | a :: b :: c :: r', _, h2 => simp at h2
  · rintro ⟨h1, h2⟩ p hp
    rw [h.count]
    rw [← h.eq] at hp
    rcases List.mem_append.mp hp with c | c
    · have hin : p ∈ qs.map (·.1) := Classical.byContradiction fun z => by
        have := ex_not z
        have h4 : 0 < (ex qs).count p := List.count_pos_iff.mpr c
        omega
      obtain ⟨q, hq, rfl⟩ := List.mem_map.mp hin
      rw [ex_count h.nd (p := q.1) (k := q.2) hq]
      have := h1 q hq
      omega
    · rcases h2 with z | ⟨a, z⟩
      · rw [z] at c
        cases c
      · rw [z] at c ⊢
        have e : p = a := by simpa using c
        subst e
        simp
theorem KinOf.free {n left e : Nat} {qs : List (Nat × Nat)} {R : List Nat} (h : KinOf n qs left R) (he : 2 ≤ e) : FreeN n e ↔ (∀ q ∈ qs, q.2 < e) ∧ (e = 2 → ∀ r, left = r * r → r = 1) := by
  constructor
  · intro hf
    refine ⟨fun q hq => ?_, fun e2 r hr => ?_⟩
    · have h1 := hf q.1
      rw [h.count, ex_count h.nd (p := q.1) (k := q.2) hq] at h1
      omega
    · rcases h.sq.mp ⟨r, hr⟩ with z | ⟨a, z⟩
      · have h2 := h.pr
        rw [z, prodL_nil, hr] at h2
        exact Nat.eq_one_of_mul_eq_one_left h2.symm
      · exfalso
        have h1 := hf a
        rw [h.count, z] at h1
        simp at h1
        omega
  · rintro ⟨h1, h2⟩ p
    rw [h.count]
    by_cases hin : p ∈ qs.map (·.1)
    · obtain ⟨q, hq, rfl⟩ := List.mem_map.mp hin
      have hn : R.count q.1 = 0 := List.count_eq_zero_of_not_mem fun z => h.no _ z hin
      rw [ex_count h.nd (p := q.1) (k := q.2) hq, hn]
      have := h1 q hq
      omega
    · rw [ex_not hin]
      have h3 : R.count p ≤ R.length := List.count_le_length
      have h4 := h.two
      refine Nat.lt_of_not_le fun c => ?_
      have e2 : e = 2 := by omega
      subst e2
      have hR : ∃ a, R = [a, a] := by
        match R, h4, c with
        | [], _, c => simp at c
        | [a], _, c =>
          have : ([a] : List Nat).count p ≤ 1 := List.count_le_length
          omega
        | [a, b], _, c =>
          rw [List.count_cons, List.count_cons] at c
          simp at c
          by_cases c1 : b = p
          · by_cases c2 : a = p
            · exact ⟨p, by rw [c1, c2]⟩
            · simp [c1, c2] at c
          · by_cases c2 : a = p
            · simp [c1, c2] at c
            · simp [c1, c2] at c
        | a :: b :: c' :: r', h4, _ => simp at h4
      obtain ⟨a, hR⟩ := hR
      have h5 : left = a * a := by rw [← h.pr, hR, prodL_cons, prodL_cons, prodL_nil, Nat.mul_one]
      have h6 := h2 rfl a h5
      have h7 := (h.prs (p := a) (by rw [hR]; simp)).1
      omega
/-- powers are full, and not free by their exponents -/
theorem full_pow {b e : Nat} (hb : 1 ≤ b) (he : 2 ≤ e) : FullN (b ^ e) := fun p hp => by
  have h1 : 0 < (pf (b ^ e)).count p := List.count_pos_iff.mpr hp
  rw [ct_pow hb] at h1 ⊢
  have h2 : 0 < (pf b).count p := by
    rcases Nat.eq_zero_or_pos ((pf b).count p) with z | z
    · rw [z] at h1
      omega
    · exact z
  exact Nat.le_trans he (Nat.le_mul_of_pos_right e h2)
theorem free_pow {b e : Nat} (hb : 2 ≤ b) : ¬ FreeN (b ^ e) e := fun h => by
  have hne : pf b ≠ [] := fun z => by
    have := (pf_nil (N := b) (by omega)).mp z
    omega
  obtain ⟨p, hp⟩ := List.exists_mem_of_ne_nil _ hne
  have h1 := h p
  rw [ct_pow (by omega)] at h1
  have h2 : 0 < (pf b).count p := List.count_pos_iff.mpr hp
  have := Nat.le_mul_of_pos_right e h2
  omega
/-- the loop's end -/
theorem rest_two {d m : Nat} (hd : 2 ≤ d) (hm : 1 ≤ m) (hl : Low d m) (h3 : m < d * d * d) : (pfT d m).length ≤ 2 ∧ ∀ p ∈ pfT d m, d ≤ p := by
  have hp : prodL (pfT d m) = m := pfT_prod _ d m (Nat.le_refl _) hd hm
  have hge : ∀ p ∈ pfT d m, d ≤ p := fun p hpm => by
    refine Nat.le_of_not_lt fun c => ?_
    have h2 := (pfT_mem _ d m (Nat.le_refl _) hd p hpm).1
    refine hl p h2 c ?_
    rw [← hp]
    obtain ⟨a, b, e⟩ := List.append_of_mem hpm
    rw [e, prodL_append, prodL_cons]
    exact ⟨prodL a * prodL b, by rw [Nat.mul_left_comm]⟩
  refine ⟨Nat.le_of_lt_succ (Nat.lt_of_not_le fun c => ?_), hge⟩
  match hR : pfT d m, c with
  | [], c => simp at c
  | [a], c => simp at c
  | [a, b], c => simp at c
  | a :: b :: c' :: r, _ =>
    rw [hR] at hp hge
    have ha := hge a (by simp)
    have hb := hge b (by simp)
    have hc := hge c' (by simp)
    have hr : 1 ≤ prodL r := prodL_pos fun x hx => by
      have := hge x (by simp [hx])
      omega
    rw [prodL_cons, prodL_cons, prodL_cons, ← Nat.mul_assoc, ← Nat.mul_assoc] at hp
    have h4 : d * d * d ≤ a * b * c' := Nat.mul_le_mul (Nat.mul_le_mul ha hb) hc
    have h5 : a * b * c' ≤ a * b * c' * prodL r := Nat.le_mul_of_pos_right _ hr
    omega
theorem KinOf.left_le {n left : Nat} {qs : List (Nat × Nat)} {R : List Nat} (h : KinOf n qs left R) (hn : 1 ≤ n) : left ≤ n := by
  have h1 := pf_prod hn
  rw [← h.eq, prodL_append, h.pr] at h1
  rw [← h1]
  exact Nat.le_mul_of_pos_left _ (prodL_pos fun x hx => by
    have : x ∈ pf n := by rw [← h.eq]; exact List.mem_append_left _ hx
    have := (pf_mem this).1
    omega)
theorem KinOf.le {n left : Nat} {qs : List (Nat × Nat)} {R : List Nat} (h : KinOf n qs left R) {q : Nat × Nat} (hq : q ∈ qs) : q.1 ≤ n ∧ q.2 ≤ (pf n).length := by
  have hc := ex_count h.nd (p := q.1) (k := q.2) hq
  have hg := h.ge q hq
  refine ⟨?_, ?_⟩
  · have hm : q.1 ∈ pf n := by
      rw [← h.eq]
      refine List.mem_append_left _ (List.count_pos_iff.mp ?_)
      omega
    exact (pf_mem hm).2
  · have h1 : (ex qs).count q.1 ≤ (ex qs).length := List.count_le_length
    rw [← h.eq, List.length_append]
    omega
theorem mul_one_iff {a b : Nat} : a * b = 1 ↔ a = 1 ∧ b = 1 := ⟨fun h => ⟨Nat.eq_one_of_mul_eq_one_right h, Nat.eq_one_of_mul_eq_one_left h⟩, fun ⟨h1, h2⟩ => by rw [h1, h2]⟩
theorem step_one {g p k e : Nat} (hg : 1 ≤ g) (hp : 2 ≤ p) (he : 1 ≤ e) : g * p ^ (k / e) = 1 ↔ g = 1 ∧ k < e := by
  rw [mul_one_iff]
  refine and_congr_right fun _ => ?_
  constructor
  · intro h
    rcases Nat.eq_zero_or_pos (k / e) with z | z
    · exact (Nat.div_eq_zero_iff_lt (by omega)).mp z
    · have : 2 ^ 1 ≤ p ^ (k / e) := Nat.le_trans (Nat.pow_le_pow_left hp 1) (Nat.pow_le_pow_right (by omega) z)
      omega
  · intro h
    rw [Nat.div_eq_of_lt h, Nat.pow_zero]
end Pn
/-! ListVals: list(d.values()). -/
namespace LiV
open PySem PySem.Spec PyProof.Rows L2
def rValsL : V → Hp → VK → Prop := fun x H Q => ∃ (d : Addr) (kvs : List (Key × V)), x = .ref d ∧ H d = some (.dK kvs) ∧
  ∀ p : Addr, H p = none → Q (.ref p) (upd H p (.lst (kvs.map fun kv => kv.2)))
def tListVals (te : TE) : TE := fun σ H Q => te σ H fun x H1 => rValsL x H1 Q
section
variable {X : Cx} {e : Expr} {te : TE} {p apos cpos pos : Pos}
/-- list(e.values()) -/
theorem pe_listVals (hc : X.calm = true) (he : PE X e te) (hg : Gl X "list") (hm : X.mg "list" = none) (hv : bootBuiltins "list" = some (.type "list")) (hbase : attributeBase e "values" X.env (eval e X.env) = eval e X.env := by rfl) (hline : (apos.endLine == cpos.line) = true := by rfl)
    (hs : starEach [.Call (.Attribute e "values" apos) [] [] cpos] X.env = (false, eval (.Call (.Attribute e "values" apos) [] [] cpos) X.env) :: starEach [] X.env := by rfl) :
    PE X (.Call (.Name "list" p) [.Call (.Attribute e "values" apos) [] [] cpos] [] pos) (tListVals te) := by
  refine ⟨fun pins s σ H Q I hq => ?_⟩
  refine wpAny_Call_Name_kw (ld_blt I hg hm hv ?_)
  refine PyProof.Rows.callWith_type1 ?_ hs rfl
  rw [hs]
  show wpAny _ _ (spliced ((false, eval (.Call (.Attribute e "values" apos) [] [] cpos) X.env) :: backTo pos (starEach [] X.env))) _ _ s
  refine Calls.spliced_cons ?_
  refine wpAny_Call_method (T := "dict") (id := "dict.values") hbase rfl hline F.plainAttrs_dict F.slot_dict_values F.type_dict_values (thn (he.run pins s σ H _ I hq) fun u s1 ⟨x, H1, I1, rx, d, kvs, ex, hd, q⟩ => ?_)
  subst ex
  obtain rfl : u = Value.ref d := rx
  obtain ⟨hz, hs0, vs, kv, hdo⟩ := I1.hok d _ hd
  obtain ⟨ep, hat⟩ := hdo.dictAt
  have lk : kvs.length = vs.length := Paired.length kv
  have I2 : Inv X pins σ H1 { s1 with heap := s1.heap.push { cls := .type "dict_values", data := .fields #[.ref d] } } := I1.kept (t' := s1.toks) fun b ob q => Heap.get?_push_of_some _ q
  refine ⟨hdo.typeIs, hdo.mapOf.noDict, ?_⟩
  show wpAny _ _ (callWith cpos (.builtin "dict.values") [.ref d] [] []) _ X.xe s1
  refine method_meetsIn F.slot_dict_values F.entry_dict_values rfl (PySem.evalArgs_none ⟨rfl, hdo.typeIs, F.args_dict_values_1 _, _, meets_dict_values (mixKind X.prog X.w) d hs0, ⟨vs, hdo⟩, ?_⟩)
  refine Calls.spliced_nil ?_
  refine PySem.W.kdl_call (PySem.W.kdl_values (knd := mixKind X.prog X.w) (d := d) (kvs := vs) (ep := ep)) (I1.ok.hd hc) ⟨⟨_, Heap.get?_push_size _ rfl, rfl, rfl⟩, hat.push _⟩ (by rw [← lk]; exact hz) fun h' tk acc' c' hk hS hacc => ?_
  have e0 : ∀ o : Obj, (s1.heap.push o).objs.size = s1.heap.objs.size + 1 := fun o => Heap.size_push _ _
  refine ⟨.ref (s1.heap.push { cls := .type "dict_values", data := .fields #[.ref d] }).objs.size, upd H1 (s1.heap.push { cls := .type "dict_values", data := .fields #[.ref d] }).objs.size (.lst (kvs.map fun kv => kv.2)), I2.laid hk (Nat.le_refl _) (show ObjOk X.prog X.w _ _ _ (.lst (kvs.map fun kv => kv.2)) from ⟨?_, acc'.toList, c', ?_, ?_⟩), rfl, q _ (I2.hok.fresh (Nat.le_refl _))⟩
  · rw [List.length_map]; exact hz
  · have el : acc'.toList.length = acc'.size := by simp
    refine vals_of_at (by rw [List.length_map, el, hacc.1, lk]) fun j x w h1 h2 => ?_
    obtain ⟨k, hky⟩ := hacc.2 j w (by rw [← Array.getElem?_toList]; exact h2)
    obtain ⟨x', g1, g2⟩ := KV.at' kv hky
    have e2 : (kvs.map fun kv => kv.2)[j]? = some x' := by rw [List.getElem?_map, g1] <;> rfl
    rw [e2] at h1
    cases h1
    exact g2
  · rw [Array.toArray_toList]; exact hS
end
end LiV

namespace Pn
open PySem PySem.Spec PyProof.Rows L2 LiV
/-! ### dicts by whole numbers -/
section
variable {σ : L2.St} {H : Hp} {Q : VK} {D : Ends} {K : PySem.W.Frag} {td ty tv tx te : TE}
theorem w_dget : tDGet td ty σ H Q = td σ H fun x H1 => ty σ H1 fun y H2 => ∃ a v, x = .ref a ∧ DGet H2 a y (some v) ∧ Q v H2 := rfl
theorem w_dget2 : tDGet2 td ty tx σ H Q = td σ H fun x H1 => ∃ a, x = .ref a ∧ IsD H1 a ∧ ty σ H1 fun y H2 => tx σ H2 fun z H3 => ∃ o, DGet H3 a y o ∧ Q (o.getD z) H3 := rfl
theorem w_dput : sDPut td ty tv D σ H = tv σ H fun v H1 => td σ H1 fun x H2 => ty σ H2 fun y H3 => ∃ a H4, x = .ref a ∧ DPut H3 a y v H4 ∧ D.nx σ H4 := rfl
theorem w_dnew : tDNewK σ H Q = ∀ p, H p = none → Q (.ref p) (upd H p (.dK [])) := rfl
theorem w_lv : tListVals te σ H Q = te σ H fun x H1 => ∃ (d : Addr) (kvs : List (Key × V)), x = .ref d ∧ H1 d = some (.dK kvs) ∧ ∀ p : Addr, H1 p = none → Q (.ref p) (upd H1 p (.lst (kvs.map fun kv => kv.2))) := rfl
end
/-- the dict with the keys ks, each with what g tells -/
def dN (ks : List Nat) (g : Nat → V) : List (Key × V) := ks.map fun k : Nat => ((Sum.inl (k : Int) : Key), g k)
theorem dN_val (g : Nat → V) (m : Nat) : ∀ ks : List Nat, valV (dN ks g) (Sum.inl (m : Int)) = if m ∈ ks then some (g m) else none
  | [] => rfl
  | k :: ks => by
    show valV (((Sum.inl (k : Int) : Key), g k) :: dN ks g) (Sum.inl (m : Int)) = _
    by_cases e : k = m
    · subst e
      rw [valV_pos rfl, if_pos (by simp)]
    · rw [valV_neg (fun z => e (by injection z with z; omega)), dN_val g m ks]
      have : (m ∈ k :: ks) = (m ∈ ks) := by
        simp
        intro z
        exact absurd z.symm e
      simp only [this]
theorem dN_get {H : Hp} {a : Addr} {ks : List Nat} {g : Nat → V} {m : Nat} (h : H a = some (.dK (dN ks g))) : DGet H a (.int (m : Int)) (if m ∈ ks then some (g m) else none) := by
  have := DGet.k (k := (Sum.inl (m : Int) : Key)) h
  rw [dN_val] at this
  exact this
theorem dN_at {H : Hp} {a : Addr} {ks : List Nat} {g : Nat → V} {m : Nat} (h : H a = some (.dK (dN ks g))) (hm : m ∈ ks) : DGet H a (.int (m : Int)) (some (g m)) := by
  have := dN_get (m := m) h
  rwa [if_pos hm] at this
theorem dN_put {H : Hp} {a : Addr} {ks : List Nat} {g : Nat → V} {m : Nat} (h : H a = some (.dK (dN ks g))) (hm : m ∉ ks) (hl : ks.length < sizeLine) : DPut H a (.int (m : Int)) (g m) (upd H a (.dK (dN (ks ++ [m]) g))) := by
  have e : dN (ks ++ [m]) g = putK (dN ks g) (Sum.inl (m : Int)) (g m) := by
    rw [putK_new (g m) (by rw [dN_val, if_neg hm])]
    simp [dN]
  rw [e]
  exact DPut.k (k := (Sum.inl (m : Int) : Key)) h (by simpa [dN] using hl)
theorem dN_vals (ks : List Nat) (g : Nat → V) : (dN ks g).map (fun kv => kv.2) = ks.map g := by simp [dN]
theorem dN_len (ks : List Nat) (g : Nat → V) : (dN ks g).length = ks.length := by simp [dN]
theorem w_isB {x y : V} {H : Hp} {Q : VK} : rIsB x y H Q = ∃ a b : Bool, x = .bl a ∧ y = .bl b ∧ Q (.bl (decide (a = b))) H := rfl
theorem w_notB {x y : V} {H : Hp} {Q : VK} : rNotB x y H Q = ∃ a b : Bool, x = .bl a ∧ y = .bl b ∧ Q (.bl (!decide (a = b))) H := rfl
/-! ### methods within a comprehension -/
theorem k_bm {X : Cx} {K : PySem.W.Frag} {e : Expr} {T : String} {r : V → List V → Hp → VK → Prop} {to : TE} {t : TA} (h : PE X e (tBM X.K T r to t)) (hk : X.K = K := by rfl) : PE X e (tBM K T r to t) := by
  subst hk
  exact h
theorem k_count {X : Cx} (K : PySem.W.Frag) (hk : X.K = K := by rfl) : MtR X "list.count" (rCntI K) := by
  subst hk
  exact mt_lcount
/-! ### xs[i] op= e of a list -/
theorem pget_list {X : Cx} (K : PySem.W.Frag) (h : X.K = K := by rfl) : PGet X (rIxL K) := by
  subst h
  intro pins s σ H o at' ov iv Q I ro ri hg
  obtain ⟨l, ys, k, z, rfl, rfl, hS, hA, hq⟩ := hg
  cases ro
  obtain ⟨tk, rfl⟩ := ri
  obtain ⟨raw, rel, isl, size⟩ := I.list hS
  obtain ⟨n, g1, g2, g3, g4, g5⟩ := atI_get hA
  obtain ⟨got, ge, gr⟩ := rel.get g2
  have len := rel.length
  have top := line63
  have done : EP X pins σ Q got s := ⟨z, H, I, gr, hq⟩
  by_cases neg : k < 0
  · have en : (k + (raw.toArray.size : Int)).toNat = n := by
      have g := g1
      rw [seqIndex_neg neg g4] at g
      rw [List.size_toArray, ← len]
      exact Option.some.inj g
    refine wpAny_getItem_list_neg isl.isList neg ?_ (by omega) ?_ done
    · rw [List.size_toArray]
      omega
    · rw [en]
      simpa using ge
  · have en : k.toNat = n := by
      have g := g1
      rw [seqIndex_of (by omega) g5] at g
      exact Option.some.inj g
    refine wpAny_getItem_list isl.isList (by omega) (by omega) ?_ done
    rw [en]
    simpa using ge
theorem w_augS {to ti te : TE} {tget : V → V → Hp → VK → Prop} {tip : TIp} {tset : TSet} {D : Ends} {σ : L2.St} {H : Hp} : tAugS to ti te tget tip tset D σ H = to σ H fun o H1 => ti σ H1 fun i H2 => tget o i H2 fun x H3 => te σ H3 fun y H4 => tip x y H4 fun z H5 => tset o i z H5 fun H6 => D.nx σ H6 := rfl
/-! ### comprehensions over ranges by steps -/
section
variable {σ : L2.St} {H : Hp} {Q : VK} {K : PySem.W.Frag} {te tl : TE} {tt : TT} {tr : TA} {g : TG} {vs : List Nat}
theorem lc_c {lo c : Int} {n : Nat} (f : Nat → Option V) (hl : n < sizeLine)
    (hs : ∀ (i : Nat) (H' : Hp), i < n → Same H H' → ∀ (N0 : Hp → Prop) (N1 : VK), (f i = none → ∀ H2, Same H' H2 → N0 H2) → (∀ y, f i = some y → ∀ H2, Same H' H2 → N1 y H2) →
      g (.int (lo + (i : Nat) * c)) (wipe σ vs) H' fun σ2 H2 => wipe σ2 vs = wipe σ vs ∧ tt σ2 H2 fun b H3 => if b = true then te σ2 H3 N1 else N0 H3)
    (q : ∀ D H', H D = none → Same H H' → H' D = some (.lst ((List.range n).filterMap f)) → Q (.ref D) H') : LJ (Itc lo c n) g tt te vs σ H Q := by
  intro D hD
  refine ⟨fun j left Hw => left + j = n ∧ Same H Hw ∧ Hw D = some (.lst ((List.range j).filterMap f)), ⟨n, Nat.add_zero n, same_new hD, by rw [upd_same]; simp⟩, fun j left Hw => ?_⟩
  rintro ⟨ej, p1, p2⟩
  rcases Nat.eq_zero_or_pos left with h0 | h0
  · left
    obtain rfl : j = n := by omega
    exact ⟨Nat.le_refl j, q D Hw hD p1 p2⟩
  · right
    have hj : j < n := by omega
    refine ⟨hj, fun Hz => Same H Hz ∧ Hz D = some (.lst ((List.range (j + 1)).filterMap f)), fun Hz hz => ⟨left - 1, by omega, by omega, hz.1, hz.2⟩, fun x Hy hy => ?_⟩
    obtain ⟨e1, e2⟩ := hy
    subst e1 e2
    have hlen : ((List.range j).filterMap f).length < sizeLine := Nat.lt_of_le_of_lt (List.length_filterMap_le _ _) (by rw [List.length_range]; omega)
    have hf1 : (List.range (j + 1)).filterMap f = (List.range j).filterMap f ++ (f j).toList := by
      rw [List.range_succ, List.filterMap_append]
      cases e : f j <;> simp [e]
    refine hs j Hy hj p1 _ _ (fun hf H2 k2 => ⟨p1.trans k2, ?_⟩) fun y hf H2 k2 => ⟨_, k2 _ _ p2, hlen, fun b o h => ?_, ?_⟩
    · rw [k2 _ _ p2, hf1, hf]
      simp
    · rw [upd_ne (ne_of_none h hD)]
      exact k2 _ _ (p1 _ _ h)
    · rw [upd_same, hf1, hf]
      rfl
end
/-! ### a comprehension over a dict's keys -/
section
variable {σ : L2.St} {H : Hp} {Q : VK} {K : PySem.W.Frag} {te tl td : TE} {tt : TT} {tr : TA} {g : TG} {vs : List Nat}
theorem w_lockE {t : TE} : tLockE t σ H Q = ∃ d u, H d = some u ∧ Mut (some u) ∧ ∀ od, t σ (upd H d (.frz od u)) fun v H' => H' d = some (.frz od u) ∧ Q v (upd H' d u) := rfl
theorem w_lcK : tLc (iKeys td) g tt te vs σ H Q = td σ H fun x H1 => ∃ d o, x = .ref d ∧ ((∃ kvs, H1 d = some (.frz o (.dK kvs)) ∧ LJ (Itk d o kvs) g tt te vs σ H1 Q) ∨ ∃ kvs, H1 d = some (.frz o (.dT kvs)) ∧ LJ (Itkt d o kvs) g tt te vs σ H1 Q) := rfl
theorem same_unlock {H0 H' : Hp} {d : Addr} {x u : HO} (s : Same (upd H0 d x) H') (h : H0 d = some u) : Same H0 (upd H' d u) := fun b o hb => by
  by_cases e : b = d
  · subst e
    rw [upd_same, ← h, hb]
  · rw [upd_ne e]
    exact s _ _ ((upd_ne e).trans hb)
theorem lc_k {d : Addr} {o : Obj} {kvs : List (Key × V)} (f : Key → Option V) (hx : H d = some (.frz o (.dK kvs))) (hl : kvs.length < sizeLine)
    (hs : ∀ (i : Nat) (k : Key) (v : V) (H' : Hp), kvs[i]? = some (k, v) → Same H H' → ∀ (N0 : Hp → Prop) (N1 : VK), (f k = none → ∀ H2, Same H' H2 → N0 H2) → (∀ y, f k = some y → ∀ H2, Same H' H2 → N1 y H2) →
      g (kV k) (wipe σ vs) H' fun σ2 H2 => wipe σ2 vs = wipe σ vs ∧ tt σ2 H2 fun b H3 => if b = true then te σ2 H3 N1 else N0 H3)
    (q : ∀ D H', H D = none → Same H H' → H' D = some (.lst ((kvs.map (·.1)).filterMap f)) → Q (.ref D) H') : LJ (Itk d o kvs) g tt te vs σ H Q := by
  intro D hD
  have hDd : d ≠ D := ne_of_none hx hD
  refine ⟨fun j left Hw => left + j = kvs.length ∧ Same H Hw ∧ Hw D = some (.lst (((kvs.map (·.1)).take j).filterMap f)), ⟨kvs.length, Nat.add_zero _, same_new hD, by rw [upd_same]; simp⟩, fun j left Hw => ?_⟩
  rintro ⟨ej, p1, p2⟩
  rcases Nat.eq_zero_or_pos left with h0 | h0
  · left
    have e : j = kvs.length := by omega
    refine ⟨⟨p1 _ _ hx, by omega⟩, q D Hw hD p1 ?_⟩
    rw [p2, List.take_of_length_le (by simp; omega)]
  · right
    have hj : j < kvs.length := by omega
    refine ⟨⟨p1 _ _ hx, hj⟩, fun Hz => Same H Hz ∧ Hz D = some (.lst (((kvs.map (·.1)).take (j + 1)).filterMap f)), fun Hz hz => ⟨left - 1, by omega, by omega, hz.1, hz.2⟩, fun x Hy hy => ?_⟩
    obtain ⟨e1, k, v, hk, e2⟩ := hy
    subst e1 e2
    have hk1 : (kvs.map (·.1))[j]? = some k := by rw [List.getElem?_map, hk]; rfl
    have hlen : (((kvs.map (·.1)).take j).filterMap f).length < sizeLine := Nat.lt_of_le_of_lt (Nat.le_trans (List.length_filterMap_le _ _) (by rw [List.length_take, List.length_map]; exact Nat.min_le_right _ _)) hl
    refine hs j k v Hy hk p1 _ _ (fun hf H2 k2 => ⟨p1.trans k2, ?_⟩) fun y hf H2 k2 => ⟨_, k2 _ _ p2, hlen, fun b o h => ?_, ?_⟩
    · rw [k2 _ _ p2, filt_take f hk1, hf]
      simp
    · rw [upd_ne (ne_of_none h hD)]
      exact k2 _ _ (p1 _ _ h)
    · rw [upd_same, filt_take f hk1, hf]
      rfl
/-- within the lock the dict still tells -/
theorem dN_atF {H : Hp} {a : Addr} {o : Obj} {ks : List Nat} {g : Nat → V} {m : Nat} (h : H a = some (.frz o (.dK (dN ks g)))) (hm : m ∈ ks) : DGet H a (.int (m : Int)) (some (g m)) := by
  refine .inl ⟨dN ks g, Sum.inl (m : Int), .inr ⟨o, h⟩, rfl, ?_⟩
  rw [dN_val, if_pos hm]
end
/-- the dict with one more, or one told anew -/
theorem dN_upd {H : Hp} {a : Addr} {ks : List Nat} {g : Nat → V} {v : V} {m : Nat} (h : H a = some (.dK (dN ks g))) (hl : ks.length < sizeLine) : DPut H a (.int (m : Int)) v (upd H a (.dK (dN (if m ∈ ks then ks else ks ++ [m]) fun k => if k = m then v else g k))) := by
  by_cases e : m ∈ ks
  · have e1 : dN ks (fun k => if k = m then v else g k) = putK (dN ks g) (Sum.inl (m : Int)) v := by
      unfold putK
      rw [valV_any, dN_val, if_pos e]
      simp only [Option.isSome_some, if_true]
      unfold dN
      rw [List.map_map]
      refine List.map_congr_left fun k hk => ?_
      show ((Sum.inl (k : Int) : Key), if k = m then v else g k) = if (Sum.inl (k : Int) : Key) = Sum.inl (m : Int) then ((Sum.inl (k : Int) : Key), v) else ((Sum.inl (k : Int) : Key), g k)
      by_cases c : k = m
      · subst c
        rw [if_pos rfl, if_pos rfl]
      · rw [if_neg c, if_neg fun z => c (by injection z with z; omega)]
    rw [if_pos e, e1]
    exact DPut.k (k := (Sum.inl (m : Int) : Key)) h (by simpa [dN] using hl)
  · rw [if_neg e]
    have e1 : dN (ks ++ [m]) (fun k => if k = m then v else g k) = putK (dN ks g) (Sum.inl (m : Int)) v := by
      rw [putK_new v (by rw [dN_val, if_neg e])]
      unfold dN
      rw [List.map_append]
      congr 1
      · refine List.map_congr_left fun k hk => ?_
        show ((Sum.inl (k : Int) : Key), if k = m then v else g k) = ((Sum.inl (k : Int) : Key), g k)
        rw [if_neg fun z : k = m => e (by rw [← z]; exact hk)]
      · simp
    rw [e1]
    exact DPut.k (k := (Sum.inl (m : Int) : Key)) h (by simpa [dN] using hl)
end Pn
/-! PnK: sorted(d) of a dict whose keys are whole numbers, however many. -/
namespace DicS
open PySem PySem.Spec PyProof.Rows L2
def rSortD : List V → Hp → VK → Prop := fun xs H Q => ∃ (a : Addr) (kvs : List (Key × V)) (ks : List Int), xs = [.ref a] ∧ Rd H a (.dK kvs) ∧ kvs.map (·.1) = ks.map Sum.inl ∧
  ∀ (ys : List Int) (p : Addr), ys.Perm ks → ys.Pairwise (· ≤ ·) → H p = none → Q (.ref p) (upd H p (.lst (ys.map V.int)))
theorem cr_sortD {X : Cx} (calm : X.calm = true := by rfl) : CallR X (.builtin "sorted") rSortD := by
  intro pins s σ H xs us Q I r h
  obtain ⟨a, kvs, ks, rfl, here, keys, q⟩ := h
  rw [Vals.ref1 r]
  obtain ⟨z, low, vs, rel, dic⟩ := dk_rd I.hok here
  obtain ⟨ep, at0⟩ := dic.dictAt
  have raw : vs.map (·.1) = ks.map Sum.inl := rel.keys.symm.trans keys
  have many : vs.length = ks.length := by
    have := congrArg List.length raw
    simpa using this
  have fits : vs.length ≤ sizeLine := by rw [← rel.length]; exact z
  refine Calls.call_function_entry kind_sorted plain_sorted entry_sorted (args_sorted1 _) ?_
  unfold Builtin.«sorted»
  refine wpAny_bind (m := checkCount "sorted" 1 1 _) (wpAny_pure ?_)
  refine wpAny_bind (PySem.W.kdu_collect (A := X.A.in1) (PySem.W.kdl_dict (knd := mixKind X.prog X.w) (kvs := vs) (ep := ep) low) (I.ok.hd calm) at0 fits fun h' tk acc keep items => ?_)
  have al : acc.toList.length = ks.length := by rw [Array.length_toList, items.1, many]
  have az : acc.toList.length ≤ sizeLine := by omega
  have are : IntsAre acc.toList ks := ints_each al fun j v e => by
    obtain ⟨k, x, e1, e2⟩ := items.2 j v (by rw [← Array.getElem?_toList]; exact e)
    have e3 : (ks.map Sum.inl : List Key)[j]? = some k := by
      rw [← raw, List.getElem?_map, e1]
      rfl
    rw [List.getElem?_map] at e3
    obtain ⟨y, e4, e5⟩ := Option.map_eq_some_iff.mp e3
    subst e5
    rcases keyIs_shape (show keyIs (Sum.inl y) v = true from e2) with ⟨i, t, ek, ev⟩ | ⟨w, t, ek, _⟩
    · cases ek
      exact ⟨y, t, e4, ev⟩
    · cases ek
  have J : Inv X pins σ H { s with heap := h', toks := tk } := I.kept keep
  refine wpAny_bind (wpAny_newList ?_ az)
  have newL : (h'.push (seqObj "list" acc.toList.toArray 0)).get? h'.objs.size = some (seqObj "list" acc.toList.toArray 0) := Heap.get?_push_size _ rfl
  show wpAny _ _ _ _ _ { s with heap := h'.push (seqObj "list" acc.toList.toArray 0), toks := tk }
  refine wpAny_bind (wpAny_holding (wpAny_call_entry slot_list_sort ⟨_, newL, rfl⟩ entry_list_sort (SrtO.list_sort_ord (s := { s with heap := h'.push (seqObj "list" acc.toList.toArray 0), toks := tk }) SrtO.swo_int newL az (fun h2 => SrtO.ints_sortable are h2) fun out o1 o2 => ⟨_, rfl, ?_⟩) (args_list_sort _)))
  obtain ⟨c, hc⟩ := sortedHeap_at (vs := acc.toList) (out := out.toArray) newL
  obtain ⟨k1, k2, k3⟩ := SrtO.ints_out are o1 o2
  have yl : ((out.map SrtO.iv).map V.int).length ≤ sizeLine := by
    rw [List.length_map, k2.length_eq]
    omega
  refine wpAny_pure ⟨_, rfl, .ref h'.objs.size, upd H h'.objs.size (.lst ((out.map SrtO.iv).map V.int)), J.laid (t' := tk) (fun b u e => ?_) (Nat.le_refl _) (show ObjOk X.prog X.w _ _ _ (.lst ((out.map SrtO.iv).map V.int)) from ⟨yl, out, c, vals_of_ints k1, hc⟩), rfl, q _ _ k2 k3 (J.hok.fresh (Nat.le_refl _))⟩
  have lt : b < h'.objs.size := Heap.lt_size e
  rw [sortedHeap_old (Nat.ne_of_lt lt) (by rw [size_push']; exact Nat.lt_succ_of_lt lt)]
  exact Heap.get?_push_of_some _ e
end DicS
/-! PnZ: zip in loops and comprehensions; is None. -/
namespace Pn
open PySem PySem.Spec PyProof.Rows L2
section
variable {σ : L2.St} {H : Hp} {Q : VK} {D : Ends} {K : PySem.W.Frag} {te : TE} {tt : TT} {tr : TA} {s1 : TS} {g : TG} {vs : List Nat}
theorem w_forZ : tFor (iZip K tr) g s1 D σ H = tr σ H fun us H1 => ∃ a b xs ys, us = [.ref a, .ref b] ∧ SqL K H1 a xs ∧ SqL K H1 b ys ∧ FJ (Itz K a b) g s1 D σ H1 := rfl
theorem for_z {a b : Addr} {xs ys : List V} {n : Nat} (hn : n = min xs.length ys.length) (Pv : Nat → L2.St → Hp → Prop) (h0 : Pv 0 σ H) (hl : ∀ i σ H, i ≤ n → Pv i σ H → SqL K H a xs ∧ SqL K H b ys)
    (hs : ∀ i x y σ H T, xs[i]? = some x → ys[i]? = some y → i < n → Pv i σ H → H T = none → ∀ N : L2.St → Hp → Prop, (∀ σ' H', Pv (i + 1) σ' H' → N σ' H') → g (.ref T) σ (upd H T (.tup [x, y])) fun σ2 H2 => s1 { D with nx := N, ct := N, bk := D.nx } σ2 H2)
    (hd : ∀ σ H, Pv n σ H → D.nx σ H) : FJ (Itz K a b) g s1 D σ H :=
  for_it (walk_zip hn) Pv h0 hl (fun i v σ H H' hi p y => by
    obtain ⟨T, x, z, rfl, hT, rfl, h1, h2⟩ := y
    exact hs i x z σ H T h1 h2 hi p hT _ fun _ _ z => z) hd
theorem w_lcZ : tLc (RZ.iZipA K tr) g tt te vs σ H Q = tr σ H fun us H1 => ∃ a b xs ys, us = [.ref a, .ref b] ∧ ((SqL K H1 a xs ∧ SqL K H1 b ys ∧ LJ (Itz K a b) g tt te vs σ H1 Q) ∨ (SqT K H1 a xs ∧ SqT K H1 b ys ∧ LJ (RZ.ItzT K a b) g tt te vs σ H1 Q)) := rfl
/-- over two tuples of one length: f tells of two items what is put into the list, if anything -/
theorem lc_zt {a b : Addr} {xs ys : List V} (f : V → V → Option V) (hx : SqT K H a xs) (hy : SqT K H b ys) (hn : xs.length = ys.length) (hl : xs.length < sizeLine)
    (hs : ∀ (i : Nat) (x y : V) (T : Addr) (H' : Hp), xs[i]? = some x → ys[i]? = some y → Same H H' → H' T = some (.tup [x, y]) → ∀ (N0 : Hp → Prop) (N1 : VK), (f x y = none → ∀ H2, Same H' H2 → N0 H2) → (∀ z, f x y = some z → ∀ H2, Same H' H2 → N1 z H2) →
      g (.ref T) (wipe σ vs) H' fun σ2 H2 => wipe σ2 vs = wipe σ vs ∧ tt σ2 H2 fun b H3 => if b = true then te σ2 H3 N1 else N0 H3)
    (q : ∀ D H', H D = none → Same H H' → H' D = some (.lst ((xs.zip ys).filterMap fun p => f p.1 p.2)) → Q (.ref D) H') : LJ (RZ.ItzT K a b) g tt te vs σ H Q := by
  intro D hD
  have hlen2 : (xs.zip ys).length = xs.length := by rw [List.length_zip, ← hn, Nat.min_self]
  refine ⟨fun j left Hw => left + j = xs.length ∧ Same H Hw ∧ Hw D = some (.lst (((xs.zip ys).take j).filterMap fun p => f p.1 p.2)), ⟨xs.length, Nat.add_zero _, same_new hD, by rw [upd_same]; simp⟩, fun j left Hw => ?_⟩
  rintro ⟨ej, p1, p2⟩
  have qx := same_seqT p1 hx
  have qy := same_seqT p1 hy
  rcases Nat.eq_zero_or_pos left with h0 | h0
  · left
    have e : j = xs.length := by omega
    subst e
    refine ⟨⟨xs, ys, qx, qy, .inl (Nat.le_refl _)⟩, q D Hw hD p1 ?_⟩
    rw [p2, ← hlen2, List.take_length]
  · right
    have hj : j < xs.length := by omega
    have hj2 : j < ys.length := by omega
    refine ⟨⟨xs, ys, xs[j], ys[j], qx, qy, List.getElem?_eq_getElem hj, List.getElem?_eq_getElem hj2⟩, fun Hz => Same H Hz ∧ Hz D = some (.lst (((xs.zip ys).take (j + 1)).filterMap fun p => f p.1 p.2)), fun Hz hz => ⟨left - 1, by omega, by omega, hz.1, hz.2⟩, fun v Hy hy' => ?_⟩
    obtain ⟨T, x, y, rfl, hT, rfl, fx, fy⟩ := hy'
    have ex := fx xs qx
    have ey := fy ys qy
    have ez : (xs.zip ys)[j]? = some (x, y) := by
      rw [List.getElem?_zip_eq_some]
      exact ⟨ex, ey⟩
    have n1 : Same Hw (upd Hw T (.tup [x, y])) := same_new hT
    have hlen : (((xs.zip ys).take j).filterMap fun p => f p.1 p.2).length < sizeLine := Nat.lt_of_le_of_lt (Nat.le_trans (List.length_filterMap_le _ _) (by rw [List.length_take, hlen2]; exact Nat.min_le_right _ _)) hl
    have hf1 := filt_take (fun p : V × V => f p.1 p.2) ez
    have hD2 := n1 _ _ p2
    refine hs j x y T _ ex ey (p1.trans n1) upd_same _ _ (fun hf H2 k2 => ⟨(p1.trans n1).trans k2, ?_⟩) fun z hf H2 k2 => ⟨_, k2 _ _ hD2, hlen, fun b o h => ?_, ?_⟩
    · rw [k2 _ _ hD2, hf1, hf]
      simp
    · rw [upd_ne (ne_of_none h hD)]
      exact k2 _ _ (n1 _ _ (p1 _ _ h))
    · rw [upd_same, hf1, hf]
      rfl
end
end Pn
/-! PnT: texts of numbers; a module's constants. -/
namespace Pn
open PySem PySem.Spec PyProof.Rows L2 TL
def GS (mg : PySem.Str → Option Value) (x s : PySem.Str) : Prop := ∃ t, mg x = some (.str s t)
def GI (mg : PySem.Str → Option Value) (x : PySem.Str) (i : Int) : Prop := ∃ t, mg x = some (.int i t)
theorem k_globS {X : Cx} {x s : PySem.Str} {pos : Pos} (h : GS X.mg x s) (hg : Gl X x) (hd : (x == ("__debug__" : PySem.Str)) = false := by decide) : PE X (.Name x pos) (tC (.str s)) := by
  obtain ⟨t, h⟩ := h
  exact pe_glob hg h ⟨t, rfl⟩ hd
theorem k_globI {X : Cx} {x : PySem.Str} {i : Int} {pos : Pos} (h : GI X.mg x i) (hg : Gl X x) (hd : (x == ("__debug__" : PySem.Str)) = false := by decide) : PE X (.Name x pos) (tC (.int i)) := by
  obtain ⟨t, h⟩ := h
  exact pe_glob hg h ⟨t, rfl⟩ hd
/-- the text of a number -/
def sN (n : Nat) : PySem.Str := PySem.Str.ofString (toString ((n : Nat) : Int))
theorem tl_sN (n : Nat) : tl (sN n) = numL n := tl_num n
theorem str_ext {x y : PySem.Str} (h : tl x = tl y) : x = y := by
  rw [← mk_tl x, ← mk_tl y, h]
theorem str_zero : ("0" : PySem.Str) = ⟨#[48]⟩ := str_ext (by decide +kernel)
theorem str_hat : ("^" : PySem.Str) = ⟨#[94]⟩ := str_ext (by decide +kernel)
theorem len_is (x : PySem.Str) : x.length = (tl x).length := Array.length_toList.symm
section
variable {H : Hp} {Q : VK} {z : PySem.Str}
theorem r_ixS {i : Nat} {c : Nat} (hz : z.length ≤ sizeLine) (h : (tl z)[i]? = some c) (q : Q (.str ⟨#[c]⟩) H) : rIxS (.str z) (.int (i : Int)) H Q := ⟨z, (i : Int), c, rfl, rfl, hz, atI_nat h, q⟩
theorem r_slS {lo hi : Option Int} (hz : z.length ≤ sizeLine) (q : Q (.str (cutS z lo hi)) H) : rSlS (.str z) lo hi H Q := ⟨z, rfl, hz, q⟩
end
theorem tl_cut (z : PySem.Str) {i j : Nat} (hi : i ≤ z.length) (hj : j ≤ z.length) : tl (cutS z (some (i : Int)) (some (j : Int))) = ((tl z).drop i).take (j - i) := by
  unfold cutS
  rw [HT.sIx_nat, HT.sIx_nat, Nat.min_eq_left hi, Nat.min_eq_left hj]
theorem tl_cutTo (z : PySem.Str) {j : Nat} (hj : j ≤ z.length) : tl (cutS z none (some (j : Int))) = (tl z).take j := by
  unfold cutS
  rw [HT.sIx_none, HT.sIx_nat, Nat.min_eq_left hj]
  simp
/-- one sign -/
theorem one_eq (c d : Nat) : decide ((.str ⟨#[c]⟩ : V) = .str ⟨#[d]⟩) = decide (c = d) := by
  refine decide_eq_decide.mpr ⟨fun h => ?_, fun h => by rw [h]⟩
  injection h with h
  have := congrArg tl h
  simpa using this
theorem fig_mem (c : Nat) : c ∈ tl ("0123456789" : PySem.Str) ↔ 48 ≤ c ∧ c ≤ 57 := by
  have e : tl ("0123456789" : PySem.Str) = [48, 49, 50, 51, 52, 53, 54, 55, 56, 57] := by decide +kernel
  rw [e]
  simp
  omega
/-- the first figure is a nought of 0 alone -/
theorem numL_head : ∀ n : Nat, (numL n)[0]? = some 48 → n = 0 := by
  intro n
  induction n using Nat.strongRecOn with
  | _ n ih =>
    intro h
    by_cases c : n < 10
    · rw [numL_lt c] at h
      simp at h
      omega
    · rw [numL_step (by omega)] at h
      rw [List.getElem?_append_left (List.length_pos_iff.mpr (numL_ne _))] at h
      have := ih (n / 10) (by omega) h
      omega
theorem numL_zero : numL 0 = [48] := numL_lt (by decide)
/-- what int tells of figures -/
theorem int_of {z : PySem.Str} {n : Nat} (h : tl z = numL n) (hl : (numL n).length ≤ 4300) : PySem.intText? z = some (n : Int) := by
  have e : z = sN n := str_ext (h.trans (tl_sN n).symm)
  rw [e]
  exact int_num hl
theorem numL_short {n : Nat} (h : n < 2 ^ 1000) : (numL n).length ≤ 400 := numL_len (by decide) (Nat.lt_of_lt_of_le h (by decide +kernel))
/-! ### methods of texts, lengths -/
theorem w_m1 {σ : L2.St} {H : Hp} {Q : VK} {r : V → List V → Hp → VK → Prop} {to te : TE} : tM1 r to te σ H Q = to σ H fun x H1 => (∃ a, x = .str a) ∧ te σ H1 fun y H2 => r x [y] H2 Q := rfl
def rJoin (K : PySem.W.Frag) : V → List V → Hp → VK → Prop := fun x xs H Q => ∃ a p, ∃ ys : List PySem.Str, x = .str a ∧ xs = [.ref p] ∧ (SqL K H p (ys.map V.str) ∨ SqT K H p (ys.map V.str)) ∧ (ys.map (·.length)).sum + ys.length * a.length ≤ 16777216 ∧ Q (.str (PySem.Txt.join a ys)) H
theorem k_join {X : Cx} (K : PySem.W.Frag) (hk : X.K = K := by rfl) : MtR X "str.join" (rJoin K) := by
  subst hk
  exact mt_join
theorem len_app (x y : PySem.Str) : (x ++ y).length = x.length + y.length := by
  rw [len_is, len_is, len_is, tl_append, List.length_append]
theorem len_one (c : Nat) : (⟨#[c]⟩ : PySem.Str).length = 1 := rfl
theorem len_join : ∀ ys : List PySem.Str, (Str.join "" ys).length = (ys.map (·.length)).sum
  | [] => rfl
  | [x] => by simp [Str.join]
  | x :: y :: r => by
    have h := len_join (y :: r)
    have h0 : ("" : PySem.Str).length = 0 := by decide +kernel
    show (x ++ "" ++ Str.join "" (y :: r)).length = _
    have e : ((x :: y :: r).map (·.length)).sum = x.length + ((y :: r).map (·.length)).sum := by rw [List.map_cons, List.sum_cons]
    rw [len_app, len_app, h, h0, e]
    omega
end Pn
/-! PnL: str of a whole number of up to 4300 figures. -/
namespace Pn
open PySem PySem.Spec PyProof.Rows L2 TL
/-- nothing has set the line on figures -/
def NoDig (K : PySem.W.Frag) : Prop := PySem.W.nsIn K cStatics "sys.int_max_str_digits" = some none
/-- a name that a written space lacks is not in it -/
theorem ns_lacks {K : PySem.W.Frag} {h : Heap} {a : Addr} {f : PySem.Str → Option Value} {x : PySem.Str} (inn : K.In h) (sp : h.Ns a f) (lk : PySem.W.nsIn K a x = some none) : f x = none := by
  obtain ⟨ob, ents, pe, at1, dat, _, tells⟩ := sp
  unfold PySem.W.nsIn at lk
  split at lk
  · rename_i cl di en2 pe2 sl hit
    have same := inn _ _ hit
    rw [at1] at same
    injection same with same
    subst same
    injection dat with d1 d2
    subst d1
    rw [← tells x]
    cases hfind : en2.toList.find? (·.key.isStr x) with
    | some v =>
      rw [hfind] at lk
      cases lk
    | none =>
      unfold nsFind findBy
      rw [← Array.find?_toList, hfind] <;> rfl
  · cases lk
theorem noDigits {X : Cx} {pins : List (Addr × Obj)} {σ : L2.St} {H : Hp} {s : Shared} (I : Inv X pins σ H s) (hd : NoDig X.K) : s.heap.NoDigits := by
  obtain ⟨mc, hns, hl⟩ := I.nolimit
  exact ⟨mc, hns, ns_lacks I.kIn hns hd⟩
theorem call_strN {X : Cx} (K : PySem.W.Frag) (hd : NoDig K) (hk : X.K = K := by rfl) (calm : X.calm = true := by rfl) : CallR X (.type "str") (fun xs H Q => ∃ i : Int, xs = [.int i] ∧ i.natAbs < 10 ^ 4300 ∧ Q (.str (toString i)) H) := by
  subst hk
  intro pins s σ H xs us Q I r h
  obtain ⟨i, rfl, hz, q⟩ := h
  obtain ⟨u, rfl, t, rfl⟩ := vals1 r
  refine PyProof.Rows.str_of_int_or (I.ok.hd calm) (noDigits I hd) (fun _ => ⟨.str _, H, I.tok _, ⟨_, rfl⟩, q⟩) fun hge => ?_
  exact absurd hge (Nat.not_le_of_lt hz)
end Pn
/-! PnI: a pair in a tuple of pairs. -/
namespace Pn
open PySem PySem.Spec PyProof.Rows L2
theorem hu65 {k : Nat} {A : Around} (r : Room k A) : A.units + 65 < cLine := by
  have := r.un
  omega
def rInTD (K : PySem.W.Frag) (neg : Bool) : R2 := fun x y H Q => ∃ d ds, Dp K H x d ∧ Dp K H y (.tuple ds) ∧ SeqAt.shaped d = true ∧ SeqAt.shaped (.tuple ds) = true ∧ Q (.bl (xor neg (ds.any fun z => PyData.eqv z d))) H
section
variable {X : Cx}
theorem k_inD (K : PySem.W.Frag) (hu : X.A.units + 65 < cLine) (h : X.K = K := by rfl) : OpR X (compareOp .In) (rInTD K false) := by
  subst h
  intro pins s σ H x y v u Q I rx ry h
  obtain ⟨d, ds, hd, he, sd, se, q⟩ := h
  obtain ⟨as, r1⟩ := Dp.reads I d x v hd rx
  obtain ⟨bs, r2⟩ := Dp.reads I (.tuple ds) y u he ry
  refine SeqAt.in_tuple_reads r2 r1 (SeqAt.canLay_of_shaped se) (SeqAt.canLay_of_shaped sd) (room_in_shaped sd hu) ⟨.bl _, H, I, rfl, ?_⟩
  rwa [Bool.false_xor] at q
theorem k_notInD (K : PySem.W.Frag) (hu : X.A.units + 65 < cLine) (h : X.K = K := by rfl) : OpR X (compareOp .NotIn) (rInTD K true) := by
  subst h
  intro pins s σ H x y v u Q I rx ry h
  obtain ⟨d, ds, hd, he, sd, se, q⟩ := h
  obtain ⟨as, r1⟩ := Dp.reads I d x v hd rx
  obtain ⟨bs, r2⟩ := Dp.reads I (.tuple ds) y u he ry
  refine SeqAt.notIn_tuple_reads r2 r1 (SeqAt.canLay_of_shaped se) (SeqAt.canLay_of_shaped sd) (room_in_shaped sd hu) ⟨.bl _, H, I, rfl, ?_⟩
  rwa [Bool.true_xor] at q
end
theorem any_pairs (a b : Int) : ∀ ps : List (Int × Int), ((dP ps).any fun z => PyData.eqv z (.tuple (dI [a, b]))) = decide ((a, b) ∈ ps)
  | [] => by simp [dP]
  | p :: r => by
    have ih := any_pairs a b r
    simp only [dP] at ih ⊢
    rw [List.map_cons, List.any_cons, ih, PyData.eqv, eqv_ints]
    have : ([p.1, p.2] = [a, b]) ↔ ((a, b) = p) := by
      obtain ⟨c, d⟩ := p
      simp only [List.cons.injEq, and_true, Prod.mk.injEq]
      constructor
      · rintro ⟨rfl, rfl⟩
        exact ⟨rfl, rfl⟩
      · rintro ⟨rfl, rfl⟩
        exact ⟨rfl, rfl⟩
    simp only [this, List.mem_cons, Bool.decide_or]
theorem r_inP {K : PySem.W.Frag} {H : Hp} {Q : VK} {a b : Addr} {x y : Int} {as : List Addr} {ps : List (Int × Int)} {neg : Bool} (hx : SqT K H a [.int x, .int y]) (hy : SqT K H b (as.map V.ref)) (hp : PairsAt K H as ps) (q : Q (.bl (xor neg (decide ((x, y) ∈ ps)))) H) : rInTD K neg (.ref a) (.ref b) H Q :=
  ⟨.tuple (dI [x, y]), dP ps, .tup hx (dpAll_ints [x, y]), .tup hy (dpAll_pairs hp), sh_tI _, sh_tP _, by rw [any_pairs]; exact q⟩
theorem sqT_upd {K : PySem.W.Frag} {H : Hp} {D b : Addr} {o : HO} {acc xs : List V} (h : SqT K H b xs) (hD : H D = some (.lst acc)) : SqT K (upd H D o) b xs := by
  rcases h with (h | ⟨u, h⟩) | h
  · exact SqT.of ((upd_ne (ne_of h hD fun e => by cases e)).trans h)
  · exact .inl (.inr ⟨u, (upd_ne (ne_of h hD fun e => by cases e)).trans h⟩)
  · exact .inr h
theorem PairsAt.upd {K : PySem.W.Frag} {H : Hp} {as : List Addr} {ps : List (Int × Int)} {D : Addr} {o : HO} {acc : List V} (h : PairsAt K H as ps) (hD : H D = some (.lst acc)) : PairsAt K (upd H D o) as ps := ⟨h.1, fun i a p h1 h2 => sqT_upd (h.2 i a p h1 h2) hD⟩
theorem PairsAt.at {K : PySem.W.Frag} {H : Hp} {as : List Addr} {ps : List (Int × Int)} (h : PairsAt K H as ps) {i : Nat} {v : V} (hv : (as.map V.ref)[i]? = some v) : ∃ (a : Addr) (p : Int × Int), v = .ref a ∧ ps[i]? = some p ∧ SqT K H a [.int p.1, .int p.2] := by
  rw [List.getElem?_map] at hv
  cases e : as[i]? with
  | none =>
    rw [e] at hv
    cases hv
  | some a =>
    rw [e] at hv
    cases hv
    have hi : i < ps.length := by
      rw [← h.1]
      exact (List.getElem?_eq_some_iff.mp e).1
    exact ⟨a, ps[i], rfl, List.getElem?_eq_getElem hi, h.2 i a _ e (List.getElem?_eq_getElem hi)⟩
theorem inV_ints (a : Int) : ∀ ys : List Int, inV (.int a) (ys.map V.int) = decide (a ∈ ys)
  | [] => by simp [inV]
  | y :: r => by
    have ih := inV_ints a r
    unfold inV at ih ⊢
    rw [List.map_cons, List.any_cons, ih]
    simp only [List.mem_cons, Bool.decide_or]
    congr 1
    exact decide_eq_decide.mpr ⟨fun h => h.symm, fun h => h.symm⟩
theorem flat_is (ys : List Int) : (ys.map V.int).all flatV = true := by
  rw [List.all_eq_true]
  intro x hx
  obtain ⟨i, _, rfl⟩ := List.mem_map.mp hx
  rfl
theorem r_inI {K : PySem.W.Frag} {H : Hp} {Q : VK} {a : Int} {ys : List Int} {p : Addr} (h : SqT K H p (ys.map V.int)) (q : Q (.bl (decide (a ∈ ys))) H) : rIn K false (.int a) (.ref p) H Q := by
  refine ⟨p, _, rfl, .inr h, rfl, flat_is ys, ?_⟩
  rw [inV_ints]
  exact q
end Pn
/-! PnU: sorted(t), t a tuple of pairs of whole numbers. -/
namespace TupU
open PySem PySem.Spec PyProof.Rows L2
/-- the heap with a list of these made at its end -/
abbrev withL (h : Heap) (vs : List Value) : Heap :=
  (h.push (seqObj "list" #[] 0)).update h.objs.size
    (Obj.mapSeq (· ++ vs.toArray))
section
variable {P : Program} {w : World} {A : Around} {E : Value → Shared → Prop} {s : Shared}
theorem tup_items {l : Addr} {vs : List Value} {Q : List Value → Shared → Prop} (it : s.heap.IsTuple l vs.toArray) (few : vs.length ≤ sizeLine)
    (q : Q vs { s with heap := withL s.heap vs }) : wpAny (model P w) A (collect (.ref l)) Q E s := by
  obtain ⟨ob, here, kind, num, dat⟩ := id it
  unfold collect
  refine wpAny_bind (wpAny_runValue
    (codeAny_builtin entry_proto_collect' ?_))
  show wpAny _ _
    (do again (.builtin "list.__iadd__" ⟨[← newList [], .ref l], []⟩)) _ _ s
  refine wpAny_bind (wpAny_newList (wpAny_pure
    ⟨Code.quiet_builtin _ (by decide +kernel), codeAny_builtin entry_list_iadd' ?_⟩))
  show wpAny _ _ (Builtin.List.listExtendWith (.ref s.heap.objs.size) (.ref l)
    (.ref s.heap.objs.size)) _ _ { s with heap := s.heap.push (seqObj "list" #[] 0) }
  unfold Builtin.List.listExtendWith
  have old := Heap.get?_push_of_some (seqObj "list" #[] 0) here
  have at0 : (s.heap.push (seqObj "list" #[] 0)).get? s.heap.objs.size = some (seqObj "list" #[] 0) :=
    Heap.get?_push_size _ rfl
  refine wpAny_bind (wpAny_typeOf (T := "tuple") ⟨ob, old, kind⟩ ?_)
  have same : (Value.type "tuple" == Value.type "tuple") = true := by rfl
  rw [if_pos (by rw [same] <;> simp)]
  refine wpAny_bind (listItems_at old dat ?_)
  refine wpAny_bind (listItems_at
    (xs := #[]) (n := 0) at0 rfl ?_)
  rw [if_neg (by simp)]
  have fits : (#[] ++ vs.toArray : Array Value).size ≤ sizeLine + 1 := by
    simp only [Array.size_append, List.size_toArray]
    simp only [List.size_toArray, List.length_nil]
    omega
  refine wpAny_bind (listUpdate_at
    (xs := #[]) (n := 0) at0 rfl ?_ (Nat.zero_le _) fits)
  refine wpAny_pure ?_
  have at1 := get?_update_seq at0 (· ++ vs.toArray)
  show wpAny (model P w) A (do
      let o ← load s.heap.objs.size
      match o.data with
      | .seq xs _ => pure xs.toList
      | _ => unsupported "internal:collect") Q E
    { s with heap := withL s.heap vs }
  refine wpAny_bind (wpAny_load at1 ?_)
  show wpAny _ _ (pure ((#[] : Array Value) ++ vs.toArray).toList) Q E _
  have e : ((#[] : Array Value) ++ vs.toArray).toList = vs := by simp
  rw [e]
  exact wpAny_pure q
theorem sort_tup {l : Addr} {vs : List Value} {k : Value → Int × Int} {Q : Value → Shared → Prop} (it : s.heap.IsTuple l vs.toArray) (few : vs.length ≤ sizeLine)
    (pr : ∀ v ∈ vs, Srt.IsPair s.heap v (k v).1 (k v).2)
    (q : ∀ (h' : Heap) (d : Addr) (out : List Value), SrtO.Srtd (fun v u => SrtO.lexB (k v) (k u)) out → SrtO.Stb (fun v u => SrtO.lexB (k v) (k u)) out vs →
      (∀ b o, s.heap.get? b = some o → h'.get? b = some o) → s.heap.objs.size ≤ d →
      (∃ n, h'.get? d = some (seqObj "list" out.toArray n)) → Q (.ref d) { s with heap := h' }) :
    wpAny (model P w) A (call (.builtin "sorted") [.ref l]) Q E s := by
  refine Calls.call_function_entry kind_sorted plain_sorted entry_sorted
    (args_sorted1 _) ?_
  unfold Builtin.«sorted»
  refine wpAny_bind
    (m := checkCount "sorted" 1 1 _) (wpAny_pure ?_)
  refine wpAny_bind (tup_items it few ?_)
  refine wpAny_bind (wpAny_newList ?_ few)
  have size : (withL s.heap vs).objs.size = s.heap.objs.size + 1 := by
    show ((s.heap.push (seqObj "list" #[] 0)).update _ _).objs.size = _
    rw [Heap.size_update, size_push']
  have newL : ((withL s.heap vs).push (seqObj "list" vs.toArray 0)).get? (s.heap.objs.size + 1) = some (seqObj "list" vs.toArray 0) := by
    rw [← size]
    exact Heap.get?_push_size _ rfl
  have keep : ∀ b o, s.heap.get? b = some o → ((withL s.heap vs).push (seqObj "list" vs.toArray 0)).get? b = some o := fun b o e => by
    have lt : b < s.heap.objs.size := Heap.lt_size e
    refine Heap.get?_push_of_some _ ?_
    show ((s.heap.push (seqObj "list" #[] 0)).update _ _).get? b = _
    rw [Heap.get?_update_ne _ _ _ _ (Nat.ne_of_lt lt)]
    exact Heap.get?_push_of_some _ e
  show wpAny _ _ _ _ _
    { s with heap := (withL s.heap vs).push (seqObj "list" vs.toArray 0) }
  rw [size]
  refine wpAny_bind (wpAny_holding (wpAny_call_entry slot_list_sort ⟨_, newL, rfl⟩ entry_list_sort
    (SrtO.list_sort_ord (SrtO.swo_lex k) newL few (fun h2 => ?_) fun out o1 o2 => ⟨_, rfl, ?_⟩) (args_list_sort _)))
  · refine SrtO.pairs_sortableO (by omega) (fun v hm => (pr v hm).keeps fun b o e _ => keep b o e) fun o e => ?_
    have e' := e.symm.trans newL
    cases e'
    intro c
    exact absurd (Value.type.inj c) (by decide)
  · refine wpAny_pure ⟨_, rfl, q _ _ out o1 o2 (fun b o e => ?_) (Nat.le_succ _) ?_⟩
    · exact sortedAll_old (vs := vs) (out := out.toArray) e
    · exact sortedAll_at s.heap vs out.toArray
end
/-- sorted(t), t a tuple of pairs (k says which) -/
def rSortT (K : PySem.W.Frag) : List V → Hp → VK → Prop := fun vs H Q => ∃ (a : Addr) (xs : List V) (k : V → Int × Int), vs = [V.ref a] ∧ SqT K H a xs ∧
  (∀ x ∈ xs, ∃ t, x = V.ref t ∧ SqT K H t [.int (k x).1, .int (k x).2]) ∧
  ∀ ys p, SrtO.Srtd (ltP k) ys → ys.Perm xs → H p = none → Q (.ref p) (upd H p (.lst ys))
theorem cr_sortT {X : Cx} (K : PySem.W.Frag) (hK : X.K = K := by rfl) : CallR X (.builtin "sorted") (rSortT K) := by
  subst hK
  intro pins s σ H vs us Q I r h
  obtain ⟨a, xs, k, rfl, ht, hx, q⟩ := h
  obtain ⟨raw, rel, ist, size⟩ := I.tuple ht
  obtain ⟨u, rfl, ru⟩ := vals1 r
  obtain rfl : u = Value.ref a := ru
  have back := refs_back rel fun x m => by
    obtain ⟨t, e, _⟩ := hx x m
    exact ⟨t, e⟩
  obtain ⟨e1, e2⟩ := back
  refine sort_tup (k := fun u => k (backV u)) ist (by rw [← rel.length]; exact size) (fun v hv => ?_) fun h' d out h1 h2 kp hd hn => ?_
  · obtain ⟨t, rfl⟩ := e2 v hv
    have hm : V.ref t ∈ xs := by rw [e1]; exact List.mem_map.mpr ⟨_, hv, rfl⟩
    obtain ⟨t', e, hp⟩ := hx _ hm
    cases e
    obtain ⟨raw2, rel2, ist2, _⟩ := I.tuple hp
    obtain ⟨u1, u2, rfl, ri, rj⟩ := vals2 rel2
    obtain ⟨t1, rfl⟩ := ri
    obtain ⟨t2, rfl⟩ := rj
    obtain ⟨o, ho, hc, n, hd⟩ := ist2
    exact ⟨t, o, t1, t2, n, rfl, ho, hc, hd⟩
  · have h3 : ∀ u ∈ out, ∃ a, u = Value.ref a := fun u hu => e2 u (h2.perm.mem_iff.mp hu)
    obtain ⟨n, hn⟩ := hn
    have hb : (out.map backV).Perm xs := by
      rw [e1]
      exact h2.perm.map backV
    refine ⟨.ref d, upd H d (.lst (out.map backV)), I.laid (t' := s.toks) kp hd ⟨?_, out, n, vals_back h3, hn⟩, rfl, q _ d (SrtO.srtd_map h1) hb (I.hok.fresh hd)⟩
    rw [hb.length_eq]
    exact size
end TupU
/-! PnS: sorted(set(xs)), xs a list of whole numbers of any length. -/
namespace SetL
open PySem PySem.Spec PyProof.Rows L2
/-- a set as it is made -/
abbrev bare (w : World) : Obj := ⟨.type "set", none, .set #[] 0 (.fresh 0 0 (!w.params.followText "set-order")), #[]⟩
/-- the heap with one more object -/
abbrev plus (h : Heap) (o : Obj) : Heap := h.push o
section
variable {P : Program} {w : World} {A : Around} {E : Value → Shared → Prop} {s : Shared}
/-- what stands behind set(xs) -/
abbrev Made (w : World) (s : Shared) (ns : List Int) (h' : Heap) (c : Nat) : Prop :=
  SetR w h' s.heap.objs.size (fun j => decide (j ∈ ns)) c ∧ c ≤ ns.length ∧ ∀ b o, s.heap.get? b = some o → h'.get? b = some o
set_option maxHeartbeats 3200000 in
theorem made_list {l : Addr} {raw : Array Value} (ns : List Int) {Q : Value → Shared → Prop} (calm : A.handled = none) (isl : s.heap.IsList l raw) (are : IntsAre raw.toList ns) (few : ns.length + 1 < scanBound)
    (q : ∀ (h' : Heap) (tk c : Nat), Made w s ns h' c → Q (.ref s.heap.objs.size) { s with heap := h', toks := tk }) : wpAny (model P w) A (call (.type "set") [.ref l]) Q E s := by
  have size : raw.size = ns.length := by
    have := IntsAre.length are
    rwa [Array.length_toList] at this
  obtain ⟨cc, mt, mro⟩ := F.called_set.mro
  have g1 := F.called_set.made
  have g2 := F.called_set.sub
  have g3 := F.called_set.notType
  have g4 := F.called_set.canCreate
  have g5 := F.typeCall_set_1 (.ref l)
  refine wpAny_call (codeAny_of_tree ?_)
  show wpAny _ _ (callAny (.type "set") _) _ _ _
  refine wpAny_pure ⟨Code.quiet_builtin _ (by decide +kernel), codeAny_builtin F.entry_type_call ?_⟩
  rw [Around.under_plain (weight_type_call_type "set" [.ref l] []) rfl]
  repeat (any_goals (first | assumption | wp_step))
  refine codeAny_mono (code_set_led1 (.ref l) (E := E) (Q₁ := fun z t => z = .ref s.heap.objs.size ∧ t = { s with heap := plus s.heap (bare w) }) ⟨rfl, rfl⟩) fun r t hr => ?_
  cases r with
  | error _ => exact hr
  | ok fl =>
    cases fl with
    | ret z =>
      obtain ⟨rfl, rfl⟩ := hr
      have at0 : (plus s.heap (bare w)).get? s.heap.objs.size = some (bare w) := Heap.get?_push_size _ rfl
      have ty : Shared.TypeIs { s with heap := plus s.heap (bare w) } (.ref s.heap.objs.size) "set" := ⟨_, at0, rfl⟩
      have g6 := F.called_set.init.lookup
      have g7 := F.called_set.init.bind (.ref s.heap.objs.size)
      repeat (any_goals (first | assumption | wp_step))
      refine codeAny_mono (codeAny_call_builtin (R := wants (fun r t => r = .none ∧ ∃ h' tk c, t = { s with heap := h', toks := tk } ∧ Made w s ns h' c) E) F.called_set.init.plain F.entry_set_init (check_set_init_1 ty ?_)) fun r2 t2 hr2 => ?_
      · obtain ⟨⟨oc, od, odt, osl⟩, here, ec, ne, ed⟩ := isl
        simp only at ec ed
        subst ec ed
        have isl1 : (plus s.heap (bare w)).IsList l raw := ⟨_, Heap.get?_push_of_some _ here, rfl, ne, rfl⟩
        have here1 : (plus s.heap (bare w)).get? l = some ⟨.type "list", od, .seq raw ne, osl⟩ := Heap.get?_push_of_some _ here
        have g8 := F.sub_list_set
        have g9 := F.sub_list_frozenset
        have g10 : (Value.type "list" == Value.type "dict") = false := by decide
        have low : l < s.heap.objs.size := Heap.lt_size here
        have sz : (plus s.heap (bare w)).objs.size = s.heap.objs.size + 1 := Heap.size_push ..
        have off : l ≠ (plus s.heap (bare w)).objs.size := by
          rw [sz]
          exact Nat.ne_of_lt (Nat.lt_succ_of_lt low)
        have out : s.heap.objs.size ∉ [(plus s.heap (bare w)).objs.size, l] := by
          rw [sz]
          intro z
          rcases List.mem_cons.mp z with z | z
          · exact absurd z (Nat.ne_of_lt (Nat.lt_succ_self _))
          · exact absurd (List.mem_singleton.mp z) (Nat.ne_of_gt low)
        have vals : ∀ (i : Nat) (v : Value), raw[i]? = some v → ∃ k t, ns[i]? = some k ∧ v = .int k t := fun i v hv => by
          have lt : i < ns.length := by
            have := (Array.getElem?_eq_some_iff.mp hv).1
            omega
          obtain ⟨t, e⟩ := PyProof.Rows.IntsAre.int_at are i v (by rw [Array.getElem?_toList]; exact hv)
          refine ⟨ns[i], t, List.getElem?_eq_getElem lt, ?_⟩
          rw [e, List.getD_eq_getElem?_getD, List.getElem?_eq_getElem lt] <;> rfl
        unfold Builtin.«set.__init__» noKeywords Builtin.Frozenset.updateFrom
        generalize hPI : pyIter = PI
        wp_walk
        subst hPI
        refine wpAny_pyIter_list isl1 (wpAny_bind (wpAny_runValue ?_))
        have calm3 : A.in1.in1.in1.handled = none := by simp [calm]
        refine set_update_ints ((Walks.list calm3 _ l off raw).toS) s.heap.objs.size out ns size few vals (raw.size - 0) 0 _ (by omega) (Nat.zero_le _) ⟨⟨_, Heap.get?_push_size _ rfl, rfl, rfl⟩, isl1.push _⟩ ?first ?last
        case first => exact ⟨0, Nat.le_refl 0, setR_new_at (Heap.get?_push_of_some _ at0)⟩
        case last =>
          rintro ⟨h', g', d', tk', os'⟩ c mv hc hS
          have e1 : g' = s.gens := mv.gens
          have e2 : d' = s.drawn := mv.drawn
          have e3 : os' = s.os := mv.os
          subst e1 e2 e3
          show wpAny _ _ _ _ _ _
          refine wpAny_pure ?_
          show wpAny _ _ (ret Value.none) _ _ _
          refine wpAny_pure ⟨rfl, h', tk', c, rfl, hS, by omega, fun b o e => ?_⟩
          have lb : b < s.heap.objs.size := Heap.lt_size e
          refine mv.heap b o ?_ (Heap.get?_push_of_some _ (Heap.get?_push_of_some _ e))
          rw [sz]
          intro z
          rcases List.mem_cons.mp z with z | z
          · exact absurd z (Nat.ne_of_lt lb)
          · exact absurd (List.mem_singleton.mp z) (Nat.ne_of_lt (Nat.lt_succ_of_lt lb))
      · cases r2 with
        | error _ => exact hr2
        | ok f2 =>
          cases f2 with
          | ret _ =>
            obtain ⟨rfl, h', tk, c, rfl, made⟩ := hr2
            repeat (any_goals (first | assumption | wp_step))
            exact q _ _ _ made
          | _ => exact hr2.elim
    | _ => exact hr.elim
end
end SetL
namespace SetL
open PySem PySem.Spec PyProof.Rows L2
section
variable {P : Program} {w : World} {A : Around} {E : Value → Shared → Prop} {s : Shared}
/-- sorted of a set of whole numbers, however many -/
theorem sorted_made {S : Int → Bool} {n : Nat} {a : Addr} {Q : Value → Shared → Prop} (R : SetR w s.heap a S n) (calm : A.handled = none)
    (q : ∀ t p (out : Array Value) (c : Nat) (ns : List Int), (∀ b o, s.heap.get? b = some o → t.heap.get? b = some o) → t.gens = s.gens → t.os = s.os → s.heap.objs.size ≤ p →
      t.heap.get? p = some (seqObj "list" out c) → IntsAre out.toList ns → ns.Pairwise (· < ·) → (∀ k, k ∈ ns ↔ S k = true) → ns.length = n → Q (.ref p) t) : wpAny (model P w) A (call (.builtin "sorted") [.ref a]) Q E s := by
  obtain ⟨o, es, ep, tb, here, exact1, dat, good, once, mem, room, fits, cnt, rising, known⟩ := R
  refine Calls.call_function_entry kind_sorted plain_sorted entry_sorted (args_sorted1 _) ?_
  unfold Builtin.«sorted»
  refine wpAny_bind (m := checkCount "sorted" 1 1 _) (wpAny_pure ?_)
  refine wpAny_bind (collect_set (A := A.in1) calm ⟨o, here, exact1.1, dat⟩ fits room rising known fun t vs keep grew gens os perm => ?_)
  have hvl : vs.length = n := by rw [perm.length_eq, List.length_map, Array.length_toList, cnt]
  have hz : vs.length ≤ sizeLine := by
    rw [hvl, ← cnt]
    exact fits_of_scanBound room
  have iare : IntsAre vs (vs.map Builtin.Re.reRawOf) := ints_of vs fun v hv => by
    obtain ⟨e, he, z⟩ := List.mem_map.mp (perm.mem_iff.mp hv)
    obtain ⟨k, tk, h1, _⟩ := good e he
    exact ⟨k, tk, by rw [← z]; exact h1⟩
  have pk : (vs.map Builtin.Re.reRawOf).Perm (es.toList.map keyOf) := by
    have z := perm.map Builtin.Re.reRawOf
    rwa [List.map_map] at z
  refine wpAny_bind (wpAny_newList ?_ hz)
  have newL : (t.heap.push (seqObj "list" vs.toArray 0)).get? t.heap.objs.size = some (seqObj "list" vs.toArray 0) := Heap.get?_push_size _ rfl
  refine wpAny_bind (wpAny_holding (wpAny_call_entry slot_list_sort ⟨_, newL, rfl⟩ entry_list_sort (SrtO.list_sort_ord SrtO.swo_int newL hz (fun h2 => SrtO.ints_sortable iare h2) fun out o1 o2 => ⟨_, rfl, ?_⟩) (args_list_sort _)))
  obtain ⟨c, hc⟩ := sortedHeap_at (vs := vs) (out := out.toArray) newL
  obtain ⟨k1, k2, k3⟩ := SrtO.ints_out iare o1 o2
  have pn := k2.trans pk
  refine wpAny_pure ⟨_, rfl, q _ t.heap.objs.size out.toArray c (out.map SrtO.iv) (fun b u e => ?_) gens os grew hc (by simpa using k1) (lt_of_le_nodup _ k3 (pn.nodup_iff.mpr once)) (fun k => by rw [pn.mem_iff, ← mem k]) ?_⟩
  · have z := keep b u e
    have lt := Heap.lt_size z
    show (sortedHeap (t.heap.push (seqObj "list" vs.toArray 0)) t.heap.objs.size vs out.toArray).get? b = some u
    rw [sortedHeap_old (Nat.ne_of_lt lt) (by rw [size_push']; exact Nat.lt_succ_of_lt lt)]
    exact Heap.get?_push_of_some _ z
  · rw [pn.length_eq, List.length_map, Array.length_toList, cnt]
end
/-- sorted(set(a)), a a list of whole numbers -/
def tSortSet (K : PySem.W.Frag) (ta : TE) : TE := fun σ H Q => ta σ H fun x H1 => ∃ (l : Addr) (ns : List Int), x = .ref l ∧ SqL K H1 l (ns.map V.int) ∧ ns.length ≤ 4000 ∧
  ∀ (ms : List Int) (p : Addr), ms.Pairwise (· < ·) → (∀ k, k ∈ ms ↔ k ∈ ns) → H1 p = none → Q (.ref p) (upd H1 p (.lst (ms.map V.int)))
theorem pe_sortSet {X : Cx} {K : PySem.W.Frag} {a : Expr} {ta : TE} {p p2 q pos : Pos} (hc : X.calm = true) (g1 : Gl X "sorted") (m1 : X.mg "sorted" = none) (b1 : bootBuiltins "sorted" = some (.builtin "sorted")) (g2 : Gl X "set") (m2 : X.mg "set" = none) (b2 : bootBuiltins "set" = some (.type "set")) (ha : PE X a ta)
    (na : starEach [a] X.env = (false, eval a X.env) :: starEach [] X.env := by rfl) (hK : X.K = K := by rfl) : PE X (.Call (.Name "sorted" p) [.Call (.Name "set" p2) [a] [] q] [] pos) (tSortSet K ta) := by
  subst hK
  refine ⟨fun pins s σ H Q I h => ?_⟩
  refine Call_ (ld_blt I g1 m1 b1 (PyProof.Rows.callWith_builtin1 (PyProof.Rows.args_cons ?_ rfl) rfl rfl))
  refine Call_ (ld_blt I g2 m2 b2 (PyProof.Rows.callWith_type1 (PyProof.Rows.args_cons (thn (ha.run pins s σ H _ I h) fun v s1 ⟨x, H1, I1, r1, z⟩ => PyProof.Rows.args_nil ?_) na) na rfl))
  obtain ⟨l, ns, rfl, hq, few, z⟩ := z
  cases r1
  obtain ⟨raw, rel, isl, size⟩ := I1.list hq
  refine made_list ns (I1.ok.hd hc) isl.isList (by simpa using rel.ints) (by unfold scanBound; omega) fun h' tk c made => PyProof.Rows.args_nil ?_
  obtain ⟨R, cl, keep⟩ := made
  have I2 : Inv X pins σ H1 { s1 with heap := h', toks := tk } := I1.kept keep
  replace R : SetR X.w ({ s1 with heap := h', toks := tk } : Shared).heap s1.heap.objs.size (fun j => decide (j ∈ ns)) c := R
  generalize ({ s1 with heap := h', toks := tk } : Shared) = s2 at I2 R ⊢
  refine sorted_made R (I2.ok.hd hc) fun t p out c2 ms keep2 gens os grew at2 iare lt mem cnt => ?_
  have hlen : (ms.map V.int).length ≤ sizeLine := by
    rw [List.length_map, cnt, sizeLine_eq]
    omega
  have hn : H1 p = none := I2.hok.fresh grew
  have J : Inv X pins σ (upd H1 p (.lst (ms.map V.int))) { s2 with heap := t.heap, gens := t.gens, drawn := t.drawn, toks := t.toks } :=
    I2.call (ch := []) (Un.laid keep2 grew hn) (I2.hok.laid keep2 grew ⟨hlen, out.toList, c2, vals_of_ints iare, at2⟩) (by rw [gens]; exact I2.bare) (fun _ u => nomatch u)
  have e : t = { s2 with heap := t.heap, gens := t.gens, drawn := t.drawn, toks := t.toks } := by
    cases t
    cases s2
    cases os
    rfl
  rw [e]
  exact ⟨.ref p, _, J, rfl, z ms p lt (fun k => by rw [mem k]; simp) hn⟩
theorem w_sortSet {K : PySem.W.Frag} {ta : TE} {σ : L2.St} {H : Hp} {Q : VK} : tSortSet K ta σ H Q = ta σ H fun x H1 => ∃ (l : Addr) (ns : List Int), x = .ref l ∧ SqL K H1 l (ns.map V.int) ∧ ns.length ≤ 4000 ∧
  ∀ (ms : List Int) (p : Addr), ms.Pairwise (· < ·) → (∀ k, k ∈ ms ↔ k ∈ ns) → H1 p = none → Q (.ref p) (upd H1 p (.lst (ms.map V.int))) := rfl
end SetL
/-! PnV: dicts by tuples: made of a list of pairs; sorted where the tuples are pairs of whole numbers. -/
namespace DicT
open PySem PySem.Spec PyProof.Rows L2
theorem hu10 {k : Nat} {A : Around} (r : Room k A) : A.units + 10 < cLine := by
  have := r.un
  omega
/-- a pair of whole numbers as a key -/
abbrev kP (p : Int × Int) : List Key := [Sum.inl p.1, Sum.inl p.2]
theorem kP_inj {p q : Int × Int} (h : kP p = kP q) : p = q := by
  obtain ⟨a, b⟩ := p
  obtain ⟨c, d⟩ := q
  simp only [kP, List.cons.injEq, Sum.inl.injEq, and_true] at h
  rw [h.1, h.2]
/-- the dict with these pairs as keys, each with True -/
def dP2 (ps : List (Int × Int)) : List (List Key × V) := ps.map fun p => (kP p, .bl true)
section
variable {X : Cx} {pins : List (Addr × Obj)} {σ : L2.St} {H : Hp} {s : Shared}
/-- dict(xs), xs a list of pairs, each of a tuple that is a pair of whole numbers, none twice, and True -/
def rDictT (K : PySem.W.Frag) : List V → Hp → VK → Prop := fun vs H Q => ∃ (a : Addr) (ts cs : List Addr) (ps : List (Int × Int)), vs = [V.ref a] ∧ SqL K H a (ts.map V.ref) ∧ ts.length = ps.length ∧ cs.length = ps.length ∧ ps.Nodup ∧
  (∀ (j : Nat) (t c : Addr) (p : Int × Int), ts[j]? = some t → cs[j]? = some c → ps[j]? = some p → SqT K H t [.ref c, .bl true] ∧ H c = some (.tup [.int p.1, .int p.2])) ∧ ∀ d, H d = none → Q (.ref d) (upd H d (.dT (dP2 ps)))
theorem stored_new {K : Type} [DecidableEq K] : ∀ (ps xs : List (K × Addr × Value)), ((xs ++ ps).map (·.1)).Nodup → storedAllH xs ps = xs ++ ps
  | [], xs, _ => by
    rw [List.append_nil]
    rfl
  | p :: ps, xs, h => by
    have h1 : atKey xs p.1 = none := by
      unfold atKey
      rw [Option.map_eq_none_iff, List.find?_eq_none]
      intro q hq e
      rw [List.map_append, List.nodup_append] at h
      exact h.2.2 q.1 (List.mem_map.mpr ⟨q, hq, rfl⟩) p.1 (by simp) (by simpa using e)
    have h2 : storedH xs p.1 p.2.1 p.2.2 = xs ++ [p] := storedH_new h1 _ _
    have h3 : storedAllH xs (p :: ps) = storedAllH (xs ++ [p]) ps := by
      rw [← h2]
      rfl
    rw [h3, stored_new ps (xs ++ [p]) (by rwa [List.append_assoc, List.singleton_append]), List.append_assoc, List.singleton_append]
theorem pair_rows {H' : Hp} : ∀ (ps : List (Int × Int)) (cs : List Addr), cs.length = ps.length → (∀ (j : Nat) (c : Addr) (p : Int × Int), cs[j]? = some c → ps[j]? = some p → H' c = some (.tup [.int p.1, .int p.2])) →
    KT H' (dP2 ps) ((ps.zip cs).map fun z => (kP z.1, z.2, Value.bool true))
  | [], _, _, _ => .nil
  | p :: ps, [], h, _ => by cases h
  | p :: ps, c :: cs, h, q => .cons ⟨rfl, q 0 c p rfl rfl, rfl⟩ (pair_rows ps cs (by simpa using h) fun j c p h1 h2 => q (j + 1) c p (by simpa using h1) (by simpa using h2))
theorem call_dictT (K : PySem.W.Frag) (hk : X.K = K := by rfl) (hu : X.A.units + 10 < cLine) (hc : X.calm = true := by rfl) : CallR X (.type "dict") (rDictT K) := by
  subst hk
  intro pins s σ H vs us Q I r h
  obtain ⟨a, ts, cs, ps, rfl, hs, l1, l2, nd, hp, q⟩ := h
  obtain ⟨u, rfl, ru⟩ := vals1 r
  obtain rfl : u = Value.ref a := ru
  obtain ⟨its, rv, pl, hz⟩ := I.list hs
  have ei := refs_at rv
  subst ei
  rw [List.length_map] at hz
  have hT : Value.bool true = .bool true := rfl
  have key : ∀ (j : Nat) (t c : Addr) (p : Int × Int), ts[j]? = some t → cs[j]? = some c → ps[j]? = some p → s.heap.IsTuple t #[.ref c, .bool true] ∧ (tupleKind (mixKind X.prog X.w)).is s.heap (kP p) c := fun j t c p h1 h2 h3 => by
    obtain ⟨g1, g2⟩ := hp j t c p h1 h2 h3
    obtain ⟨its, rt, it, _⟩ := I.tuple g1
    obtain ⟨u1, u2, rfl, r1, r2⟩ := vals2 rt
    cases r1
    cases r2
    exact ⟨it, key_of (ks := kP p) I.hok g2⟩
  obtain ⟨o, n, ho, hcl, hdn, hdat⟩ := pl
  have hok : PlainSeq "list" s.heap a (ts.map Value.ref).toArray ∧ PairItems s.heap (ts.map Value.ref).toArray (fun j => ts.getD j 0) (cs.map fun c => (Value.ref c, Value.bool true)) := by
    refine ⟨⟨o, n, ho, hcl, hdn, hdat⟩, by simp [l1, l2], fun j k v hj => ?_⟩
    rw [List.getElem?_map] at hj
    cases ec : cs[j]? with
    | none =>
      rw [ec] at hj
      cases hj
    | some c =>
      rw [ec] at hj
      cases hj
      have hj2 : j < ps.length := by
        rw [← l2]
        exact (List.getElem?_eq_some_iff.mp ec).1
      have ht : ts[j]? = some (ts[j]'(by omega)) := List.getElem?_eq_getElem _
      refine ⟨?_, .inl ?_⟩
      · simp only [List.getElem?_toArray, List.getElem?_map, List.getD_eq_getElem?_getD, ht]
        rfl
      · show s.heap.IsTuple (ts.getD j 0) _
        rw [List.getD_eq_getElem?_getD, ht]
        exact (key j _ c _ ht ec (List.getElem?_eq_getElem hj2)).1
  refine PySem.call_dict_pairsH (knd := tupleKind (mixKind X.prog X.w)) (ps := (ps.zip cs).map fun z => (kP z.1, z.2, Value.bool true)) (PairArg.list a (ts.map Value.ref).toArray (fun j => ts.getD j 0) (cs.map fun c => (Value.ref c, Value.bool true))) (I.ok.hd hc) ?_ hok ?_ ?_ ?_ fun h' tk hd' kp => ?_
  · exact tupleKind_room_in1 (A := X.A.in1) (by show X.A.units + 1 + 1 < cLine; omega)
  · refine ⟨by simp [l2], fun i k v hr => ?_⟩
    have hr2 : (cs.map fun c => (Value.ref c, Value.bool true))[i]? = some (k, v) := hr
    rw [List.getElem?_map] at hr2
    cases ec : cs[i]? with
    | none =>
      rw [ec] at hr2
      cases hr2
    | some c =>
      rw [ec] at hr2
      cases hr2
      have hi : i < ps.length := by
        rw [← l2]
        exact (List.getElem?_eq_some_iff.mp ec).1
      refine ⟨kP ps[i], c, ?_, rfl⟩
      have hz3 : (ps.zip cs)[i]? = some (ps[i], c) := List.getElem?_zip_eq_some.mpr ⟨List.getElem?_eq_getElem hi, ec⟩
      rw [List.getElem?_map, hz3]
      rfl
  · intro h' keep x hx
    obtain ⟨⟨p, c⟩, hz2, rfl⟩ := List.mem_map.mp hx
    obtain ⟨j, hj⟩ := List.mem_iff_getElem?.mp hz2
    obtain ⟨hj1, hj2⟩ := List.getElem?_zip_eq_some.mp hj
    have hj3 : j < ts.length := by
      rw [l1]
      exact (List.getElem?_eq_some_iff.mp hj1).1
    obtain ⟨o2, its, n2, e1, e2, e3, e4⟩ := (key j _ c p (List.getElem?_eq_getElem hj3) hj2 hj1).2
    exact ⟨o2, its, n2, keep _ _ (Nat.ne_of_lt (Heap.lt_size e1)) (by simp) e1, e2, e3, e4⟩
  · simp only [List.length_map]
    omega
  · have hm : (s.heap.objs.size == sysModules) = false := beq_eq_false_iff_ne.mpr (Nat.ne_of_gt I.big)
    have hnd : ((([] : List (List Key × Addr × Value)) ++ (ps.zip cs).map fun z => (kP z.1, z.2, Value.bool true)).map (·.1)).Nodup := by
      rw [List.nil_append, List.map_map]
      have e : ((fun x : List Key × Addr × Value => x.1) ∘ fun z : (Int × Int) × Addr => (kP z.1, z.2, Value.bool true)) = kP ∘ Prod.fst := rfl
      rw [e, ← List.map_map, List.map_fst_zip (by omega)]
      exact List.pairwise_map.mpr (nd.imp fun h e => h (kP_inj e))
    rw [stored_new _ _ hnd, List.nil_append] at hd'
    refine ⟨.ref s.heap.objs.size, upd H s.heap.objs.size (.dT (dP2 ps)), I.laid (t' := tk) (fun b o e => kp b o (by simp) e) (Nat.le_refl _) ?_, rfl, q _ (I.hok.fresh (Nat.le_refl _))⟩
    obtain ⟨o3, es, ep, f1, f2, f3, f4, f5, f6⟩ := hd'
    refine ⟨by simp only [dP2, List.length_map]; omega, hm, _, ?_, o3, es, ep, f1, f2, f3, f4, f6⟩
    refine pair_rows ps cs l2 fun j c p h1 h2 => ?_
    have hj3 : j < ts.length := by
      rw [l1]
      exact (List.getElem?_eq_some_iff.mp h2).1
    have hc2 := (hp j _ c p (List.getElem?_eq_getElem hj3) h1 h2).2
    exact (upd_ne (ne_of_none hc2 (I.hok.fresh (Nat.le_refl _)))).trans hc2
end
/-- tuples of pairs stand at these -/
def Prs (H : Hp) (cs : List Addr) (ps : List (Int × Int)) : Prop := cs.length = ps.length ∧ ∀ (i : Nat) (c : Addr) (p : Int × Int), cs[i]? = some c → ps[i]? = some p → H c = some (.tup [.int p.1, .int p.2])
/-- which pair stands at it -/
def kAt (H : Hp) : V → Int × Int
  | .ref t => match H t with
    | some (.tup [.int i, .int j]) => (i, j)
    | _ => (0, 0)
  | _ => (0, 0)
theorem kAt_of {H : Hp} {t : Addr} {i j : Int} (h : H t = some (.tup [.int i, .int j])) : kAt H (.ref t) = (i, j) := by
  unfold kAt
  simp only [h]
/-- the key tuples of a dict by pairs -/
theorem keys_at {H : Hp} : ∀ {ps : List (Int × Int)} {xs : List (List Key × Addr × Value)}, KT H (dP2 ps) xs → xs.length = ps.length ∧ ∀ (i : Nat) (x : List Key × Addr × Value) (p : Int × Int), xs[i]? = some x → ps[i]? = some p → H x.2.1 = some (.tup [.int p.1, .int p.2])
  | [], _, .nil => ⟨rfl, fun i x p h => by cases h⟩
  | p :: ps, x :: xs, .cons h t => by
    obtain ⟨h1, h2⟩ := keys_at t
    refine ⟨by simp [h1], fun i y q e1 e2 => ?_⟩
    cases i with
    | zero =>
      cases e1
      cases e2
      exact h.2.1
    | succ i => exact h2 i y q (by simpa using e1) (by simpa using e2)
section
variable {X : Cx}
/-- sorted(d), d a dict by pairs of whole numbers -/
def rSortDT : List V → Hp → VK → Prop := fun vs H Q => ∃ (d : Addr) (ps : List (Int × Int)), vs = [V.ref d] ∧ H d = some (.dT (dP2 ps)) ∧
  ∀ (cs : List Addr) (qs : List (Int × Int)) (p : Addr), qs.Perm ps → (qs.Pairwise fun x y => ¬ (y.1 < x.1 ∨ (y.1 = x.1 ∧ y.2 < x.2))) → Prs H cs qs → H p = none → Q (.ref p) (upd H p (.lst (cs.map V.ref)))
theorem cr_sortDT (calm : X.calm = true := by rfl) : CallR X (.builtin "sorted") rSortDT := by
  intro pins s σ H vs us Q I r h
  obtain ⟨d, ps, rfl, here, q⟩ := h
  obtain ⟨u, rfl, ru⟩ := vals1 r
  obtain rfl : u = Value.ref d := ru
  obtain ⟨z, low, ks, rel, o, es, ep, ho, hx, hdt, he, hn⟩ := (show ObjOk X.prog X.w H s.heap d (.dT (dP2 ps)) from I.hok _ _ here)
  have l1 : es.size = ks.length := size_of_entries he
  obtain ⟨l2, hat⟩ := keys_at rel
  have l3 : (dP2 ps).length = ps.length := by simp [dP2]
  refine Calls.call_function_entry kind_sorted plain_sorted entry_sorted (args_sorted1 _) ?_
  unfold Builtin.«sorted»
  refine wpAny_bind (m := checkCount "sorted" 1 1 _) (wpAny_pure ?_)
  refine wpAny_bind (PySem.W.kdu_collect (A := X.A.in1) (kdl_raw low hx hdt) (I.ok.hd calm) ho (by omega) fun h' tk acc keep items => ?_)
  have ea : acc.toList = ks.map fun x => Value.ref x.2.1 := by
    have hl : acc.toList.length = ks.length := by rw [Array.length_toList, items.1, l1]
    refine List.ext_getElem? fun j => ?_
    rw [List.getElem?_map]
    cases hj : acc.toList[j]? with
    | none => rw [List.getElem?_eq_none (by have := List.getElem?_eq_none_iff.mp hj; omega)]; rfl
    | some v =>
      obtain ⟨en, hen, hv⟩ := items.2 j v (by rw [← Array.getElem?_toList]; exact hj)
      have qe := entry_at he j
      rw [hen] at qe
      cases hb : ks[j]? with
      | none =>
        rw [hb] at qe
        exact nomatch (show some en = none from qe)
      | some b =>
        rw [hb] at qe
        have e2 := Option.some.inj qe
        rw [hv, e2]
        rfl
  have al : acc.toList.length = ps.length := by rw [ea, List.length_map, l2]
  have az : acc.toList.length ≤ sizeLine := by omega
  have J : L2.Inv X pins σ H { s with heap := h', toks := tk } := I.kept keep
  have mem : ∀ v ∈ acc.toList, ∃ (c : Addr) (p : Int × Int), v = .ref c ∧ H c = some (.tup [.int p.1, .int p.2]) := fun v hv => by
    rw [ea] at hv
    obtain ⟨x, hx2, rfl⟩ := List.mem_map.mp hv
    obtain ⟨j, hj⟩ := List.mem_iff_getElem?.mp hx2
    have hj2 : j < ps.length := by
      rw [← l2]
      exact (List.getElem?_eq_some_iff.mp hj).1
    exact ⟨x.2.1, ps[j], rfl, hat j x _ hj (List.getElem?_eq_getElem hj2)⟩
  have pr : ∀ v ∈ acc.toList, Srt.IsPair h' v (kAt H (backV v)).1 (kAt H (backV v)).2 := fun v hv => by
    obtain ⟨c, p, rfl, hc⟩ := mem v hv
    have e1 : kAt H (backV (.ref c)) = p := kAt_of hc
    rw [e1]
    obtain ⟨_, its2, r2, o2, ho2, hc2, n, hd⟩ := J.hok _ _ hc
    obtain ⟨u1, u2, rfl, ri, rj⟩ := vals2 r2
    obtain ⟨t1, rfl⟩ := ri
    obtain ⟨t2, rfl⟩ := rj
    exact ⟨c, o2, t1, t2, n, rfl, ho2, hc2, hd⟩
  refine wpAny_bind (wpAny_newList ?_ az)
  have newL : (h'.push (seqObj "list" acc.toList.toArray 0)).get? h'.objs.size = some (seqObj "list" acc.toList.toArray 0) := Heap.get?_push_size _ rfl
  show wpAny _ _ _ _ _ { s with heap := h'.push (seqObj "list" acc.toList.toArray 0), toks := tk }
  refine wpAny_bind (wpAny_holding (wpAny_call_entry slot_list_sort ⟨_, newL, rfl⟩ entry_list_sort (SrtO.list_sort_ord (s := { s with heap := h'.push (seqObj "list" acc.toList.toArray 0), toks := tk }) (SrtO.swo_lex fun u => kAt H (backV u)) newL az (fun h2 => ?_) fun out o1 o2 => ⟨_, rfl, ?_⟩) (args_list_sort _)))
  · refine SrtO.pairs_sortableO (by omega) (fun v hm => (pr v hm).keeps fun b o e _ => Heap.get?_push_of_some _ e) fun o e => ?_
    have e' := e.symm.trans newL
    cases e'
    intro c
    exact absurd (Value.type.inj c) (by decide)
  · obtain ⟨c, hc⟩ := sortedHeap_at (vs := acc.toList) (out := out.toArray) newL
    have h3 : ∀ u ∈ out, ∃ a, u = Value.ref a := fun u hu => by
      obtain ⟨c, p, e, _⟩ := mem u (o2.perm.mem_iff.mp hu)
      exact ⟨c, e⟩
    obtain ⟨cs, hcs⟩ : ∃ cs : List Addr, out = cs.map Value.ref := ⟨out.map fun u => match u with | .ref a => a | _ => 0, by
      rw [List.map_map]
      conv => lhs; rw [← List.map_id out]
      refine List.map_congr_left fun u hu => ?_
      obtain ⟨a, rfl⟩ := h3 u hu
      rfl⟩
    have eb : out.map backV = cs.map V.ref := by
      rw [hcs, List.map_map]
      rfl
    have kmap : acc.toList.map (fun u => kAt H (backV u)) = ps := by
      rw [ea, List.map_map]
      refine List.ext_getElem? fun j => ?_
      rw [List.getElem?_map]
      cases hj : ks[j]? with
      | none => rw [List.getElem?_eq_none (by have := List.getElem?_eq_none_iff.mp hj; omega)]; rfl
      | some x =>
        have hj2 : j < ps.length := by
          rw [← l2]
          exact (List.getElem?_eq_some_iff.mp hj).1
        rw [List.getElem?_eq_getElem hj2]
        show some (kAt H (.ref x.2.1)) = some ps[j]
        rw [kAt_of (hat j x _ hj (List.getElem?_eq_getElem hj2))]
    have hperm : (out.map fun u => kAt H (backV u)).Perm ps := by
      have := o2.perm.map fun u => kAt H (backV u)
      rwa [kmap] at this
    have hyl : ((cs.map V.ref)).length ≤ sizeLine := by
      rw [← eb, List.length_map, o2.perm.length_eq]
      exact az
    refine wpAny_pure ⟨_, rfl, .ref h'.objs.size, upd H h'.objs.size (.lst (cs.map V.ref)), J.laid (t' := tk) (fun b u e => ?_) (Nat.le_refl _) (show ObjOk X.prog X.w _ _ _ (.lst (cs.map V.ref)) from ⟨hyl, out, c, ?_, hc⟩), rfl, q cs (out.map fun u => kAt H (backV u)) _ hperm ?_ ?_ (J.hok.fresh (Nat.le_refl _))⟩
    · have lt : b < h'.objs.size := Heap.lt_size e
      rw [sortedHeap_old (Nat.ne_of_lt lt) (by rw [size_push']; exact Nat.lt_succ_of_lt lt)]
      exact Heap.get?_push_of_some _ e
    · rw [← eb]
      exact vals_back h3
    · rw [List.pairwise_map]
      exact o1.imp fun {x y} h => SrtO.lexB_no.mp h
    · refine ⟨by rw [hcs]; simp, fun i c p e1 e2 => ?_⟩
      rw [hcs, List.map_map, List.getElem?_map, e1] at e2
      cases e2
      have hm : Value.ref c ∈ acc.toList := o2.perm.mem_iff.mp (by rw [hcs]; exact List.mem_map.mpr ⟨c, List.mem_of_getElem? e1, rfl⟩)
      obtain ⟨c2, p2, e3, hc2⟩ := mem _ hm
      cases e3
      show H c = some (.tup [.int (kAt H (.ref c)).1, .int (kAt H (.ref c)).2])
      rw [kAt_of hc2]
      exact hc2
end
theorem Prs.snoc {H : Hp} {cs : List Addr} {ps : List (Int × Int)} {c : Addr} {p : Int × Int} (h : Prs H cs ps) (hc : H c = some (.tup [.int p.1, .int p.2])) : Prs H (cs ++ [c]) (ps ++ [p]) := by
  refine ⟨by simp [h.1], fun i b q h1 h2 => ?_⟩
  rcases Nat.lt_or_ge i cs.length with z | z
  · rw [List.getElem?_append_left z] at h1
    rw [List.getElem?_append_left (by rw [← h.1]; exact z)] at h2
    exact h.2 i b q h1 h2
  · rw [List.getElem?_append_right z] at h1
    rw [List.getElem?_append_right (by rw [← h.1]; exact z)] at h2
    have e1 : i - cs.length = 0 := by
      have := (List.getElem?_eq_some_iff.mp h1).1
      simp at this
      omega
    rw [← h.1, e1] at h2
    rw [e1] at h1
    simp at h1 h2
    subst h1 h2
    exact hc
theorem Prs.tups {H H' : Hp} {cs : List Addr} {ps : List (Int × Int)} (h : Prs H cs ps) (k : ∀ c xs, H c = some (.tup xs) → H' c = some (.tup xs)) : Prs H' cs ps := ⟨h.1, fun i c p h1 h2 => k _ _ (h.2 i c p h1 h2)⟩
/-- a new tuple, then a list written anew -/
theorem Prs.upd {H : Hp} {cs : List Addr} {ps : List (Int × Int)} {l u : Addr} {o w : HO} {acc : List V} (h : Prs H cs ps) (hl : H l = some (.lst acc)) (hu : H u = none) : Prs (L2.upd (L2.upd H u w) l o) cs ps :=
  h.tups fun c xs hc => (upd_ne (ne_of hc hl fun e => by cases e)).trans ((upd_ne (ne_of_none hc hu)).trans hc)
theorem val_dP2 (p : Int × Int) : ∀ ps : List (Int × Int), (dP2 ps).any (fun kv => decide (kv.1 = kP p)) = decide (p ∈ ps)
  | [] => by simp [dP2]
  | q :: ps => by
    have ih := val_dP2 p ps
    unfold dP2 at ih ⊢
    rw [List.map_cons, List.any_cons, ih]
    have : (kP q = kP p) ↔ p = q := ⟨fun h => (kP_inj h).symm, fun h => by rw [h]⟩
    simp only [this, List.mem_cons, Bool.decide_or]
theorem put_dP2 (p : Int × Int) (ps : List (Int × Int)) : putK (dP2 ps) (kP p) (.bl true) = dP2 (if p ∈ ps then ps else ps ++ [p]) := by
  unfold putK
  rw [val_dP2]
  by_cases c : p ∈ ps
  · rw [if_pos (decide_eq_true c), if_pos c]
    unfold dP2
    rw [List.map_map]
    refine List.map_congr_left fun q _ => ?_
    show (if kP q = kP p then (kP q, V.bl true) else (kP q, V.bl true)) = _
    split <;> rfl
  · rw [if_neg (by simpa using c), if_neg c]
    simp [dP2]
/-- a key by a pair is put -/
theorem putT {H : Hp} {d b : Addr} {ps : List (Int × Int)} {p : Int × Int} (h : H d = some (.dT (dP2 ps))) (hb : H b = some (.tup [.int p.1, .int p.2])) (hl : ps.length < sizeLine) : DPut H d (.ref b) (.bl true) (L2.upd H d (.dT (dP2 (if p ∈ ps then ps else ps ++ [p])))) := by
  rw [← put_dP2]
  exact DPut.t (k := kP p) h hb (by simpa [dP2] using hl)
theorem put_in {p : Int × Int} {ps : List (Int × Int)} (h : ps.Nodup) : (if p ∈ ps then ps else ps ++ [p]).Nodup ∧ (∀ q, q ∈ (if p ∈ ps then ps else ps ++ [p]) ↔ q ∈ ps ∨ q = p) ∧ (if p ∈ ps then ps else ps ++ [p]).length ≤ ps.length + 1 := by
  by_cases c : p ∈ ps
  · rw [if_pos c]
    exact ⟨h, fun q => ⟨.inl, fun z => z.elim id fun e => e ▸ c⟩, by omega⟩
  · rw [if_neg c]
    refine ⟨?_, fun q => by simp, by simp⟩
    rw [List.nodup_append]
    refine ⟨h, by simp, fun x hx y hy e => ?_⟩
    rw [List.mem_singleton] at hy
    exact c (by rw [← hy, ← e]; exact hx)
theorem Prs.at {H : Hp} {cs : List Addr} {ps : List (Int × Int)} (h : Prs H cs ps) {i : Nat} {v : V} (hv : (cs.map V.ref)[i]? = some v) : ∃ (a : Addr) (p : Int × Int), v = .ref a ∧ ps[i]? = some p ∧ H a = some (.tup [.int p.1, .int p.2]) := by
  rw [List.getElem?_map] at hv
  cases e : cs[i]? with
  | none =>
    rw [e] at hv
    cases hv
  | some a =>
    rw [e] at hv
    cases hv
    have hi : i < ps.length := by
      rw [← h.1]
      exact (List.getElem?_eq_some_iff.mp e).1
    exact ⟨a, ps[i], rfl, List.getElem?_eq_getElem hi, h.2 i a _ e (List.getElem?_eq_getElem hi)⟩
theorem Prs.same {H H' : Hp} {cs : List Addr} {ps : List (Int × Int)} (h : Prs H cs ps) (s : Same H H') : Prs H' cs ps := h.tups fun c xs e => s _ _ e
end DicT
/-! PnO: objects of a class, loops over a dict's pairs and values, dicts compared with none. -/
namespace Pn
open PySem PySem.Spec PyProof.Rows L2
/-- the class of this name, as the top has made it; these are names of fields -/
structure KCl (K : PySem.W.Frag) (x : PySem.Str) (as : List PySem.Str) (C : Addr) : Prop where
  ns : PySem.W.nsIn K mainGlobals x = some (some (.ref C))
  cl : Cls K C
  no : ∀ a, a ∈ as → NoAttr K C a
/-- a method that stands in it, with its promise -/
structure FnM (P : Program) (w : World) (K : PySem.W.Frag) (mg : PySem.Str → Option Value) (base : Heap) (CX : CXT) (k : Nat) (x : PySem.Str) (as : List PySem.Str) (m : PySem.Str) (ps : List PySem.Str) (sp : Sp) : Prop where
  ex : ∃ (C f : Addr) (fd : FuncData), KCl K x as C ∧ Meth K C m f ∧ Binds K fd ps [] ∧ FnOk P w K mg base CX k f fd ps sp
/-- how one is made -/
structure FnK (P : Program) (w : World) (K : PySem.W.Frag) (mg : PySem.Str → Option Value) (base : Heap) (CX : CXT) (k : Nat) (x : PySem.Str) (as : List PySem.Str) (ps : List PySem.Str) (sp : Sp) : Prop where
  ex : ∃ (C f : Addr) (fd : FuncData), KCl K x as C ∧ Mk K C f ∧ mg x = some (.ref C) ∧ Binds K fd ps [] ∧ FnOk P w K mg base CX k f fd ps sp
/-- it is an object of the class -/
def IsO (K : PySem.W.Frag) (x m : PySem.Str) (y : V) (H : Hp) : Prop := ∃ (a C dx : Addr) (fs : List (PySem.Str × V)), y = .ref a ∧ H a = some (.ins C dx fs) ∧ PySem.W.nsIn K mainGlobals x = some (some (.ref C)) ∧ fs.lookup m = none
def tMt (K : PySem.W.Frag) (x m : PySem.Str) (sp : Sp) (E : XK) (ta : TE) (t : TA) : TE := fun σ H Q => ta σ H fun y H1 => IsO K x m y H1 ∧ t σ H1 fun vs H2 => sp (y :: vs) H2 Q E
def tMk (K : PySem.W.Frag) (x : PySem.Str) (as : List PySem.Str) (sp : Sp) (E : XK) (t : TA) : TE := fun σ H Q => t σ H fun vs H1 => ∀ (C y dx : Addr), KCl K x as C → H1 y = none → H1 dx = none → dx ≠ y → sp (.ref y :: vs) (upd (upd H1 dx (.own y)) y (.ins C dx [])) (fun v H2 => v = .non ∧ Q (.ref y) H2) E
theorem mt_eq {K : PySem.W.Frag} {x m : PySem.Str} {C : Addr} (ns : PySem.W.nsIn K mainGlobals x = some (some (.ref C))) (sp : Sp) (E : XK) (ta : TE) (t : TA) : tMeth C m sp [] E ta t = tMt K x m sp E ta t := by
  funext σ H Q
  unfold tMeth tMt IsO
  congr 1
  funext y H1
  refine propext ⟨?_, ?_⟩
  · rintro ⟨a, dx, fs, h1, h2, h3, h4⟩
    simp only [List.append_nil] at h4
    exact ⟨⟨a, C, dx, fs, h1, h2, ns, h3⟩, h4⟩
  · rintro ⟨⟨a, C', dx, fs, h1, h2, h3, h4⟩, h5⟩
    rw [ns] at h3
    cases h3
    refine ⟨a, dx, fs, h1, h2, h4, ?_⟩
    simp only [List.append_nil]
    exact h5
section
variable {X : Cx} {k : Nat} {x m : PySem.Str} {as ps : List PySem.Str} {sp : Sp} {ta : TE} {t : TA} {o e : Expr} {es : List Expr} {p apos pos : Pos}
theorem pe_mt {K : PySem.W.Frag} {pl : Sem Bool} (h : FnM X.prog X.w K X.mg X.base CX0 k x as m ps sp) (hr : Room k X.A) (he : PE X o ta) (ha : PA X (e :: es) t)
    (hst : starEach (e :: es) X.env = (false, eval e X.env) :: starEach es X.env := by rfl) (hpl : (backTo pos (starEach es X.env)).any (·.1) = false := by rfl)
    (ht : eval (.Call (.Attribute o m apos) (e :: es) [] pos) X.env = (do
      let ov ← eval o X.env
      standAt apos.atName
      let (f, first) ← holding [ov] (getMethod ov m pl)
      callWith pos f first (backTo pos (starEach (e :: es) X.env)) (backToKw pos (keywordEach [] X.env))) := by rfl) (hk : X.K = K := by rfl) :
    PE X (.Call (.Attribute o m apos) (e :: es) [] pos) (tMt K x m sp E0 ta t) := by
  subst hk
  obtain ⟨C, f, fd, hC, hM, hB, F⟩ := h.ex
  rw [← mt_eq hC.ns]
  exact pe_meth he hC.cl hM F hr hB .nil pass0 ha hst hpl ht
theorem pe_mt0 {K : PySem.W.Frag} {pl : Sem Bool} (h : FnM X.prog X.w K X.mg X.base CX0 k x as m ps sp) (hr : Room k X.A) (he : PE X o ta)
    (ht : eval (.Call (.Attribute o m apos) [] [] pos) X.env = (do
      let ov ← eval o X.env
      standAt apos.atName
      let (f, first) ← holding [ov] (getMethod ov m pl)
      callWith pos f first (backTo pos (starEach [] X.env)) (backToKw pos (keywordEach [] X.env))) := by rfl) (hk : X.K = K := by rfl) :
    PE X (.Call (.Attribute o m apos) [] [] pos) (tMt K x m sp E0 ta tNil) := by
  subst hk
  obtain ⟨C, f, fd, hC, hM, hB, F⟩ := h.ex
  rw [← mt_eq hC.ns]
  exact pe_meth0 he hC.cl hM F hr hB .nil pass0 ht
theorem k_fld (K : PySem.W.Frag) {f : PySem.Str} (he : PE X e ta) (hb : attributeBase e f X.env (eval e X.env) = eval e X.env) (hk : X.K = K := by rfl) : PE X (.Attribute e f pos) (tFld K ta f) := by
  subst hk
  exact pe_fld he hb
theorem pe_mk0 {K : PySem.W.Frag} (h : FnK X.prog X.w K X.mg X.base CX0 k x as ps sp) (hr : Room (k + 1) X.A) (hg : Gl X x) (hdb : (x == ("__debug__" : PySem.Str)) = false := by decide) (hk : X.K = K := by rfl) :
    PE X (.Call (.Name x p) [] [] pos) (tMk K x as sp E0 tNil) := by
  subst hk
  obtain ⟨C, f, fd, hC, hM, hm, hB, F⟩ := h.ex
  have g := pe_make0 (p := p) (pos := pos) hM F hr hg hm hB .nil pass0 hdb
  refine ⟨fun pins s σ H Q I q => g.run pins s σ H Q I ?_⟩
  intro y dx h1 h2 h3
  exact q C y dx hC h1 h2 h3
theorem k_lstG (K : PySem.W.Frag) {es : List Expr} {k : Nat} {t : TGs} {n : Nat} {pos : Pos} (hc : X.calm = true) (h : PGs X es t)
    (hn : (assignEach es X.env).length = n := by rfl) (hst : (assignEach es X.env).findIdx? (·.1) = none := by rfl) (hk : X.K = K := by rfl) : PG X (.Tuple es k pos) (gLst K n t) := by
  subst hk
  exact pg_lst hc h hn hst
/-- a dict that is but walked from here on -/
def tFrz (td : TE) : TE := fun σ H Q => td σ H fun x H1 => ∃ (d : Addr) (kvs : List (Key × V)), x = .ref d ∧ H1 d = some (.dK kvs) ∧ ∀ od, Q (.ref d) (upd H1 d (.frz od (.dK kvs)))
theorem pe_frz {e : Expr} {td : TE} (h : PE X e td) : PE X e (tFrz td) := by
  refine ⟨fun pins s σ H Q I q => ?_⟩
  refine thn (h.run pins s σ H _ I q) fun v s1 ⟨x, H1, I1, r, d, kvs, ex, hd, q1⟩ => ?_
  subst ex
  obtain ⟨od, I2⟩ := I1.lock hd trivial
  exact ⟨.ref d, _, I2, r, q1 od⟩
/-- d == {}: and what it is where a pair stands in it -/
def rEqD0 : R2 := fun x y H Q => ∃ (a b : Addr) (ks : List (Key × V)), x = .ref a ∧ y = .ref b ∧ H a = some (.dK ks) ∧ H b = some (.dK []) ∧ Q (.bl ks.isEmpty) H
theorem op_eqD0 (hu : X.A.units < cLine) : OpR X (compareOp .Eq) rEqD0 := by
  intro pins s σ H x y v u Q I rx ry h
  obtain ⟨a, b, ks, rfl, rfl, ea, eb, q⟩ := h
  obtain rfl : v = Value.ref a := rx
  obtain rfl : u = Value.ref b := ry
  obtain ⟨_, ya, va, ra, da⟩ := (show ObjOk X.prog X.w H s.heap a (.dK ks) from I.hok a _ ea)
  obtain ⟨_, yb, vb, rb, db⟩ := (show ObjOk X.prog X.w H s.heap b (.dK []) from I.hok b _ eb)
  have hb : vb.length = 0 := by rw [← rb.length]; rfl
  have ha : va.length = ks.length := ra.length.symm
  refine PySem.W.keq_eq (knd := mixKind X.prog X.w) (r := true) ya yb da db hu (fun e => ?_) (fin_bl I q ?_)
  · have e0 : ks = [] := List.length_eq_zero_iff.mp (by omega)
    subst e0
    exact hits_all rb ra fun p hp => by cases hp
  · rw [hb, ha]
    cases ks <;> rfl
end
/-! ### readings -/
section
variable {σ : L2.St} {H : Hp} {Q : VK} {D : Ends} {K : PySem.W.Frag} {te td ta tv : TE} {tt : TT} {tr : TA} {s1 : TS} {g : TG} {vs : List Nat}
def rFld (K : PySem.W.Frag) (f : PySem.Str) (x : V) (H : Hp) (Q : VK) : Prop := ∃ a C dx fs v, x = .ref a ∧ H a = some (.ins C dx fs) ∧ Cls K C ∧ NoAttr K C f ∧ fs.lookup f = some v ∧ Q v H
theorem w_fld {f : PySem.Str} : tFld K ta f σ H Q = ta σ H fun x H1 => rFld K f x H1 Q := rfl
def rPutF (K : PySem.W.Frag) (f : PySem.Str) (x y : V) (H : Hp) (QH : Hp → Prop) : Prop := ∃ a C dx fs, x = .ref a ∧ H a = some (.ins C dx fs) ∧ Cls K C ∧ NoAttr K C f ∧ fs.length < 1000 ∧ QH (upd H a (.ins C dx (putF f y fs)))
theorem w_sfld {f : PySem.Str} : sFld K ta tv f D σ H = tv σ H fun y H1 => ta σ H1 fun x H2 => rPutF K f x y H2 fun H3 => D.nx σ H3 := rfl
theorem w_mt {x m : PySem.Str} {sp : Sp} {E : XK} : tMt K x m sp E ta tr σ H Q = ta σ H fun y H1 => IsO K x m y H1 ∧ tr σ H1 fun us H2 => sp (y :: us) H2 Q E := rfl
theorem w_mk {x : PySem.Str} {as : List PySem.Str} {sp : Sp} {E : XK} : tMk K x as sp E tr σ H Q = tr σ H fun us H1 => ∀ (C y dx : Addr), KCl K x as C → H1 y = none → H1 dx = none → dx ≠ y → sp (.ref y :: us) (upd (upd H1 dx (.own y)) y (.ins C dx [])) (fun v H2 => v = .non ∧ Q (.ref y) H2) E := rfl
theorem w_frz : tFrz td σ H Q = td σ H fun x H1 => ∃ (d : Addr) (kvs : List (Key × V)), x = .ref d ∧ H1 d = some (.dK kvs) ∧ ∀ od, Q (.ref d) (upd H1 d (.frz od (.dK kvs))) := rfl
theorem w_forI : tFor (iItems td) g s1 D σ H = td σ H fun x H1 => ∃ d o kvs, x = .ref d ∧ H1 d = some (.frz o (.dK kvs)) ∧ FJ (Iti d o kvs) g s1 D σ H1 := rfl
theorem w_forV : tFor (iVals td) g s1 D σ H = td σ H fun x H1 => ∃ d o kvs, x = .ref d ∧ H1 d = some (.frz o (.dK kvs)) ∧ FJ (Itd d o kvs) g s1 D σ H1 := rfl
theorem w_lcV : tLc (iVals td) g tt te vs σ H Q = td σ H fun x H1 => ∃ d o kvs, x = .ref d ∧ H1 d = some (.frz o (.dK kvs)) ∧ LJ (Itd d o kvs) g tt te vs σ H1 Q := rfl
theorem w_lockS {s : TS} : tLock s D σ H = ∃ d u, H d = some u ∧ Mut (some u) ∧ ∀ od, s ⟨fun σ' H' => H' d = some (.frz od u) ∧ D.nx σ' (upd H' d u), fun v H' => H' d = some (.frz od u) ∧ D.rt v (upd H' d u), fun σ' H' => H' d = some (.frz od u) ∧ D.bk σ' (upd H' d u), fun σ' H' => H' d = some (.frz od u) ∧ D.ct σ' (upd H' d u)⟩ σ (upd H d (.frz od u)) := rfl
theorem w_asgL {n : Nat} {t : TGs} : tAsg te (gLst K n t) D σ H = te σ H fun v H1 => ∃ a xs, v = .ref a ∧ SqL K H1 a xs ∧ xs.length = n ∧ t xs σ H1 D.nx := rfl
theorem w_gSub {to ti : TE} {ts : TSet} {v : V} {QN : L2.St → Hp → Prop} : gSub to ti ts v σ H QN = to σ H fun o H1 => ti σ H1 fun i H2 => ts o i v H2 fun H3 => QN σ H3 := rfl
theorem w_minV : tMinVals td σ H Q = td σ H fun x H1 => ∃ a kvs is, x = V.ref a ∧ H1 a = some (.dK kvs) ∧ kvs.map (·.2) = is.map V.int ∧ is ≠ [] ∧ ∀ m, m ∈ is → (∀ j ∈ is, m ≤ j) → Q (.int m) H1 := rfl
/-- over the pairs of a dict of whole numbers -/
theorem for_i {d : Addr} {o : Obj} {ks : List Nat} {f : Nat → V} (Pv : Nat → L2.St → Hp → Prop) (h0 : Pv 0 σ H) (hl : ∀ i σ H, i ≤ ks.length → Pv i σ H → H d = some (.frz o (.dK (dN ks f))))
    (hs : ∀ i k σ H T, ks[i]? = some k → i < ks.length → Pv i σ H → H T = none → ∀ N : L2.St → Hp → Prop, (∀ σ' H', Pv (i + 1) σ' H' → N σ' H') → g (.ref T) σ (upd H T (.tup [.int (k : Int), f k])) fun σ2 H2 => s1 { D with nx := N, ct := N, bk := D.nx } σ2 H2)
    (hd : ∀ σ H, Pv ks.length σ H → D.nx σ H) : FJ (Iti d o (dN ks f)) g s1 D σ H := by
  have el : (dN ks f).length = ks.length := dN_len ks f
  refine for_it (n := ks.length) (G := fun H => H d = some (.frz o (.dK (dN ks f)))) (Y := fun i H x H' => ∃ (T : Addr) (k : Nat), x = .ref T ∧ H T = none ∧ H' = upd H T (.tup [.int (k : Int), f k]) ∧ ks[i]? = some k) ?_ Pv h0 hl ?_ hd
  · refine ⟨fun i H hi q => ⟨q, by rw [el]; exact hi⟩, fun H q => ⟨q, by rw [el]; exact Nat.le_refl _⟩, fun i H x H' hi q y => ?_⟩
    obtain ⟨T, k, v, h1, h2, h3, h4⟩ := y
    unfold dN at h1
    rw [List.getElem?_map] at h1
    cases e : ks[i]? with
    | none =>
      rw [e] at h1
      cases h1
    | some n =>
      rw [e] at h1
      cases h1
      exact ⟨T, n, h2, h3, h4, rfl⟩
  · rintro i x σ H H' hi p ⟨T, k, rfl, hT, rfl, hk⟩
    exact hs i k σ H T hk hi p hT _ fun _ _ z => z
/-- over the values of a dict of whole numbers -/
theorem for_v {d : Addr} {o : Obj} {ks : List Nat} {f : Nat → V} (Pv : Nat → L2.St → Hp → Prop) (h0 : Pv 0 σ H) (hl : ∀ i σ H, i ≤ ks.length → Pv i σ H → H d = some (.frz o (.dK (dN ks f))))
    (hs : ∀ i k σ H, ks[i]? = some k → i < ks.length → Pv i σ H → ∀ N : L2.St → Hp → Prop, (∀ σ' H', Pv (i + 1) σ' H' → N σ' H') → g (f k) σ H fun σ2 H2 => s1 { D with nx := N, ct := N, bk := D.nx } σ2 H2)
    (hd : ∀ σ H, Pv ks.length σ H → D.nx σ H) : FJ (Itd d o (dN ks f)) g s1 D σ H := by
  have el : (dN ks f).length = ks.length := dN_len ks f
  refine for_it (n := ks.length) (G := fun H => H d = some (.frz o (.dK (dN ks f)))) (Y := fun i H x H' => H' = H ∧ ∃ k : Nat, x = f k ∧ ks[i]? = some k) ?_ Pv h0 hl ?_ hd
  · refine ⟨fun i H hi q => ⟨q, by rw [el]; exact hi⟩, fun H q => ⟨q, by rw [el]; exact Nat.le_refl _⟩, fun i H x H' hi q y => ?_⟩
    obtain ⟨h0, k, h1⟩ := y
    unfold dN at h1
    rw [List.getElem?_map] at h1
    cases e : ks[i]? with
    | none =>
      rw [e] at h1
      cases h1
    | some n =>
      rw [e] at h1
      cases h1
      exact ⟨h0, n, rfl, rfl⟩
  · rintro i x σ H H' hi p ⟨rfl, k, rfl, hk⟩
    exact hs i k σ _ hk hi p _ fun _ _ z => z
/-- a comprehension over the values of a locked dict -/
theorem lc_v {d : Addr} {o : Obj} {ks : List Nat} {f : Nat → V} (h : Nat → Option V) (hx : H d = some (.frz o (.dK (dN ks f)))) (hl : ks.length < sizeLine)
    (hs : ∀ (i k : Nat) (H' : Hp), ks[i]? = some k → Same H H' → ∀ (N0 : Hp → Prop) (N1 : VK), (h k = none → ∀ H2, Same H' H2 → N0 H2) → (∀ y, h k = some y → ∀ H2, Same H' H2 → N1 y H2) →
      g (f k) (wipe σ vs) H' fun σ2 H2 => wipe σ2 vs = wipe σ vs ∧ tt σ2 H2 fun b H3 => if b = true then te σ2 H3 N1 else N0 H3)
    (q : ∀ D H', H D = none → Same H H' → H' D = some (.lst (ks.filterMap h)) → Q (.ref D) H') : LJ (Itd d o (dN ks f)) g tt te vs σ H Q := by
  intro D hD
  have el : (dN ks f).length = ks.length := dN_len ks f
  refine ⟨fun j left Hw => left + j = ks.length ∧ Same H Hw ∧ Hw D = some (.lst ((ks.take j).filterMap h)), ⟨ks.length, Nat.add_zero _, same_new hD, by rw [upd_same]; simp⟩, fun j left Hw => ?_⟩
  rintro ⟨ej, p1, p2⟩
  rcases Nat.eq_zero_or_pos left with h0 | h0
  · left
    have e : j = ks.length := by omega
    subst e
    refine ⟨⟨p1 _ _ hx, by rw [el]; exact Nat.le_refl _⟩, q D Hw hD p1 ?_⟩
    rw [p2, List.take_length]
  · right
    have hj : j < ks.length := by omega
    refine ⟨⟨p1 _ _ hx, by rw [el]; exact hj⟩, fun Hz => Same H Hz ∧ Hz D = some (.lst ((ks.take (j + 1)).filterMap h)), fun Hz hz => ⟨left - 1, by omega, by omega, hz.1, hz.2⟩, fun x Hy hy => ?_⟩
    obtain ⟨e1, k, h1⟩ := hy
    subst e1
    unfold dN at h1
    rw [List.getElem?_map] at h1
    cases e : ks[j]? with
    | none =>
      rw [e] at h1
      cases h1
    | some n =>
      rw [e] at h1
      cases h1
      have hlen : ((ks.take j).filterMap h).length < sizeLine := Nat.lt_of_le_of_lt (Nat.le_trans (List.length_filterMap_le _ _) (by rw [List.length_take]; exact Nat.min_le_right _ _)) hl
      refine hs j n Hy e p1 _ _ (fun hf H2 k2 => ⟨p1.trans k2, ?_⟩) fun y hf H2 k2 => ⟨_, k2 _ _ p2, hlen, fun b o h => ?_, ?_⟩
      · rw [k2 _ _ p2, filt_take h e, hf]
        simp
      · rw [upd_ne (ne_of_none h hD)]
        exact k2 _ _ (p1 _ _ h)
      · rw [upd_same, filt_take h e, hf]
        rfl
end
end Pn
/-! PnW: words: lines cut and joined, written numbers, tuples of texts at the top, comprehensions over a text. -/
namespace Pn
open PySem PySem.Spec PyProof.Rows L2 TL
theorem pss_void {X : Cx} {st : List Stmt} : PSs X st (fun _ _ _ => False) := ⟨fun _ _ _ _ _ _ h => h.elim⟩
/-- a tuple of texts at the module's top -/
structure GT (K : PySem.W.Frag) (mg : PySem.Str → Option Value) (x : PySem.Str) (ys : List PySem.Str) : Prop where
  ex : ∃ a : Addr, mg x = some (.ref a) ∧ ∃ (o : Obj) (its : Array Value) (n : Nat), K.lookup a = some o ∧ o.cls = .type "tuple" ∧ o.data = .seq its n ∧ its.size ≤ sizeLine ∧ Vals (ys.map V.str) its.toList
def tGT (K : PySem.W.Frag) (ys : List PySem.Str) : TE := fun _ H Q => ∀ a, SqT K H a (ys.map V.str) → Q (.ref a) H
theorem k_globT {X : Cx} (K : PySem.W.Frag) {x : PySem.Str} {ys : List PySem.Str} {pos : Pos} (h : GT K X.mg x ys) (hg : Gl X x) (hd : (x == ("__debug__" : PySem.Str)) = false := by decide) : PE X (.Name x pos) (tGT K ys) := by
  obtain ⟨a, h1, o, its, n, h2, h3, h4, h5, h6⟩ := h.ex
  constructor
  intro pins s σ H Q I q
  exact (pe_glob (v := .ref a) hg h1 rfl hd).run pins s σ H Q I (q a (.inr ⟨o, its, n, h2, h3, h4, h5, h6⟩))
theorem w_gt {K : PySem.W.Frag} {ys : List PySem.Str} {σ : L2.St} {H : Hp} {Q : VK} : tGT K ys σ H Q = ∀ a, SqT K H a (ys.map V.str) → Q (.ref a) H := rfl
/-! ### one word behind another -/
theorem join_eq (y : PySem.Str) (ys : List PySem.Str) : PySem.Txt.join y ys = Str.join y ys := PySem.StrLaws.glued_eq_join y ys
theorem tl_blank : tl (" " : PySem.Str) = [32] := by decide +kernel
theorem split_two {a b : PySem.Str} (ha : 32 ∉ tl a) (hb : 32 ∉ tl b) : PySem.Txt.split (a ++ " " ++ b) " " = [a, b] := by
  have h := split_join (y := (" " : PySem.Str)) tl_blank (by decide +kernel) (parts := [a, b]) (by simp) (fun p hp => by
    simp only [List.mem_cons, List.not_mem_nil, or_false] at hp
    rcases hp with rfl | rfl
    · exact ha
    · exact hb)
  rwa [join_eq] at h
theorem split_one {a : PySem.Str} (ha : 32 ∉ tl a) : PySem.Txt.split a " " = [a] := by
  have h := split_join (y := (" " : PySem.Str)) tl_blank (by decide +kernel) (parts := [a]) (by simp) (fun p hp => by
    simp only [List.mem_cons, List.not_mem_nil, or_false] at hp
    subst hp
    exact ha)
  rwa [join_eq] at h
theorem empty_app (x : PySem.Str) : Str.empty ++ x = x := str_ext (by
  rw [tl_append]
  rfl)
theorem sN_blank (n : Nat) : 32 ∉ tl (sN n) := by
  rw [tl_sN]
  intro h
  have := numL_digits n _ h
  omega
theorem sN_len {n k : Nat} (hk : 0 < k) (h : n < 10 ^ k) : (sN n).length ≤ k := by
  rw [len_is, tl_sN]
  exact numL_len hk h
theorem sN_pos (n : Nat) : 0 < (sN n).length := by
  rw [len_is, tl_sN]
  exact List.length_pos_iff.mpr (numL_ne n)
theorem ok_of {x : PySem.Str} (h : ∀ c ∈ tl x, c < 128) : PyData.strOk x = true := by
  unfold PyData.strOk
  rw [Array.all_eq_true_iff_forall_mem]
  intro c hc
  have := h c (by simpa [tl] using hc)
  exact decide_eq_true (by omega)
theorem sN_low (n : Nat) : ∀ c ∈ tl (sN n), c < 128 := fun c hc => by
  rw [tl_sN] at hc
  have := numL_digits n _ hc
  omega
/-! ### a number formatted, of up to 4300 figures -/
def tFmtN (te : TE) : TE := fun σ H Q => te σ H fun x H1 => ∃ i : Int, x = .int i ∧ i.natAbs < 10 ^ 4300 ∧ Q (.str (toString i)) H1
theorem k_fmtN {X : Cx} (K : PySem.W.Frag) (hd : NoDig K) {e : Expr} {te : TE} {pos : Pos} (he : PE X e te) (hk : X.K = K := by rfl) (calm : X.calm = true := by rfl) : PE X (.FormattedValue e (-1) none pos) (tFmtN te) := by
  subst hk
  constructor
  intro pins s σ H Q I wish
  refine wpAny_FormattedValue_plain (thn (he.run pins s σ H _ I wish) fun v s1 y => ?_)
  obtain ⟨x, H1, I1, r1, i, rfl, small, q⟩ := y
  obtain ⟨t, rfl⟩ := r1
  exact PyProof.Rows.formatField_int (I1.ok.hd calm) (noDigits I1 hd) (fun _ => ⟨.str (toString i), H1, I1.tok _, ⟨_, rfl⟩, q⟩) fun big => absurd big (Nat.not_le_of_lt small)
theorem w_fmtN {te : TE} {σ : L2.St} {H : Hp} {Q : VK} : tFmtN te σ H Q = te σ H fun x H1 => ∃ i : Int, x = .int i ∧ i.natAbs < 10 ^ 4300 ∧ Q (.str (toString i)) H1 := rfl
def tJs2 (t1 t2 : TE) : TE := fun σ H Q => t1 σ H fun x H1 => ∃ y : PySem.Str, x = .str y ∧ (Str.empty ++ y).length ≤ sizeLine ∧ t2 σ H1 fun z H2 => ∃ y2 : PySem.Str, z = .str y2 ∧ (Str.empty ++ y ++ y2).length ≤ sizeLine ∧ Q (.str (Str.empty ++ y ++ y2)) H2
theorem k_join2 {X : Cx} {v1 v2 : Expr} {t1 t2 : TE} {pos : Pos} (h1 : PE X v1 t1) (h2 : PE X v2 t2) : PE X (.JoinedStr [v1, v2] pos) (tJs2 t1 t2) := pe_joined (.cons h1 (.cons h2 .nil))
theorem w_js2 {t1 t2 : TE} {σ : L2.St} {H : Hp} {Q : VK} : tJs2 t1 t2 σ H Q = t1 σ H fun x H1 => ∃ y : PySem.Str, x = .str y ∧ (Str.empty ++ y).length ≤ sizeLine ∧ t2 σ H1 fun z H2 => ∃ y2 : PySem.Str, z = .str y2 ∧ (Str.empty ++ y ++ y2).length ≤ sizeLine ∧ Q (.str (Str.empty ++ y ++ y2)) H2 := rfl
/-! ### a comprehension over a text -/
section
variable {σ : L2.St} {H : Hp} {Q : VK} {te td : TE} {tt : TT} {g : TG} {vs : List Nat}
theorem w_lcS : tLc (iStr td) g tt te vs σ H Q = td σ H fun v H1 => ∃ x, v = .str x ∧ LJ (Its x) g tt te vs σ H1 Q := rfl
theorem lc_s {x : PySem.Str} (f : Nat → Option V) (hl : x.length < sizeLine)
    (hs : ∀ (i c : Nat) (H' : Hp), (tl x)[i]? = some c → Same H H' → ∀ (N0 : Hp → Prop) (N1 : VK), (f c = none → ∀ H2, Same H' H2 → N0 H2) → (∀ y, f c = some y → ∀ H2, Same H' H2 → N1 y H2) →
      g (.str ⟨#[c]⟩) (wipe σ vs) H' fun σ2 H2 => wipe σ2 vs = wipe σ vs ∧ tt σ2 H2 fun b H3 => if b = true then te σ2 H3 N1 else N0 H3)
    (q : ∀ D H', H D = none → Same H H' → H' D = some (.lst ((tl x).filterMap f)) → Q (.ref D) H') : LJ (Its x) g tt te vs σ H Q := by
  intro D hD
  have sz : x.cps.size = (tl x).length := len_is x
  refine ⟨fun j left Hw => left + j = (tl x).length ∧ Same H Hw ∧ Hw D = some (.lst (((tl x).take j).filterMap f)), ⟨(tl x).length, Nat.add_zero _, same_new hD, by rw [upd_same]; simp⟩, fun j left Hw => ?_⟩
  rintro ⟨ej, p1, p2⟩
  rcases Nat.eq_zero_or_pos left with h0 | h0
  · left
    have e : j = (tl x).length := by omega
    subst e
    refine ⟨by show x.cps.size ≤ _; omega, q D Hw hD p1 ?_⟩
    rw [p2, List.take_length]
  · right
    have hj : j < (tl x).length := by omega
    refine ⟨by show j < x.cps.size; omega, fun Hz => Same H Hz ∧ Hz D = some (.lst (((tl x).take (j + 1)).filterMap f)), fun Hz hz => ⟨left - 1, by omega, by omega, hz.1, hz.2⟩, fun v Hy hy => ?_⟩
    obtain ⟨e1, c, h1, h2⟩ := hy
    subst e1 h2
    have e : (tl x)[j]? = some c := by rw [← h1]; exact Array.getElem?_toList
    have hlen : (((tl x).take j).filterMap f).length < sizeLine := Nat.lt_of_le_of_lt (Nat.le_trans (List.length_filterMap_le _ _) (by rw [List.length_take]; exact Nat.min_le_right _ _)) (by rw [← len_is]; exact hl)
    refine hs j c Hy e p1 _ _ (fun hf H2 k2 => ⟨p1.trans k2, ?_⟩) fun y hf H2 k2 => ⟨_, k2 _ _ p2, hlen, fun b o h => ?_, ?_⟩
    · rw [k2 _ _ p2, List.take_add_one, e, List.filterMap_append]
      simp [hf]
    · rw [upd_ne (ne_of_none h hD)]
      exact k2 _ _ (p1 _ _ h)
    · rw [upd_same, List.take_add_one, e, List.filterMap_append]
      simp [hf]
end
end Pn
namespace Pn
open PySem PySem.Spec PyProof.Rows L2
/-- a deck at a: the cells at l, how many are begun, what is left of one, how many were mixed (at most n), the sum -/
def Dk (H : Hp) (a l : Addr) (n : Nat) : Prop := ∃ (ns : List Int) (i x c s : Int), H a = some (.lst [.ref l, .int i, .int x, .int c, .int s]) ∧ l ≠ a ∧ H l = some (.lst (ns.map V.int)) ∧ ns.length ≤ 63 ∧ 0 ≤ i ∧ i ≤ ns.length ∧ 0 ≤ x ∧ 0 ≤ c ∧ c ≤ n
theorem Dk.mono {H : Hp} {a l : Addr} {n m : Nat} (h : Dk H a l n) (le : n ≤ m) : Dk H a l m := by
  obtain ⟨ns, i, x, c, s, h1, h2, h3, h4, h5, h6, h7, h8, h9⟩ := h
  exact ⟨ns, i, x, c, s, h1, h2, h3, h4, h5, h6, h7, h8, by omega⟩
/-- it stands where nothing of what was tracked changed -/
theorem Dk.same {H H' : Hp} {a l : Addr} {n : Nat} (h : Dk H a l n) (e : Same H H') : Dk H' a l n := by
  obtain ⟨ns, i, x, c, s, h1, h2, h3, h⟩ := h
  exact ⟨ns, i, x, c, s, e _ _ h1, h2, e _ _ h3, h⟩
theorem Dk.lst {H : Hp} {a l : Addr} {n : Nat} (h : Dk H a l n) : ∃ ys, H a = some (.lst ys) := by
  obtain ⟨ns, i, x, c, s, h1, _⟩ := h
  exact ⟨_, h1⟩
theorem Dk.ne {H : Hp} {a l p : Addr} {n : Nat} (h : Dk H a l n) (hp : H p = none) : p ≠ a := by
  obtain ⟨_, h1⟩ := h.lst
  exact (ne_of_none h1 hp).symm
theorem Dk.neL {H : Hp} {a l p : Addr} {n : Nat} (h : Dk H a l n) (hp : H p = none) : p ≠ l := by
  obtain ⟨ns, i, x, c, s, h1, h2, h3, h⟩ := h
  exact (ne_of_none h3 hp).symm
/-- where something apart from the deck and its cells is changed -/
theorem Dk.upd {H : Hp} {a l p : Addr} {n : Nat} {o : HO} (h : Dk H a l n) (n1 : p ≠ a) (n2 : p ≠ l) : Dk (upd H p o) a l n := by
  obtain ⟨ns, i, x, c, s, h1, h2, h3, h⟩ := h
  exact ⟨ns, i, x, c, s, (upd_ne n1.symm).trans h1, h2, (upd_ne n2.symm).trans h3, h⟩
end Pn
namespace Pn
open PySem PySem.Spec PyProof.Rows L2
/-- a seed at a: four whole numbers -/
def Sd (H : Hp) (a : Addr) : Prop := ∃ (x f c s : Int), H a = some (.lst [.int x, .int f, .int c, .int s])
theorem Sd.same {H H' : Hp} {a : Addr} (h : Sd H a) (e : Same H H') : Sd H' a := by
  obtain ⟨x, f, c, s, h1⟩ := h
  exact ⟨x, f, c, s, e _ _ h1⟩
theorem Sd.lst {H : Hp} {a : Addr} (h : Sd H a) : ∃ ys, H a = some (.lst ys) := by
  obtain ⟨x, f, c, s, h1⟩ := h
  exact ⟨_, h1⟩
theorem Sd.ne {H : Hp} {a p : Addr} (h : Sd H a) (hp : H p = none) : p ≠ a := by
  obtain ⟨_, h1⟩ := h.lst
  exact (ne_of_none h1 hp).symm
theorem Sd.upd {H : Hp} {a p : Addr} {o : HO} (h : Sd H a) (n1 : p ≠ a) : Sd (upd H p o) a := by
  obtain ⟨x, f, c, s, h1⟩ := h
  exact ⟨x, f, c, s, (upd_ne n1.symm).trans h1⟩
end Pn
namespace Pn
open PySem PySem.Spec PyProof.Rows L2
/-- a triple, or None -/
def VG (H : Hp) (v : V) : Option (Nat × Nat × Nat) → Prop
  | none => v = .non
  | some t => ∃ p, v = .ref p ∧ H p = some (.tup [.int (t.1 : Int), .int (t.2.1 : Int), .int (t.2.2 : Int)])
theorem VG.same {H H' : Hp} {v : V} {o : Option (Nat × Nat × Nat)} (h : VG H v o) (s : Same H H') : VG H' v o := by
  cases o with
  | none => exact h
  | some t =>
    obtain ⟨p, rfl, hp⟩ := h
    exact ⟨p, rfl, s _ _ hp⟩
def dG : Option (Nat × Nat × Nat) → PyData
  | none => .none
  | some t => .tuple (dI [(t.1 : Int), (t.2.1 : Int), (t.2.2 : Int)])
theorem dp_g {K : PySem.W.Frag} {H : Hp} {v : V} : ∀ {o : Option (Nat × Nat × Nat)}, VG H v o → Dp K H v (dG o)
  | none, h => by
    cases h
    exact .non
  | some t, h => by
    obtain ⟨p, rfl, hp⟩ := h
    exact .tup (SqT.of hp) (dpAll_ints [(t.1 : Int), (t.2.1 : Int), (t.2.2 : Int)])
theorem sh_g : ∀ o : Option (Nat × Nat × Nat), SeqAt.shaped (dG o) = true
  | none => rfl
  | some t => sh_tI _
theorem eqv_g : ∀ o o' : Option (Nat × Nat × Nat), PyData.eqv (dG o) (dG o') = decide (o = o')
  | some (a, b, c), some (d, e, f) => by
    simp only [dG, PyData.eqv, eqv_ints, List.cons.injEq, Int.natCast_inj, Option.some.injEq, Prod.mk.injEq, and_true]
  | some a, none => by simp [dG, PyData.eqv]
  | none, some b => by simp [dG, PyData.eqv]
  | none, none => by simp [dG, PyData.eqv]
section
variable {K : PySem.W.Frag} {H : Hp} {Q : VK} {x y : V}
theorem r_neG {o o' : Option (Nat × Nat × Nat)} (hx : VG H x o) (hy : VG H y o') (q : Q (.bl (!decide (o = o'))) H) : rNeD K x y H Q :=
  ⟨dG o, dG o', dp_g hx, dp_g hy, sh_g o, sh_g o', by rw [eqv_g]; exact q⟩
theorem r_eqG {o o' : Option (Nat × Nat × Nat)} (hx : VG H x o) (hy : VG H y o') (q : Q (.bl (decide (o = o'))) H) : rEqD K x y H Q :=
  ⟨dG o, dG o', dp_g hx, dp_g hy, sh_g o, sh_g o', by rw [eqv_g]; exact q⟩
end
theorem ofN_sorted {ns : List Nat} (h : ns.Pairwise (· < ·)) : (ofN ns).Pairwise (· ≤ ·) := by
  unfold ofN
  rw [List.pairwise_map]
  exact h.imp fun c => by omega
/-- what sorted tells of these keys -/
theorem sorted_is {ks ls : List Nat} {ys : List Int} (hn : ks.Nodup) (hl : ls.Pairwise (· < ·)) (h : ∀ x, x ∈ ks ↔ x ∈ ls) (hp : ys.Perm (ofN ks)) (hs : ys.Pairwise (· ≤ ·)) : ys = ofN ls := by
  have p1 : ks.Perm ls := (List.perm_ext_iff_of_nodup hn (hl.imp fun c => Nat.ne_of_lt c)).mpr h
  have p2 : ys.Perm (ofN ls) := hp.trans (p1.map _)
  exact List.Perm.eq_of_pairwise (fun a b _ _ h1 h2 => Int.le_antisymm h1 h2) hs (ofN_sorted hl) p2
theorem dN_keys (ks : List Nat) (g : Nat → V) : (dN ks g).map (·.1) = (ofN ks).map Sum.inl := by
  unfold dN ofN
  rw [List.map_map, List.map_map]
  rfl
theorem powL_len (m : Nat) : (powL m).length ≤ m := by
  unfold powL
  refine Nat.le_trans (List.length_filterMap_le _ _) ?_
  rw [List.length_range]
  exact Nat.le_refl _
theorem ofN_at {ns : List Nat} {i : Nat} {x : V} (h : ((ofN ns).map V.int)[i]? = some x) : ∃ n : Nat, ns[i]? = some n ∧ x = V.int (n : Int) := by
  unfold ofN at h
  rw [List.getElem?_map, List.getElem?_map] at h
  cases e : ns[i]? with
  | none => simp [e] at h
  | some n =>
    simp [e] at h
    exact ⟨n, rfl, h.symm⟩
/-- the squares and the higher powers together -/
theorem pow_split {m x : Nat} : (1 ≤ x ∧ x ≤ m ∧ IsPow x) ↔ (∃ b e, 1 ≤ b ∧ 3 ≤ e ∧ 2 ^ e ≤ m ∧ x = b ^ e ∧ x ≤ m) ∨ ∃ b, 1 ≤ b ∧ b ≤ rootN m 2 ∧ x = b * b := by
  constructor
  · rintro ⟨h1, h2, b, e, b1, e2, rfl⟩
    have sq : ∀ c, 1 ≤ c → c * c ≤ m → ∃ b, 1 ≤ b ∧ b ≤ rootN m 2 ∧ c * c = b * b := fun c c1 c2 => ⟨c, c1, rootN_ge (by omega) (by rw [Nat.pow_two]; exact c2), rfl⟩
    rcases (by omega : e = 2 ∨ 3 ≤ e) with rfl | e3
    · rw [Nat.pow_two] at h2 ⊢
      exact .inr (sq b b1 h2)
    · rcases (by omega : b = 1 ∨ 2 ≤ b) with rfl | b2
      · rw [Nat.one_pow] at h2 ⊢
        exact .inr (sq 1 (by omega) h2)
      · exact .inl ⟨b, e, b1, e3, Nat.le_trans (Nat.pow_le_pow_left b2 e) h2, rfl, h2⟩
  · rintro (⟨b, e, b1, e3, h, rfl, h2⟩ | ⟨b, b1, b2, rfl⟩)
    · exact ⟨Nat.pow_pos b1, h2, b, e, b1, by omega, rfl⟩
    · have h3 : b ^ 2 ≤ rootN m 2 ^ 2 := Nat.pow_le_pow_left b2 2
      have h4 := rootN_le (n := m) (e := 2) (by omega)
      rw [Nat.pow_two b] at h3
      exact ⟨Nat.mul_pos b1 b1, by omega, b, 2, b1, by omega, by rw [Nat.pow_two]⟩
theorem pairwise_at {l : List Nat} {i j x y : Nat} (h : l.Pairwise (· < ·)) (hij : i < j) (h1 : l[i]? = some x) (h2 : l[j]? = some y) : x < y := by
  obtain ⟨a, ea⟩ := List.getElem?_eq_some_iff.mp h1
  obtain ⟨b, eb⟩ := List.getElem?_eq_some_iff.mp h2
  rw [List.pairwise_iff_getElem] at h
  have := h i j a b hij
  rwa [ea, eb] at this
/-- a display of one pair, its key a whole number -/
theorem r_disp1 {σ : L2.St} {H : Hp} {Q : VK} {k : Nat} {y : V} (q : ∀ p, H p = none → Q (.ref p) (upd H p (.dK (dN [k] fun _ => y)))) : tDisp [(tC (.int (k : Int)), tC y)] σ H Q := fun p hp => by
  refine ⟨upd_same, [((Sum.inl (k : Int) : Key), y)], rfl, by show 1 ≤ 15; decide, ?_⟩
  rw [upd_upd]
  exact q p hp
theorem dN_any {H : Hp} {a : Addr} {ks : List Nat} {v : V} {m : Nat} (h : H a = some (.dK (dN ks fun _ => v))) (hl : ks.length < sizeLine) : DPut H a (.int (m : Int)) v (upd H a (.dK (dN (if m ∈ ks then ks else ks ++ [m]) fun _ => v))) := by
  have := dN_upd (m := m) (v := v) h hl
  have e : (fun k => if k = m then v else (fun _ => v) k) = fun _ : Nat => v := by
    funext k
    split <;> rfl
  rw [e] at this
  exact this
theorem put_nodup {x : Nat} {ks : List Nat} (h : ks.Nodup) : (if x ∈ ks then ks else ks ++ [x]).Nodup ∧ (∀ y, y ∈ (if x ∈ ks then ks else ks ++ [x]) ↔ y ∈ ks ∨ y = x) ∧ (if x ∈ ks then ks else ks ++ [x]).length ≤ ks.length + 1 := by
  by_cases c : x ∈ ks
  · rw [if_pos c]
    exact ⟨h, fun y => ⟨.inl, fun z => z.elim id fun e => e ▸ c⟩, by omega⟩
  · rw [if_neg c]
    refine ⟨?_, fun y => by simp, by simp⟩
    rw [List.nodup_append]
    refine ⟨h, by simp, ?_⟩
    intro y hy z hz e2
    simp at hz
    subst hz e2
    exact c hy
theorem r_eqDI {K : PySem.W.Frag} {H : Hp} {Q : VK} {a b : Int} (q : Q (.bl (decide (a = b))) H) : rEqD K (.int a) (.int b) H Q :=
  ⟨.int a, .int b, .int a, .int b, rfl, rfl, by rw [PyData.eqv, Bool.beq_eq_decide_eq]; exact q⟩
end Pn
namespace Pn
open PySem PySem.Spec PyProof.Rows L2
/-! ### a dict of counts -/
/-- the counts of l stand at a, for the keys ks -/
structure CD (H : Hp) (a : Addr) (l ks : List Nat) : Prop where
  at_ : H a = some (.dK (dN ks fun k => .int ((l.count k : Nat) : Int)))
  nd : ks.Nodup
  all : ∀ x ∈ l, x ∈ ks
  rng : ∀ x ∈ ks, 2 ≤ x ∧ x ≤ 1000000
theorem keys_len {ks : List Nat} (h : ks.Nodup) (r : ∀ x ∈ ks, 2 ≤ x ∧ x ≤ 1000000) : ks.length ≤ 1000000 := by
  have h1 := List.Nodup.length_le_of_subset (l₂ := List.range' 1 1000000) h (fun x hx => by
    have := r x hx
    rw [List.mem_range'_1]
    omega)
  rwa [List.length_range'] at h1
theorem two_len {l : List Nat} (h : ∀ x ∈ l, 2 ≤ x) : 2 ^ l.length ≤ prodL l := by
  induction l with
  | nil => exact Nat.le_refl _
  | cons a l ih =>
    rw [List.length_cons, Nat.pow_succ, prodL_cons, Nat.mul_comm]
    exact Nat.mul_le_mul (h a List.mem_cons_self) (ih fun x hx => h x (List.mem_cons_of_mem _ hx))
theorem pf_len {n : Nat} (h1 : 1 ≤ n) (h : n ≤ 1000000) : (pf n).length < 20 := by
  have h2 := two_len (l := pf n) fun x hx => (pf_mem hx).1
  rw [pf_prod h1] at h2
  exact (Nat.pow_lt_pow_iff_right (by omega : 1 < 2)).mp (Nat.lt_of_le_of_lt h2 (Nat.lt_of_le_of_lt h (by decide)))
theorem CD.len {H : Hp} {a : Addr} {l ks : List Nat} (h : CD H a l ks) : ks.length ≤ 1000000 := by
  have h1 := List.Nodup.length_le_of_subset (l₂ := List.range' 1 1000000) h.nd (fun x hx => by
    have := h.rng x hx
    rw [List.mem_range'_1]
    omega)
  rwa [List.length_range'] at h1
theorem CD.same {H H' : Hp} {a : Addr} {l ks : List Nat} (h : CD H a l ks) (s : Same H H') : CD H' a l ks := ⟨s _ _ h.at_, h.nd, h.all, h.rng⟩
theorem CD.to {H H' : Hp} {a : Addr} {l ks : List Nat} (h : CD H a l ks) (e : H' a = H a) : CD H' a l ks := ⟨e.trans h.at_, h.nd, h.all, h.rng⟩
theorem count_snoc (l : List Nat) (m : Nat) : (fun k : Nat => V.int (((l ++ [m]).count k : Nat) : Int)) = fun k => if k = m then V.int (((l.count m : Nat) : Int) + 1) else V.int ((l.count k : Nat) : Int) := by
  funext k
  rw [List.count_append]
  by_cases c : k = m
  · subst c
    rw [if_pos rfl]
    simp
  · rw [if_neg c]
    have : ([m] : List Nat).count k = 0 := List.count_eq_zero_of_not_mem fun z => c (by simpa using z)
    rw [this]
    rfl
/-- one more of m is counted -/
theorem CD.put {H : Hp} {a : Addr} {l ks : List Nat} {m : Nat} (h : CD H a l ks) (h2 : 2 ≤ m) (h3 : m ≤ 1000000) : ∃ H' ks', DPut H a (.int (m : Int)) (.int (((l.count m : Nat) : Int) + 1)) H' ∧ H' = upd H a (.dK (dN ks' fun k => .int (((l ++ [m]).count k : Nat) : Int))) ∧ CD H' a (l ++ [m]) ks' ∧ ∀ x, x ∈ ks' ↔ x ∈ ks ∨ x = m := by
  have hz := h.len
  have p := dN_upd (m := m) (v := .int (((l.count m : Nat) : Int) + 1)) h.at_ (size_le hz)
  obtain ⟨g1, g2, g3⟩ := put_nodup (x := m) h.nd
  rw [← count_snoc] at p
  refine ⟨_, _, p, rfl, ⟨upd_same, g1, fun x hx => ?_, fun x hx => ?_⟩, g2⟩
  · rw [g2]
    rcases List.mem_append.mp hx with c | c
    · exact .inl (h.all x c)
    · simp at c
      exact .inr c
  · rcases (g2 x).mp hx with c | c
    · exact h.rng x c
    · omega
/-- what the dict tells of m -/
theorem CD.get {H : Hp} {a : Addr} {l ks : List Nat} {m : Nat} (h : CD H a l ks) : ∃ o : Option V, DGet H a (.int (m : Int)) o ∧ o.getD (.int 0) = .int ((l.count m : Nat) : Int) := by
  refine ⟨_, dN_get (m := m) h.at_, ?_⟩
  by_cases c : m ∈ ks
  · rw [if_pos c]
    rfl
  · rw [if_neg c, List.count_eq_zero_of_not_mem fun z => c (h.all m z)]
    rfl
theorem CD.isD {H : Hp} {a : Addr} {l ks : List Nat} (h : CD H a l ks) : IsD H a := .inl ⟨_, .inl h.at_⟩
/-! ### a kept product -/
theorem k_no : ¬ (("numbers" : PySem.Str) = "often") := by decide +kernel
def kpF (ln lo : Addr) : List (PySem.Str × V) := putF "often" (.ref lo) (putF "numbers" (.ref ln) [])
theorem kpF_n (ln lo : Addr) : (kpF ln lo).lookup ("numbers" : PySem.Str) = some (.ref ln) := by
  unfold kpF
  rw [lookup_putF, if_neg k_no, lookup_putF, if_pos rfl]
theorem kpF_o (ln lo : Addr) : (kpF ln lo).lookup ("often" : PySem.Str) = some (.ref lo) := by
  unfold kpF
  rw [lookup_putF, if_pos rfl]
theorem kpF_no (ln lo : Addr) {m : PySem.Str} (h1 : ¬ m = "often") (h2 : ¬ m = "numbers") : (kpF ln lo).lookup m = none := by
  unfold kpF
  rw [lookup_putF, if_neg h1, lookup_putF, if_neg h2]
  all_goals rfl
/-- an object stands at p with its list at ln and its dict at lo -/
def KO (K : PySem.W.Frag) (H : Hp) (p ln lo : Addr) : Prop := ∃ C dx, KCl K "KeptProduct" ["numbers", "often"] C ∧ H p = some (.ins C dx (kpF ln lo))
theorem KO.fldN {K : PySem.W.Frag} {H : Hp} {p ln lo : Addr} {Q : VK} (h : KO K H p ln lo) (q : Q (.ref ln) H) : rFld K "numbers" (.ref p) H Q := by
  obtain ⟨C, dx, hc, hp⟩ := h
  exact ⟨p, C, dx, _, _, rfl, hp, hc.cl, hc.no _ (by simp), kpF_n _ _, q⟩
theorem KO.fldO {K : PySem.W.Frag} {H : Hp} {p ln lo : Addr} {Q : VK} (h : KO K H p ln lo) (q : Q (.ref lo) H) : rFld K "often" (.ref p) H Q := by
  obtain ⟨C, dx, hc, hp⟩ := h
  exact ⟨p, C, dx, _, _, rfl, hp, hc.cl, hc.no _ (by simp), kpF_o _ _, q⟩
theorem KO.isO {K : PySem.W.Frag} {H : Hp} {p ln lo : Addr} {m : PySem.Str} (h : KO K H p ln lo) (h1 : ¬ m = "often") (h2 : ¬ m = "numbers") : IsO K "KeptProduct" m (.ref p) H := by
  obtain ⟨C, dx, hc, hp⟩ := h
  exact ⟨p, C, dx, _, rfl, hp, hc.ns, kpF_no _ _ h1 h2⟩
theorem KO.same {K : PySem.W.Frag} {H H' : Hp} {p ln lo : Addr} (h : KO K H p ln lo) (s : Same H H') : KO K H' p ln lo := by
  obtain ⟨C, dx, hc, hp⟩ := h
  exact ⟨C, dx, hc, s _ _ hp⟩
theorem KO.ne {K : PySem.W.Frag} {H : Hp} {p ln lo b : Addr} {u : HO} (h : KO K H p ln lo) (hb : H b = some u) (hu : ∀ C dx fs, u ≠ .ins C dx fs) : p ≠ b := by
  obtain ⟨C, dx, hc, hp⟩ := h
  exact ne_of hp hb fun e => hu _ _ _ e.symm
theorem KO.upd {K : PySem.W.Frag} {H : Hp} {p ln lo b : Addr} {o : HO} (h : KO K H p ln lo) (n : p ≠ b) : KO K (upd H b o) p ln lo := by
  obtain ⟨C, dx, hc, hp⟩ := h
  exact ⟨C, dx, hc, (upd_ne n).trans hp⟩
/-- a product of the numbers L -/
structure KP (K : PySem.W.Frag) (H : Hp) (p ln lo : Addr) (L : List Nat) : Prop where
  ob : KO K H p ln lo
  ns : H ln = some (.lst ((ofN L).map V.int))
  cd : ∃ ks, CD H lo (pfs L) ks
  rng : ∀ x ∈ L, 1 ≤ x ∧ x ≤ 1000000
theorem KP.same {K : PySem.W.Frag} {H H' : Hp} {p ln lo : Addr} {L : List Nat} (h : KP K H p ln lo L) (s : Same H H') : KP K H' p ln lo L := by
  obtain ⟨ks, hc⟩ := h.cd
  exact ⟨h.ob.same s, s _ _ h.ns, ⟨ks, hc.same s⟩, h.rng⟩
/-- all but what stands at two addresses is as it was -/
def K2 (a b : Addr) (H H' : Hp) : Prop := ∀ c o, c ≠ a → c ≠ b → H c = some o → H' c = some o
theorem K2.refl (a b : Addr) (H : Hp) : K2 a b H H := fun _ _ _ _ h => h
theorem K2.trans {a b : Addr} {H H1 H2 : Hp} (x : K2 a b H H1) (y : K2 a b H1 H2) : K2 a b H H2 := fun c o n1 n2 h => y c o n1 n2 (x c o n1 n2 h)
theorem K2.updA {a b : Addr} {H H' : Hp} {o : HO} (x : K2 a b H H') : K2 a b H (upd H' a o) := fun c u n1 n2 h => (upd_ne n1).trans (x c u n1 n2 h)
theorem K2.updB {a b : Addr} {H H' : Hp} {o : HO} (x : K2 a b H H') : K2 a b H (upd H' b o) := fun c u n1 n2 h => (upd_ne n2).trans (x c u n1 n2 h)
theorem K2.of {a b : Addr} {H H' : Hp} (s : Same H H') : K2 a b H H' := fun c o _ _ h => s c o h
theorem KP.ne {K : PySem.W.Frag} {H : Hp} {p ln lo : Addr} {L : List Nat} (h : KP K H p ln lo L) : p ≠ ln ∧ p ≠ lo ∧ ln ≠ lo := by
  obtain ⟨ks, hc⟩ := h.cd
  exact ⟨h.ob.ne h.ns (fun _ _ _ e => by cases e), h.ob.ne hc.at_ (fun _ _ _ e => by cases e), ne_of h.ns hc.at_ (fun e => by cases e)⟩
theorem KP.fresh {K : PySem.W.Frag} {H : Hp} {p ln lo t : Addr} {L : List Nat} (h : KP K H p ln lo L) (ht : H t = none) : p ≠ t ∧ ln ≠ t ∧ lo ≠ t := by
  obtain ⟨ks, hc⟩ := h.cd
  obtain ⟨C, dx, _, hp⟩ := h.ob
  exact ⟨ne_of_none hp ht, ne_of_none h.ns ht, ne_of_none hc.at_ ht⟩
/-- one product stays while another one changes -/
theorem KP.k2 {K : PySem.W.Frag} {H H' : Hp} {p ln lo a b : Addr} {L : List Nat} (h : KP K H p ln lo L) (k : K2 a b H H') (h1 : p ≠ a) (h2 : p ≠ b) (h3 : ln ≠ a) (h4 : ln ≠ b) (h5 : lo ≠ a) (h6 : lo ≠ b) : KP K H' p ln lo L := by
  obtain ⟨ks, hc⟩ := h.cd
  obtain ⟨C, dx, hcl, hp⟩ := h.ob
  exact ⟨⟨C, dx, hcl, k _ _ h1 h2 hp⟩, k _ _ h3 h4 h.ns, ⟨ks, ⟨k _ _ h5 h6 hc.at_, hc.nd, hc.all, hc.rng⟩⟩, h.rng⟩
theorem KP.kp {K : PySem.W.Frag} {H H' : Hp} {p ln lo a : Addr} {L : List Nat} (h : KP K H p ln lo L) (k : Kp a H H') (h1 : p ≠ a) (h3 : ln ≠ a) (h5 : lo ≠ a) : KP K H' p ln lo L :=
  h.k2 (a := a) (b := a) (fun c o n _ q => k c o n q) h1 h1 h3 h3 h5 h5
theorem ofN_app (a b : List Nat) : ofN (a ++ b) = ofN a ++ ofN b := by simp [ofN]
theorem ofN_len (a : List Nat) : (ofN a).length = a.length := by simp [ofN]
/-- H as it is, unlocked again -/
theorem upd_eta {H : Hp} {a : Addr} {u : HO} (h : H a = some u) : upd H a u = H := by
  funext b
  by_cases e : b = a
  · subst e
    rw [upd_same, h]
  · rw [upd_ne e]
theorem gcd_exp {l ks : List Nat} {r : Nat} (h1 : ∀ x ∈ l, x ∈ ks) (h : ∀ d, d ∣ r ↔ ∀ p ∈ ks, d ∣ l.count p) : IsExp l (if r = 0 then 2 else r) := by
  have hz : r = 0 ↔ l = [] := by
    constructor
    · intro e
      subst e
      refine List.eq_nil_iff_forall_not_mem.mpr fun p hp => ?_
      have h2 := (h (l.count p + 1)).mp (Nat.dvd_zero _) p (h1 p hp)
      have h3 : 0 < l.count p := List.count_pos_iff.mpr hp
      have := Nat.le_of_dvd h3 h2
      omega
    · intro e
      subst e
      have := (h 0).mpr fun p _ => by simp
      exact Nat.eq_zero_of_zero_dvd this
  refine ⟨fun c => by rw [if_pos (hz.mpr c)], fun c => ?_⟩
  have hr : r ≠ 0 := fun z => c (hz.mp z)
  rw [if_neg hr]
  refine ⟨by omega, fun d => (h d).trans ⟨fun z p hp => z p (h1 p hp), fun z p hp => ?_⟩⟩
  by_cases m : p ∈ l
  · exact z p m
  · rw [List.count_eq_zero_of_not_mem m]
    exact Nat.dvd_zero d
theorem bits20 {l : List Nat} (h : ∀ x ∈ l, x ≤ 1000000) : prodL l ≤ 2 ^ (20 * l.length) := by
  induction l with
  | nil => simp [prodL]
  | cons a l ih =>
    have e : 20 * (a :: l).length = 20 + 20 * l.length := by simp only [List.length_cons]; omega
    rw [prodL_cons, e, Nat.pow_add]
    exact Nat.mul_le_mul (Nat.le_trans (h a List.mem_cons_self) (by decide)) (ih fun x hx => h x (List.mem_cons_of_mem _ hx))
/-- how long what lacks can be -/
theorem lack_log {L ks : List Nat} {e : Nat} (he : 1 ≤ e) (h1 : ks.Nodup) (h2 : ∀ x ∈ L, 1 ≤ x ∧ x ≤ 1000000) (h4 : ∀ p ∈ ks, 1 ≤ p) : lackK ks (pfs L) e ≤ 2 ^ (20 * L.length * e) := by
  refine Nat.le_trans (lack_le he h1 (fun p hp => ?_) h4) ?_
  · have := (pfs_mem (N := 1000000) (fun x hx => (h2 x hx).2) hp).1
    omega
  · rw [pfs_prod fun x hx => (h2 x hx).1, Nat.pow_mul]
    exact Nat.pow_le_pow_left (bits20 fun x hx => (h2 x hx).2) e
theorem lack_mod (m : Nat) {e : Nat} (he : 1 ≤ e) : (0 - (m : Int)) % (e : Int) = ((lackE m e : Nat) : Int) := by
  unfold lackE
  have h1 : m % e < e := Nat.mod_lt _ (by omega)
  have h2 : (e - m % e) % e < e := Nat.mod_lt _ (by omega)
  have h3 := Nat.div_add_mod m e
  have h4 := Nat.div_add_mod (e - m % e) e
  have h5 : 0 - (m : Int) = (((e - m % e) % e : Nat) : Int) + (e : Int) * ((((e - m % e) / e : Nat) : Int) - ((m / e : Nat) : Int) - 1) := by
    have h6 : (m : Int) = (e : Int) * ((m / e : Nat) : Int) + ((m % e : Nat) : Int) := by
      have := congrArg (fun n : Nat => (n : Int)) h3.symm
      push_cast at this ⊢
      exact this
    have h7 : (((e - m % e : Nat) : Int)) = (e : Int) * (((e - m % e) / e : Nat) : Int) + (((e - m % e) % e : Nat) : Int) := by
      have := congrArg (fun n : Nat => (n : Int)) h4.symm
      push_cast at this ⊢
      exact this
    have h8 : ((e - m % e : Nat) : Int) = (e : Int) - ((m % e : Nat) : Int) := by omega
    rw [h8] at h7
    generalize ((m / e : Nat) : Int) = q at *
    generalize (((e - m % e) / e : Nat) : Int) = q2 at *
    generalize (((e - m % e) % e : Nat) : Int) = r2 at *
    generalize ((m % e : Nat) : Int) = r1 at *
    rw [h6]
    grind
  rw [h5, Int.add_mul_emod_self_left]
  exact Int.emod_eq_of_lt (by omega) (by omega)
end Pn
namespace Pn
open PySem PySem.Spec PyProof.Rows L2
/-! ### what a product tells -/
/-- a list of the numbers, the exponent, what lacks -/
def StAt (H : Hp) (t : Addr) (ys : List Int) (E R : Nat) : Prop := ∃ u, H t = some (.lst [.ref u, .int (E : Int), .int (R : Int)]) ∧ H u = some (.tup (ys.map V.int))
theorem StAt.same {H H' : Hp} {t : Addr} {ys : List Int} {E R : Nat} (h : StAt H t ys E R) (s : Same H H') : StAt H' t ys E R := by
  obtain ⟨u, h1, h2⟩ := h
  exact ⟨u, s _ _ h1, s _ _ h2⟩
def dS (ys : List Int) (E R : Nat) : PyData := .list [.tuple (dI ys), .int (E : Int), .int (R : Int)]
theorem dp_s {K : PySem.W.Frag} {H : Hp} {t : Addr} {ys : List Int} {E R : Nat} (h : StAt H t ys E R) : Dp K H (.ref t) (dS ys E R) := by
  obtain ⟨u, h1, h2⟩ := h
  exact .lst (SqL.of h1) (.cons (.tup (SqT.of h2) (dpAll_ints ys)) (.cons (.int _) (.cons (.int _) .nil)))
theorem sh_s (ys : List Int) (E R : Nat) : SeqAt.shaped (dS ys E R) = true := by
  unfold SeqAt.shaped dS
  simp [PyData.canLay0, PyData.canLayAll0, PyData.depth, PyData.depthAll, canLay_ints, depth_ints]
theorem eqv_s (ys : List Int) (E R : Nat) (ys' : List Int) (E' R' : Nat) : PyData.eqv (dS ys E R) (dS ys' E' R') = decide (ys = ys' ∧ E = E' ∧ R = R') := by
  unfold dS
  rw [PyData.eqv]
  simp only [PyData.eqvAll, PyData.eqv, eqv_ints, Bool.and_true]
  rw [Bool.decide_and, Bool.decide_and, Bool.beq_eq_decide_eq, Bool.beq_eq_decide_eq]
  simp only [Int.natCast_inj]
section
variable {K : PySem.W.Frag} {H : Hp} {Q : VK} {t t' : Addr} {ys ys' : List Int} {E R E' R' : Nat}
theorem r_neS (h : StAt H t ys E R) (h' : StAt H t' ys' E' R') (q : Q (.bl (!decide (ys = ys' ∧ E = E' ∧ R = R'))) H) : rNeD K (.ref t) (.ref t') H Q :=
  ⟨_, _, dp_s h, dp_s h', sh_s _ _ _, sh_s _ _ _, by rw [eqv_s]; exact q⟩
theorem r_eqS (h : StAt H t ys E R) (h' : StAt H t' ys' E' R') (q : Q (.bl (decide (ys = ys' ∧ E = E' ∧ R = R'))) H) : rEqD K (.ref t) (.ref t') H Q :=
  ⟨_, _, dp_s h, dp_s h', sh_s _ _ _, sh_s _ _ _, by rw [eqv_s]; exact q⟩
end
/-- this is so of the numbers L -/
structure Tells (L : List Nat) (e : Nat) (ys : List Int) (E R : Nat) : Prop where
  pm : ys.Perm (ofN L)
  so : ys.Pairwise (· ≤ ·)
  ex : IsExp (pfs L) E
  la : IsLack (pfs L) e R
theorem sorted_one {ys zs : List Int} (h1 : ys.Pairwise (· ≤ ·)) (h2 : zs.Pairwise (· ≤ ·)) (h : ys.Perm zs) : ys = zs := List.Perm.eq_of_pairwise (fun a b _ _ h1 h2 => Int.le_antisymm h1 h2) h1 h2 h
theorem Tells.one {L L' : List Nat} {e : Nat} {ys ys' : List Int} {E R E' R' : Nat} (h : Tells L e ys E R) (h' : Tells L' e ys' E' R') (p : L.Perm L') : ys = ys' ∧ E = E' ∧ R = R' :=
  ⟨sorted_one h.so h'.so (h.pm.trans ((p.map _).trans h'.pm.symm)), isExp_unique (isExp_perm (pfs_perm p) h.ex) h'.ex, isLack_unique (isLack_perm (pfs_perm p) h.la) h'.la⟩
theorem greatest_exp {N e : Nat} (hN : 1 ≤ N) (h : IsExp (pf N) e) : (greatestN N).2 = e := by
  rcases (by omega : N = 1 ∨ 2 ≤ N) with rfl | h2
  · rw [h.1 pf_1]
    rfl
  · obtain ⟨⟨b, hb⟩, hm⟩ := exp_pow h2 h
    have he1 : 1 ≤ e := (h.2 fun c => by rw [(pf_nil hN).mp c] at h2; omega).1
    have lt2 : ∀ {b e'}, 1 ≤ e' → N = b ^ e' → 2 ≤ b := fun {b e'} he' hbe => by
      rcases (by omega : b = 0 ∨ b = 1 ∨ 2 ≤ b) with c | c | c
      · subst c
        rw [Nat.zero_pow (by omega)] at hbe
        omega
      · subst c
        rw [Nat.one_pow] at hbe
        omega
      · exact c
    rcases (by omega : e = 1 ∨ 2 ≤ e) with rfl | he
    · rw [greatest_none h2 fun e' he' _ hr => ?_]
      have := hm e' (by omega) ⟨_, hr.symm⟩
      omega
    · have hb2 := lt2 he1 hb
      have e2 : rootN N e ^ e = N := by
        have h5 : rootN (b ^ e) e = b := rootN_pow he1
        rw [← hb] at h5
        rw [h5]
        exact hb.symm
      rw [greatest_of h2 he (by rw [hb]; exact Nat.pow_le_pow_left hb2 e) e2 fun e' h3 _ hr => ?_]
      have := hm e' (by omega) ⟨_, hr.symm⟩
      omega
/-- the root leaves nothing of a power, and something of another number -/
theorem rest_iff {n e r : Nat} (he : 1 ≤ e) (h1 : r ^ e ≤ n) (h2 : n < (r + 1) ^ e) : n - r ^ e = 0 ↔ ∃ b, n = b ^ e := by
  constructor
  · intro h
    exact ⟨r, by omega⟩
  · rintro ⟨b, rfl⟩
    have := rootN_is he h1 h2
    rw [rootN_pow he] at this
    rw [this, Nat.sub_self]
end Pn
/-! Dsk: a desk, its kept product; texts compared; dicts' keys walked. -/
namespace Pn
open PySem PySem.Spec PyProof.Rows L2 TL
/-! ### loops and comprehensions over a locked dict's keys -/
section
variable {σ : L2.St} {H : Hp} {Q : VK} {D : Ends} {K : PySem.W.Frag} {te td : TE} {tt : TT} {s1 : TS} {g : TG} {vs : List Nat}
theorem w_forK : tFor (iKeys td) g s1 D σ H = td σ H fun x H1 => ∃ d o, x = .ref d ∧ ((∃ kvs, H1 d = some (.frz o (.dK kvs)) ∧ FJ (Itk d o kvs) g s1 D σ H1) ∨ ∃ kvs, H1 d = some (.frz o (.dT kvs)) ∧ FJ (Itkt d o kvs) g s1 D σ H1) := rfl
theorem w_dIn {ta tb : TE} : tDIn ta tb σ H Q = ta σ H fun y H1 => tb σ H1 fun x H2 => ∃ a o, x = .ref a ∧ DGet H2 a y o ∧ Q (.bl o.isSome) H2 := rfl
theorem for_k {d : Addr} {o : Obj} {ks : List Nat} {f : Nat → V} (Pv : Nat → L2.St → Hp → Prop) (h0 : Pv 0 σ H) (hl : ∀ i σ H, i ≤ ks.length → Pv i σ H → H d = some (.frz o (.dK (dN ks f))))
    (hs : ∀ i k σ H, ks[i]? = some k → i < ks.length → Pv i σ H → ∀ N : L2.St → Hp → Prop, (∀ σ' H', Pv (i + 1) σ' H' → N σ' H') → g (.int (k : Int)) σ H fun σ2 H2 => s1 { D with nx := N, ct := N, bk := D.nx } σ2 H2)
    (hd : ∀ σ H, Pv ks.length σ H → D.nx σ H) : FJ (Itk d o (dN ks f)) g s1 D σ H := by
  have el : (dN ks f).length = ks.length := dN_len ks f
  refine for_it (n := ks.length) (G := fun H => H d = some (.frz o (.dK (dN ks f)))) (Y := fun i H x H' => H' = H ∧ ∃ k : Nat, x = .int (k : Int) ∧ ks[i]? = some k) ?_ Pv h0 hl ?_ hd
  · refine ⟨fun i H hi q => ⟨q, by rw [el]; exact hi⟩, fun H q => ⟨q, by rw [el]; exact Nat.le_refl _⟩, fun i H x H' hi q y => ?_⟩
    obtain ⟨h0, k, v, h1, h2⟩ := y
    unfold dN at h1
    rw [List.getElem?_map] at h1
    cases e : ks[i]? with
    | none =>
      rw [e] at h1
      cases h1
    | some n =>
      rw [e] at h1
      cases h1
      exact ⟨h0, n, h2, rfl⟩
  · rintro i x σ H H' hi p ⟨rfl, k, rfl, hk⟩
    exact hs i k σ _ hk hi p _ fun _ _ z => z
theorem lc_kI {d : Addr} {o : Obj} {ks : List Nat} {f : Nat → V} (Pv : Nat → List V → Hp → Prop) (h0 : ∀ D, H D = none → Pv 0 [] (upd H D (.lst []))) (hl : ∀ i acc H', i ≤ ks.length → Pv i acc H' → H' d = some (.frz o (.dK (dN ks f))))
    (hs : ∀ (i k : Nat) (acc : List V) (D : Addr) (H' : Hp), ks[i]? = some k → H D = none → H' D = some (.lst acc) → Pv i acc H' → ∀ (N0 : Hp → Prop) (N1 : VK), (∀ H2, H2 D = some (.lst acc) → Pv (i + 1) acc H2 → N0 H2) →
      (∀ y H2, H2 D = some (.lst acc) → acc.length < sizeLine → Pv (i + 1) (acc ++ [y]) (upd H2 D (.lst (acc ++ [y]))) → N1 y H2) →
      g (.int (k : Int)) (wipe σ vs) H' fun σ2 H2 => wipe σ2 vs = wipe σ vs ∧ tt σ2 H2 fun b H3 => if b = true then te σ2 H3 N1 else N0 H3)
    (q : ∀ D acc H', H D = none → H' D = some (.lst acc) → Pv ks.length acc H' → Q (.ref D) H') : LJ (Itk d o (dN ks f)) g tt te vs σ H Q := by
  intro D hD
  have el : (dN ks f).length = ks.length := dN_len ks f
  refine ⟨fun j left Hw => left + j = ks.length ∧ ∃ acc, Hw D = some (.lst acc) ∧ Pv j acc Hw, ⟨ks.length, Nat.add_zero _, [], upd_same, h0 D hD⟩, fun j left Hw => ?_⟩
  rintro ⟨ej, acc, p1, p2⟩
  rcases Nat.eq_zero_or_pos left with h0 | h0
  · left
    have e : j = ks.length := by omega
    subst e
    exact ⟨⟨hl _ _ _ (Nat.le_refl _) p2, by rw [el]; exact Nat.le_refl _⟩, q D acc Hw hD p1 p2⟩
  · right
    have hj : j < ks.length := by omega
    refine ⟨⟨hl _ _ _ (Nat.le_of_lt hj) p2, by rw [el]; exact hj⟩, fun Hz => ∃ acc, Hz D = some (.lst acc) ∧ Pv (j + 1) acc Hz, fun Hz hz => ⟨left - 1, by omega, by omega, hz⟩, fun x Hy hy => ?_⟩
    obtain ⟨e1, k, v, h1, h2⟩ := hy
    subst e1
    unfold dN at h1
    rw [List.getElem?_map] at h1
    cases e : ks[j]? with
    | none =>
      rw [e] at h1
      cases h1
    | some n =>
      rw [e] at h1
      cases h1
      subst h2
      exact hs j n acc D Hy e hD p1 p2 _ _ (fun H2 e h => ⟨acc, e, h⟩) fun y H2 e hl h => ⟨acc, e, hl, _, upd_same, h⟩
end
section
variable {σ : L2.St} {H : Hp} {Q : VK} {K : PySem.W.Frag} {te : TE} {tt : TT} {g : TG} {vs : List Nat}
theorem lc_tI {a : Addr} {xs : List V} (Pv : Nat → List V → Hp → Prop) (h0 : ∀ D, H D = none → Pv 0 [] (upd H D (.lst []))) (hl : ∀ i acc H', i ≤ xs.length → Pv i acc H' → SqT K H' a xs)
    (hs : ∀ (i : Nat) (x : V) (acc : List V) (D : Addr) (H' : Hp), xs[i]? = some x → H D = none → H' D = some (.lst acc) → Pv i acc H' → ∀ (N0 : Hp → Prop) (N1 : VK), (∀ H2, H2 D = some (.lst acc) → Pv (i + 1) acc H2 → N0 H2) →
      (∀ y H2, H2 D = some (.lst acc) → acc.length < sizeLine → Pv (i + 1) (acc ++ [y]) (upd H2 D (.lst (acc ++ [y]))) → N1 y H2) →
      g x (wipe σ vs) H' fun σ2 H2 => wipe σ2 vs = wipe σ vs ∧ tt σ2 H2 fun b H3 => if b = true then te σ2 H3 N1 else N0 H3)
    (q : ∀ D acc H', H D = none → H' D = some (.lst acc) → Pv xs.length acc H' → Q (.ref D) H') : LJ (Itt K a) g tt te vs σ H Q := by
  intro D hD
  refine lc_tup (K := K) (a := a) (xs := xs) (fun i H' => ∃ acc, H' D = some (.lst acc) ∧ Pv i acc H') ⟨[], upd_same, h0 D hD⟩ (fun i H' hi ⟨acc, _, p⟩ => hl i acc H' hi p) ?_ ?_
  · rintro i x H' hi ⟨acc, p1, p2⟩
    exact hs i x acc D H' hi hD p1 p2 _ _ (fun H2 e h => ⟨acc, e, h⟩) fun y H2 e hl h => ⟨acc, e, hl, _, upd_same, h⟩
  · rintro H' ⟨acc, p1, p2⟩
    exact q D acc H' hD p1 p2
end
/-! ### dict(pairs) -/
theorem merge_dN (f : Nat → V) : ∀ (ks r : List Nat), (r ++ ks).Nodup → mergeK (dN r f) (dN ks f) = dN (r ++ ks) f
  | [], r, _ => by
    rw [List.append_nil]
    rfl
  | k :: ks, r, h => by
    have h1 : k ∉ r := fun z => by
      rw [List.nodup_append] at h
      exact h.2.2 k z k List.mem_cons_self rfl
    have h2 : (r ++ [k] ++ ks).Nodup := by rwa [List.append_assoc, List.singleton_append]
    have e : putK (dN r f) (Sum.inl (k : Int)) (f k) = dN (r ++ [k]) f := by
      rw [putK_new (f k) (by rw [dN_val, if_neg h1])]
      simp [dN]
    have ih := merge_dN f ks (r ++ [k]) h2
    rw [List.append_assoc, List.singleton_append] at ih
    rw [← ih, ← e]
    rfl
/-! ### texts that are compared -/
def dX (ys : List PySem.Str) : List PyData := ys.map PyData.str
theorem dpAll_texts {K : PySem.W.Frag} {H : Hp} : ∀ ys : List PySem.Str, DpAll K H (ys.map V.str) (dX ys)
  | [] => .nil
  | y :: r => .cons (.str y) (dpAll_texts r)
theorem canLay_texts : ∀ ys : List PySem.Str, (∀ y ∈ ys, PyData.strOk y = true) → PyData.canLayAll0 (dX ys) = true
  | [], _ => by simp [dX, PyData.canLayAll0]
  | y :: r, h => by
    have := canLay_texts r fun z hz => h z (List.mem_cons_of_mem _ hz)
    have h0 := h y List.mem_cons_self
    simp only [dX] at this ⊢
    simp [PyData.canLayAll0, PyData.canLay0, this, h0]
theorem depth_texts : ∀ ys : List PySem.Str, PyData.depthAll (dX ys) = 0
  | [] => by simp [dX, PyData.depthAll]
  | n :: r => by
    have := depth_texts r
    simp only [dX] at this ⊢
    simp [PyData.depthAll, PyData.depth, this]
theorem eqv_texts : ∀ ns ms : List PySem.Str, PyData.eqvAll (dX ns) (dX ms) = decide (ns = ms)
  | [], [] => by simp [dX, PyData.eqvAll]
  | [], _ :: _ => by simp [dX, PyData.eqvAll]
  | _ :: _, [] => by simp [dX, PyData.eqvAll]
  | n :: r, m :: t => by
    have := eqv_texts r t
    simp only [dX] at this ⊢
    simp only [List.map_cons, PyData.eqvAll, PyData.eqv, this, List.cons.injEq]
    rw [Bool.decide_and, Bool.beq_eq_decide_eq]
theorem sh_lX {ys : List PySem.Str} (h : ∀ y ∈ ys, PyData.strOk y = true) : SeqAt.shaped (.list (dX ys)) = true := by
  unfold SeqAt.shaped
  simp [PyData.canLay0, PyData.depth, canLay_texts ys h, depth_texts]
section
variable {K : PySem.W.Frag} {H : Hp} {Q : VK} {a b : Addr}
def Oks (ys : List PySem.Str) : Prop := ∀ y ∈ ys, PyData.strOk y = true
theorem r_eqLX {ns ms : List PySem.Str} (hx : SqL K H a (ns.map V.str)) (hy : SqL K H b (ms.map V.str)) (h1 : Oks ns) (h2 : Oks ms) (q : Q (.bl (decide (ns = ms))) H) : rEqD K (.ref a) (.ref b) H Q :=
  ⟨.list (dX ns), .list (dX ms), .lst hx (dpAll_texts ns), .lst hy (dpAll_texts ms), sh_lX h1, sh_lX h2, by rw [PyData.eqv, eqv_texts]; exact q⟩
theorem r_neLX {ns ms : List PySem.Str} (hx : SqL K H a (ns.map V.str)) (hy : SqL K H b (ms.map V.str)) (h1 : Oks ns) (h2 : Oks ms) (q : Q (.bl (!decide (ns = ms))) H) : rNeD K (.ref a) (.ref b) H Q :=
  ⟨.list (dX ns), .list (dX ms), .lst hx (dpAll_texts ns), .lst hy (dpAll_texts ms), sh_lX h1, sh_lX h2, by rw [PyData.eqv, eqv_texts]; exact q⟩
end
theorem ok_sN (n : Nat) : PyData.strOk (sN n) = true := ok_of (sN_low n)
theorem ok_app {x y : PySem.Str} (h1 : ∀ c ∈ tl x, c < 128) (h2 : ∀ c ∈ tl y, c < 128) : ∀ c ∈ tl (x ++ y), c < 128 := fun c hc => by
  rw [tl_append] at hc
  exact (List.mem_append.mp hc).elim (h1 c) (h2 c)
/-! ### a desk -/
/-- a desk at q, its product at p -/
def DK (K : PySem.W.Frag) (H : Hp) (q p : Addr) : Prop := ∃ C dx, KCl K "Desk" ["kept"] C ∧ H q = some (.ins C dx (putF "kept" (.ref p) []))
theorem dkF (p : Addr) : (putF "kept" (.ref p) []).lookup ("kept" : PySem.Str) = some (.ref p) := by
  rw [lookup_putF, if_pos rfl]
theorem dkF_no (p : Addr) {m : PySem.Str} (h1 : ¬ m = "kept") : (putF "kept" (.ref p) []).lookup m = none := by
  rw [lookup_putF, if_neg h1]
  rfl
theorem DK.fld {K : PySem.W.Frag} {H : Hp} {q p : Addr} {Q : VK} (h : DK K H q p) (k : Q (.ref p) H) : rFld K "kept" (.ref q) H Q := by
  obtain ⟨C, dx, hC, hq⟩ := h
  exact ⟨q, C, dx, _, _, rfl, hq, hC.cl, hC.no _ (by simp), dkF p, k⟩
theorem DK.isO {K : PySem.W.Frag} {H : Hp} {q p : Addr} {m : PySem.Str} (h : DK K H q p) (h1 : ¬ m = "kept") : IsO K "Desk" m (.ref q) H := by
  obtain ⟨C, dx, hC, hq⟩ := h
  exact ⟨q, C, dx, _, rfl, hq, hC.ns, dkF_no p h1⟩
theorem DK.same {K : PySem.W.Frag} {H H' : Hp} {q p : Addr} (h : DK K H q p) (s : Same H H') : DK K H' q p := let ⟨C, dx, hC, hq⟩ := h; ⟨C, dx, hC, s _ _ hq⟩
theorem DK.kp {K : PySem.W.Frag} {H H' : Hp} {q p a : Addr} (h : DK K H q p) (s : Kp a H H') (n : q ≠ a) : DK K H' q p := let ⟨C, dx, hC, hq⟩ := h; ⟨C, dx, hC, s _ _ n hq⟩
theorem DK.k2 {K : PySem.W.Frag} {H H' : Hp} {q p a b : Addr} (h : DK K H q p) (s : K2 a b H H') (n : q ≠ a) (n2 : q ≠ b) : DK K H' q p := let ⟨C, dx, hC, hq⟩ := h; ⟨C, dx, hC, s _ _ n n2 hq⟩
theorem DK.ne {K : PySem.W.Frag} {H : Hp} {q p b : Addr} {u : HO} (h : DK K H q p) (hb : H b = some u) (hu : ∀ C dx fs, u ≠ .ins C dx fs) : q ≠ b := let ⟨C, dx, hC, hq⟩ := h; ne_of hq hb fun e => hu _ _ _ e.symm
/-- a desk whose product holds the numbers L -/
structure DO (K : PySem.W.Frag) (H : Hp) (q p ln lo : Addr) (L : List Nat) : Prop where
  dk : DK K H q p
  kp : KP K H p ln lo L
theorem DO.same {K : PySem.W.Frag} {H H' : Hp} {q p ln lo : Addr} {L : List Nat} (h : DO K H q p ln lo L) (s : Same H H') : DO K H' q p ln lo L := ⟨h.dk.same s, h.kp.same s⟩
theorem DO.ne {K : PySem.W.Frag} {H : Hp} {q p ln lo : Addr} {L : List Nat} (h : DO K H q p ln lo L) : q ≠ ln ∧ q ≠ lo := by
  obtain ⟨ks, hc⟩ := h.kp.cd
  exact ⟨h.dk.ne h.kp.ns (fun _ _ _ e => by cases e), h.dk.ne hc.at_ (fun _ _ _ e => by cases e)⟩
theorem DO.to {K : PySem.W.Frag} {H H' : Hp} {q p ln lo : Addr} {L L' : List Nat} (h : DO K H q p ln lo L) (k : K2 ln lo H H') (hk : KP K H' p ln lo L') : DO K H' q p ln lo L' := ⟨h.dk.k2 k h.ne.1 h.ne.2, hk⟩
/-- what else changes is none of the desk's -/
theorem DO.keep {K : PySem.W.Frag} {H H' : Hp} {q p ln lo a b : Addr} {L : List Nat} (h : DO K H q p ln lo L) (k : K2 a b H H') (ha : ∃ xs, H a = some (.lst xs)) (hb : ∃ xs, H b = some (.lst xs)) (n1 : ln ≠ a) (n2 : ln ≠ b) : DO K H' q p ln lo L := by
  obtain ⟨xs, ha⟩ := ha
  obtain ⟨ys, hb⟩ := hb
  obtain ⟨ks, hc⟩ := h.kp.cd
  exact ⟨h.dk.k2 k (h.dk.ne ha fun _ _ _ e => by cases e) (h.dk.ne hb fun _ _ _ e => by cases e),
    h.kp.k2 k (h.kp.ob.ne ha fun _ _ _ e => by cases e) (h.kp.ob.ne hb fun _ _ _ e => by cases e) n1 n2 (ne_of hc.at_ ha fun e => by cases e) (ne_of hc.at_ hb fun e => by cases e)⟩
/-! ### lines -/
/-- a word, a blank, a number -/
def ln2 (w : PySem.Str) (n : Nat) : PySem.Str := w ++ " " ++ sN n
def prodW (e : Nat) : PySem.Str := if 1 < e then "power " ++ sN e else "none"
def rowsW (ys : List Int) : List PySem.Str := if ys = [] then [] else [Str.join " " (ys.map fun y => Str.ofString (toString y))]
/-- what a desk with the numbers L tells to a line -/
inductive Ask (L : List Nat) : PySem.Str → List PySem.Str → Prop
  | numbers (ys : List Int) : ys.Perm (ofN L) → ys.Pairwise (· ≤ ·) → Ask L "numbers" (rowsW ys)
  | product (e : Nat) : IsExp (pfs L) e → Ask L "product" [prodW e]
  | lacks (e r : Nat) : 2 ≤ e → e ≤ 10 → IsLack (pfs L) e r → Ask L (ln2 "lacks" e) [sN r]
theorem Ask.perm {L L' : List Nat} {z : PySem.Str} {ys : List PySem.Str} (h : Ask L z ys) (p : L.Perm L') : Ask L' z ys := by
  cases h with
  | numbers ys h1 h2 => exact .numbers ys (h1.trans (p.map _)) h2
  | product e h1 => exact .product e (isExp_perm (pfs_perm p) h1)
  | lacks e r h1 h2 h3 => exact .lacks e r h1 h2 (isLack_perm (pfs_perm p) h3)
theorem low_join : ∀ ys : List PySem.Str, (∀ y ∈ ys, ∀ c ∈ tl y, c < 128) → ∀ c ∈ tl (Str.join " " ys), c < 128
  | [], _ => fun c hc => by cases hc
  | [x], h => fun c hc => h x List.mem_cons_self c (by simpa [Str.join] using hc)
  | x :: y :: r, h => by
    have ih := low_join (y :: r) fun z hz => h z (List.mem_cons_of_mem _ hz)
    show ∀ c ∈ tl (x ++ " " ++ Str.join " " (y :: r)), c < 128
    exact ok_app (ok_app (h x List.mem_cons_self) (by rw [tl_blank]; decide)) ih
theorem Ask.oks {L : List Nat} {z : PySem.Str} {ys : List PySem.Str} (h : Ask L z ys) : Oks ys := by
  cases h with
  | numbers ys h1 h2 =>
    unfold rowsW
    split
    · intro y hy
      cases hy
    · intro y hy
      rw [List.mem_singleton] at hy
      subst hy
      refine ok_of (low_join _ fun y hy => ?_)
      obtain ⟨i, hi, rfl⟩ := List.mem_map.mp hy
      have hm := h1.mem_iff.mp hi
      unfold ofN at hm
      obtain ⟨n, _, rfl⟩ := List.mem_map.mp hm
      exact sN_low n
  | product e h1 =>
    intro y hy
    rw [List.mem_singleton] at hy
    subst hy
    unfold prodW
    split
    · exact ok_of (ok_app (by decide +kernel) (sN_low e))
    · decide +kernel
  | lacks e r h1 h2 h3 =>
    intro y hy
    rw [List.mem_singleton] at hy
    subst hy
    exact ok_sN r
/-! ### what was told and is held -/
/-- pairs of lists of texts, alike, stand at the addresses xs, which are held at h -/
structure Held (H : Hp) (h ln : Addr) (xs : List Addr) : Prop where
  at_ : H h = some (.lst (xs.map V.ref))
  all : ∀ x ∈ xs, ∃ (t d : Addr) (ys : List PySem.Str), H x = some (.tup [.ref t, .ref d]) ∧ H t = some (.lst (ys.map V.str)) ∧ H d = some (.lst (ys.map V.str)) ∧ Oks ys ∧ t ≠ ln ∧ d ≠ ln
  ne : h ≠ ln
/-- what changes is a list of numbers, a dict, the list of the product -/
theorem Held.keep {H H' : Hp} {h ln a lo : Addr} {xs : List Addr} (q : Held H h ln xs) (ha : Sd H a) (hlo : ∃ kvs, H lo = some (.dK kvs)) (hln : ∃ ys, H ln = some (.lst ys)) (k : ∀ b o, b ≠ a → b ≠ ln → b ≠ lo → H b = some o → H' b = some o) : Held H' h ln xs := by
  obtain ⟨x0, x1, x2, x3, ha⟩ := ha
  obtain ⟨kvs, hlo⟩ := hlo
  obtain ⟨zs, hln⟩ := hln
  refine ⟨k _ _ (ne_of q.at_ ha fun e => ?_) q.ne (ne_of q.at_ hlo fun e => by cases e) q.at_, fun x hx => ?_, q.ne⟩
  · injection e with e
    cases xs with
    | nil => cases e
    | cons x xs =>
      rw [List.map_cons] at e
      injection e with e
      cases e
  · obtain ⟨t, d, ys, h1, h2, h3, h4, h5, h6⟩ := q.all x hx
    have no : ∀ u : Addr, H u = some (.lst (ys.map V.str)) → u ≠ a ∧ u ≠ lo := fun u hu => ⟨ne_of hu ha fun e => by
      injection e with e
      cases ys with
      | nil => cases e
      | cons y ys =>
        rw [List.map_cons] at e
        injection e with e
        (cases e), ne_of hu hlo fun e => by cases e⟩
    exact ⟨t, d, ys, k _ _ (ne_of h1 ha fun e => by cases e) (ne_of h1 hln fun e => by cases e) (ne_of h1 hlo fun e => by cases e) h1, k _ _ (no t h2).1 h5 (no t h2).2 h2, k _ _ (no d h3).1 h6 (no d h3).2 h3, h4, h5, h6⟩
/-! ### rows of numbers -/
def txtI : V → Option V
  | .int i => some (.str (Str.ofString (toString i)))
  | _ => none
theorem filt_txt : ∀ ys : List Int, (ys.map V.int).filterMap txtI = (ys.map fun y => Str.ofString (toString y)).map V.str
  | [] => rfl
  | y :: r => by
    have ih := filt_txt r
    rw [List.map_cons, List.filterMap_cons]
    show (V.str (Str.ofString (toString y)) :: (r.map V.int).filterMap txtI) = _
    rw [ih]
    rfl
theorem sum_len {k : Nat} : ∀ {ys : List PySem.Str}, (∀ y ∈ ys, y.length ≤ k) → (ys.map (·.length)).sum ≤ k * ys.length
  | [], _ => Nat.zero_le _
  | y :: r, h => by
    have ih := sum_len (ys := r) fun z hz => h z (List.mem_cons_of_mem _ hz)
    have h0 := h y List.mem_cons_self
    simp only [List.map_cons, List.sum_cons, List.length_cons, Nat.mul_add, Nat.mul_one]
    omega
/-- the texts of small numbers are short -/
theorem txt_len {L : List Nat} {ys : List Int} (p : ys.Perm (ofN L)) (h : ∀ x ∈ L, x ≤ 1000000) (hl : L.length ≤ 1000) : ((ys.map fun y => Str.ofString (toString y)).map (·.length)).sum + (ys.map fun y => Str.ofString (toString y)).length * (" " : PySem.Str).length ≤ 16777216 := by
  have h1 := sum_len (k := 7) (ys := ys.map fun y => Str.ofString (toString y)) fun z hz => by
    obtain ⟨i, hi, rfl⟩ := List.mem_map.mp hz
    have hm := p.mem_iff.mp hi
    unfold ofN at hm
    obtain ⟨n, hn, rfl⟩ := List.mem_map.mp hm
    exact sN_len (n := n) (by decide) (Nat.lt_of_le_of_lt (h n hn) (by decide))
  have h2 : (ys.map fun y => Str.ofString (toString y)).length = L.length := by
    rw [List.length_map, p.length_eq, ofN_len]
  have h3 : (" " : PySem.Str).length = 1 := by decide +kernel
  rw [h2] at h1 ⊢
  rw [h3]
  omega
theorem sN_no_sign {n c : Nat} (h : c ∈ tl (sN n)) : c ∈ tl ("0123456789" : PySem.Str) := by
  rw [tl_sN] at h
  exact (fig_mem c).mpr (numL_digits n c h)
theorem sN_ne (n : Nat) : sN n ≠ "" := fun h => by
  have h1 := sN_pos n
  have h2 : ("" : PySem.Str).length = 0 := by decide +kernel
  rw [h, h2] at h1
  omega
/-- a nought stands ahead of 0 alone -/
theorem sN_head {n c : Nat} (h : (tl (sN n))[0]? = some c) (hc : c = 48) : n = 0 := by
  rw [tl_sN, hc] at h
  exact numL_head n h
theorem sN_zero : sN 0 = "0" := str_ext (by decide +kernel)
/-- the exponent is one of a count -/
theorem exp_le {L : List Nat} {e : Nat} (h : IsExp (pfs L) e) (hr : ∀ x ∈ L, 1 ≤ x ∧ x ≤ 1000000) (hl : L.length ≤ 1000) : e ≤ 20000 := by
  by_cases c : pfs L = []
  · rw [h.1 c]
    omega
  · obtain ⟨h1, h2⟩ := h.2 c
    obtain ⟨p, hp⟩ := List.exists_mem_of_ne_nil _ c
    have h3 := (h2 e).mp (Nat.dvd_refl e) p hp
    have h4 : 0 < (pfs L).count p := List.count_pos_iff.mpr hp
    have h5 := Nat.le_of_dvd h4 h3
    have h6 : (pfs L).count p ≤ (pfs L).length := List.count_le_length
    have h7 : ∀ l : List Nat, (∀ x ∈ l, 1 ≤ x ∧ x ≤ 1000000) → (pfs l).length ≤ 20 * l.length := by
      intro l
      induction l with
      | nil => intro _; exact Nat.le_refl _
      | cons a l ih =>
        intro hl
        have e : pfs (a :: l) = pf a ++ pfs l := rfl
        rw [e, List.length_append, List.length_cons]
        have := pf_len (hl a List.mem_cons_self).1 (hl a List.mem_cons_self).2
        have := ih fun x hx => hl x (List.mem_cons_of_mem _ hx)
        omega
    have := h7 L hr
    omega
theorem fm_none {α : Type} : ∀ xs : List α, xs.filterMap (fun _ => (none : Option V)) = []
  | [] => rfl
  | x :: r => by
    rw [List.filterMap_cons, fm_none r]
/-! ### a text in a row of texts -/
theorem inV_texts (a : PySem.Str) : ∀ ys : List PySem.Str, inV (.str a) (ys.map V.str) = decide (a ∈ ys)
  | [] => by simp [inV]
  | y :: r => by
    have ih := inV_texts a r
    unfold inV at ih ⊢
    rw [List.map_cons, List.any_cons, ih]
    simp only [List.mem_cons, Bool.decide_or]
    congr 1
    exact decide_eq_decide.mpr ⟨fun h => h.symm, fun h => h.symm⟩
theorem flat_texts (ys : List PySem.Str) : (ys.map V.str).all flatV = true := by
  rw [List.all_eq_true]
  intro x hx
  obtain ⟨i, _, rfl⟩ := List.mem_map.mp hx
  rfl
theorem r_inX {K : PySem.W.Frag} {H : Hp} {Q : VK} {a : PySem.Str} {ys : List PySem.Str} {p : Addr} (h : SqT K H p (ys.map V.str)) (q : Q (.bl (decide (a ∈ ys))) H) : rIn K false (.str a) (.ref p) H Q := by
  refine ⟨p, _, rfl, .inr h, rfl, flat_texts ys, ?_⟩
  rw [inV_texts]
  exact q
theorem sN_noblank (n : Nat) : 32 ∉ tl (sN n) := sN_blank n
theorem split_ln2 {w : PySem.Str} (hw : 32 ∉ tl w) (n : Nat) : PySem.Txt.split (ln2 w n) " " = [w, sN n] := split_two hw (sN_blank n)
theorem len_ln2 (w : PySem.Str) (n : Nat) : (ln2 w n).length = w.length + 1 + (sN n).length := by
  unfold ln2
  rw [len_app, len_app]
  have : (" " : PySem.Str).length = 1 := by decide +kernel
  omega
theorem DO.free {K : PySem.W.Frag} {H H' : Hp} {q p ln lo t : Addr} {L : List Nat} (h : DO K H' q p ln lo L) (k : K2 ln lo H H') (ht : H' t = none) : H t = none := by
  obtain ⟨ks, hc⟩ := h.kp.cd
  cases e : H t with
  | none => rfl
  | some o =>
    have := k t o (fun z => (ne_of_none h.kp.ns ht) z.symm) (fun z => (ne_of_none hc.at_ ht) z.symm) e
    rw [this] at ht
    cases ht
theorem prodL_ten : ∀ {L : List Nat}, (∀ x ∈ L, x ≤ 1000000) → prodL L ≤ 10 ^ (6 * L.length)
  | [], _ => Nat.le_refl _
  | a :: L, h => by
    have ih := prodL_ten (L := L) fun x hx => h x (List.mem_cons_of_mem _ hx)
    have e : 6 * (a :: L).length = 6 + 6 * L.length := by simp only [List.length_cons]; omega
    rw [prodL_cons, e, Nat.pow_add]
    exact Nat.mul_le_mul (h a List.mem_cons_self) ih
/-- what lacks is no longer than four thousand figures -/
theorem lack_small {L : List Nat} {e r : Nat} (h : IsLack (pfs L) e r) (he : 1 ≤ e) (he2 : e ≤ 10) (hr : ∀ x ∈ L, 1 ≤ x ∧ x ≤ 1000000) (hl : L.length ≤ 70) : r < 10 ^ 4300 := by
  obtain ⟨ks, h1, h2⟩ := nodup_of (pfs L)
  rw [h ks h1 fun p hp => (h2 p).mpr hp]
  have h3 := lack_le (l := pfs L) he h1 (fun p hp => ?_) (fun p hp => ?_)
  · rw [pfs_prod fun x hx => (hr x hx).1] at h3
    have h4 := prodL_ten fun x hx => (hr x hx).2
    have h5 : prodL L ^ e ≤ (10 ^ (6 * L.length)) ^ e := Nat.pow_le_pow_left h4 e
    rw [← Nat.pow_mul] at h5
    have h6 : 6 * L.length * e ≤ 6 * 70 * 10 := Nat.mul_le_mul (by omega) he2
    have h7 : (10 : Nat) ^ (6 * L.length * e) < 10 ^ 4300 := Nat.pow_lt_pow_right (by omega) (by omega)
    exact Nat.lt_of_le_of_lt (Nat.le_trans h3 h5) h7
  · have := (pfs_mem (N := 1000000) (fun x hx => (hr x hx).2) hp).1
    omega
  · have := (pfs_mem (N := 1000000) (fun x hx => (hr x hx).2) ((h2 p).mp hp)).1
    omega
/-! ### the law's own list of numbers -/
theorem first_in {L : List Nat} {n : Nat} (h : n ∈ L) : ∃ j, (ofN L)[j]? = some (n : Int) ∧ (∀ m, m < j → (ofN L)[m]? ≠ some (n : Int)) ∧ (ofN L).eraseIdx j = ofN (L.eraseIdx j) ∧ L.Perm (n :: L.eraseIdx j) := by
  induction L with
  | nil => cases h
  | cons a L ih =>
    by_cases c : a = n
    · subst c
      exact ⟨0, rfl, fun m hm => by omega, rfl, List.Perm.refl _⟩
    · have h2 : n ∈ L := by
        rcases List.mem_cons.mp h with e | e
        · exact absurd e.symm c
        · exact e
      obtain ⟨j, h3, h4, h5, h6⟩ := ih h2
      refine ⟨j + 1, h3, fun m hm => ?_, ?_, ?_⟩
      · cases m with
        | zero =>
          intro z
          have : (a : Int) = (n : Int) := Option.some.inj z
          omega
        | succ m => exact h4 m (by omega)
      · show (a : Int) :: (ofN L).eraseIdx j = (a : Int) :: ofN (L.eraseIdx j)
        rw [h5]
      · show (a :: L).Perm (n :: a :: L.eraseIdx j)
        exact (h6.cons a).trans (List.Perm.swap n a _)
/-- a sorted row of whole numbers, as it was -/
theorem perm_ofN {zs : List Int} {L : List Nat} (h : zs.Perm (ofN L)) : ∃ L' : List Nat, zs = ofN L' ∧ L'.Perm L := by
  refine ⟨zs.map Int.toNat, ?_, ?_⟩
  · unfold ofN
    rw [List.map_map]
    have : ∀ z ∈ zs, ((fun n : Nat => (n : Int)) ∘ Int.toNat) z = z := fun z hz => by
      have hm := h.mem_iff.mp hz
      unfold ofN at hm
      obtain ⟨n, _, rfl⟩ := List.mem_map.mp hm
      rfl
    conv => lhs; rw [← List.map_id zs]
    exact List.map_congr_left fun z hz => (this z hz).symm
  · have h2 := h.map Int.toNat
    have e : (ofN L).map Int.toNat = L := by
      unfold ofN
      rw [List.map_map]
      have : (Int.toNat ∘ fun n : Nat => (n : Int)) = id := by
        funext n
        rfl
      rw [this, List.map_id]
    rwa [e] at h2
theorem come_line (n : Nat) : Str.empty ++ "come " ++ Str.ofString (toString (n : Int)) = ln2 "come" n := by
  rw [empty_app]
  show ("come " : PySem.Str) ++ sN n = _
  rw [show ("come " : PySem.Str) = "come" ++ " " from str_ext (by decide +kernel)]
  rfl
theorem go_line (n : Nat) : Str.empty ++ "go " ++ Str.ofString (toString (n : Int)) = ln2 "go" n := by
  rw [empty_app]
  show ("go " : PySem.Str) ++ sN n = _
  rw [show ("go " : PySem.Str) = "go" ++ " " from str_ext (by decide +kernel)]
  rfl
theorem lacks_line (n : Nat) : Str.empty ++ "lacks " ++ Str.ofString (toString (n : Int)) = ln2 "lacks" n := by
  rw [empty_app]
  show ("lacks " : PySem.Str) ++ sN n = _
  rw [show ("lacks " : PySem.Str) = "lacks" ++ " " from str_ext (by decide +kernel)]
  rfl
theorem dvd_step2 {f : Nat → Nat} {ks : List Nat} {i m r : Nat} (h : ∀ d, d ∣ r ↔ ∀ p ∈ ks.take i, d ∣ f p) (hm : ks[i]? = some m) : ∀ d, d ∣ Nat.gcd (f m) r ↔ ∀ p ∈ ks.take (i + 1), d ∣ f p := by
  intro d
  rw [Nat.dvd_gcd_iff, h d, List.take_add_one, hm]
  constructor
  · rintro ⟨h2, h1⟩ p hp
    rcases List.mem_append.mp hp with c | c
    · exact h1 p c
    · simp at c
      exact c ▸ h2
  · intro h1
    exact ⟨h1 m (List.mem_append_right _ (by simp)), fun p hp => h1 p (List.mem_append_left _ hp)⟩
theorem pfs_take {L : List Nat} {i m : Nat} (h : L[i]? = some m) : pfs (L.take (i + 1)) = pfs (L.take i) ++ pf m := by
  rw [List.take_add_one, h, Option.toList_some, pfs_append, pfs_one]
theorem power_line (n : Nat) : Str.empty ++ "power " ++ Str.ofString (toString (n : Int)) = "power " ++ sN n := by
  rw [empty_app]
  rfl
theorem Held.same {H H' : Hp} {h ln : Addr} {xs : List Addr} (q : Held H h ln xs) (s : Same H H') : Held H' h ln xs := ⟨s _ _ q.at_, fun x hx => by
  obtain ⟨t, d, ys, h1, h2, h3, h4⟩ := q.all x hx
  exact ⟨t, d, ys, s _ _ h1, s _ _ h2, s _ _ h3, h4⟩, q.ne⟩
/-- one pair more is held -/
theorem Held.snoc {H : Hp} {h ln u t d : Addr} {xs : List Addr} {ys : List PySem.Str} (q : Held H h ln xs) (hu : H u = some (.tup [.ref t, .ref d])) (ht : H t = some (.lst (ys.map V.str))) (hd : H d = some (.lst (ys.map V.str))) (ho : Oks ys) (n1 : t ≠ ln) (n2 : d ≠ ln) (n3 : t ≠ h) (n4 : d ≠ h) :
    Held (upd H h (.lst (xs.map V.ref ++ [.ref u]))) h ln (xs ++ [u]) := by
  refine ⟨by rw [upd_same]; simp, fun x hx => ?_, q.ne⟩
  rcases List.mem_append.mp hx with c | c
  · obtain ⟨t2, d2, zs, h1, h2, h3, h4, h5, h6⟩ := q.all x c
    have no : ∀ v : Addr, H v = some (.lst (zs.map V.str)) → v ≠ h := fun v hv => ne_of hv q.at_ fun e => by
      injection e with e
      cases xs with
      | nil => cases c
      | cons y xs =>
        cases zs with
        | nil => cases e
        | cons z zs =>
          rw [List.map_cons, List.map_cons] at e
          injection e with e
          cases e
    exact ⟨t2, d2, zs, (upd_ne (ne_of h1 q.at_ fun e => by cases e)).trans h1, (upd_ne (no _ h2)).trans h2, (upd_ne (no _ h3)).trans h3, h4, h5, h6⟩
  · rw [List.mem_singleton] at c
    subst c
    exact ⟨t, d, ys, (upd_ne (ne_of hu q.at_ fun e => by cases e)).trans hu, (upd_ne n3).trans ht, (upd_ne n4).trans hd, ho, n1, n2⟩
/-! ### texts that write numbers; rows of pairs -/
def TextOf (z : PySem.Str) (n : Nat) : Prop := (tl z = numL n ∧ n < 2 ^ 1000) ∨ ∃ b e : Nat, tl z = numL b ++ 94 :: numL e ∧ b < 2 ^ 1000 ∧ e ≤ 200 ∧ n = b ^ e
theorem TextOf.noblank {z : PySem.Str} {n : Nat} (h : TextOf z n) : 32 ∉ tl z := by
  have hn : ∀ k, 32 ∉ numL k := fun k hk => by
    have := numL_digits k _ hk
    omega
  rcases h with ⟨h, _⟩ | ⟨b, e, h, _⟩
  · rw [h]
    exact hn n
  · rw [h, List.mem_append, List.mem_cons]
    rintro (c | c | c)
    · exact hn _ c
    · omega
    · exact hn _ c
theorem TextOf.len {z : PySem.Str} {n : Nat} (h : TextOf z n) : z.length ≤ 900 := by
  rcases h with ⟨h, h1⟩ | ⟨b, e, h, h1, h2, _⟩
  · rw [len_is, h]
    have := numL_short h1
    omega
  · rw [len_is, h, List.length_append, List.length_cons]
    have := numL_short h1
    have := numL_short (n := e) (Nat.lt_of_le_of_lt h2 (by decide +kernel))
    omega
/-- a word, a blank, a text -/
def lnT (w z : PySem.Str) : PySem.Str := w ++ " " ++ z
theorem len_lnT (w z : PySem.Str) : (lnT w z).length = w.length + 1 + z.length := by
  unfold lnT
  rw [len_app, len_app]
  have : (" " : PySem.Str).length = 1 := by decide +kernel
  omega
theorem split_lnT {w z : PySem.Str} (hw : 32 ∉ tl w) (hz : 32 ∉ tl z) : PySem.Txt.split (lnT w z) " " = [w, z] := split_two hw hz
theorem split_three {a b c : PySem.Str} (ha : 32 ∉ tl a) (hb : 32 ∉ tl b) (hc : 32 ∉ tl c) : PySem.Txt.split (a ++ " " ++ b ++ " " ++ c) " " = [a, b, c] := by
  have h := split_join (y := (" " : PySem.Str)) tl_blank (by decide +kernel) (parts := [a, b, c]) (by simp) (fun p hp => by
    simp only [List.mem_cons, List.not_mem_nil, or_false] at hp
    rcases hp with rfl | rfl | rfl
    · exact ha
    · exact hb
    · exact hc)
  rw [join_eq] at h
  have e : Str.join " " [a, b, c] = a ++ " " ++ b ++ " " ++ c := by
    show a ++ " " ++ (b ++ " " ++ c) = _
    refine str_ext ?_
    simp only [tl_append, List.append_assoc]
  rwa [e] at h
theorem join_one (z : PySem.Str) : PySem.Txt.join " " [z] = z := by
  rw [join_eq]
  rfl
/-- a row of two numbers, parted -/
def rowT (s : PySem.Str) (p : Int × Int) : PySem.Str := Str.ofString (toString p.1) ++ s ++ Str.ofString (toString p.2)
def yesno (b : Bool) : PySem.Str := if b = true then "yes" else "no"
def optS : Option Nat → PySem.Str
  | some n => sN n
  | none => "none"
/-- pairs of small numbers -/
def SmallP (qs : List (Int × Int)) : Prop := ∀ p ∈ qs, ∃ x y : Nat, p = ((x : Int), (y : Int)) ∧ x < 10 ^ 50 ∧ y < 10 ^ 50
theorem small_txt {x : Nat} (h : x < 10 ^ 50) : ((x : Nat) : Int).natAbs < 10 ^ 4300 ∧ (Str.ofString (toString (x : Int))).length ≤ 50 := ⟨by
  rw [Int.natAbs_natCast]
  exact Nat.lt_trans h (Nat.pow_lt_pow_right (by omega) (by omega)), sN_len (n := x) (by decide) h⟩
end Pn
/-! Dsk2: lines that ask of a text. -/
namespace Pn
open PySem PySem.Spec PyProof.Rows L2 TL
def ApartIs (d m : Nat) (qs : List (Int × Int)) : Prop := (qs.Pairwise fun x y => x.1 < y.1) ∧ ∀ p, p ∈ qs ↔ ∃ x : Nat, p = ((x : Int), ((x + d : Nat) : Int)) ∧ IsPow x ∧ IsPow (x + d) ∧ x + d ≤ m
def SumsIs (n : Nat) (qs : List (Int × Int)) : Prop := (qs.Pairwise fun x y => x.1 < y.1) ∧ ∀ p, p ∈ qs ↔ ∃ x : Nat, p = ((x : Int), ((n - x : Nat) : Int)) ∧ IsPow x ∧ IsPow (n - x) ∧ 2 * x ≤ n
/-- lines that ask of a text, and what their rows may be -/
inductive AskR : PySem.Str → (List PySem.Str → Prop) → Prop
  | nth (k : Nat) (h : k < 10 ^ 18) : AskR (ln2 "nth" k) (fun ys => ∃ m, 1 ≤ m ∧ IsPow m ∧ cntP m = k + 1 ∧ ys = [sN m])
  | is (z : PySem.Str) (n : Nat) (h : TextOf z n) (h1 : n ≤ 10 ^ 40) : AskR (lnT "is" z) (fun ys => ys = ((waysN n).map zz).map (rowT "^"))
  | count (z : PySem.Str) (n : Nat) (h : TextOf z n) (h1 : n ≤ 10 ^ 40) : AskR (lnT "count" z) (fun ys => ys = [sN (cntP n)])
  | place (z : PySem.Str) (n : Nat) (h : TextOf z n) (h1 : n ≤ 10 ^ 40) : AskR (lnT "place" z) (fun ys => ys = [sN (cntP (n - 1))])
  | near (z : PySem.Str) (n : Nat) (h : TextOf z n) (h1 : n ≤ 10 ^ 40) : AskR (lnT "near" z) (fun ys => ∃ r, Nearest n r ∧ ys = [sN r])
  | beside (z : PySem.Str) (n : Nat) (h : TextOf z n) (h1 : n ≤ 10 ^ 40) : AskR (lnT "beside" z) (fun ys => ∃ l g, Beside n l g ∧ ys = [optS l ++ " " ++ sN g])
  | full (z : PySem.Str) (n : Nat) (h : TextOf z n) (h0 : 1 ≤ n) (h1 : n ≤ 10 ^ 12) : AskR (lnT "full" z) (fun ys => ∃ b, (b = true ↔ FullN n) ∧ ys = [yesno b])
  | sums (z : PySem.Str) (n : Nat) (h : TextOf z n) (h1 : n ≤ 10 ^ 8) : AskR (lnT "sums" z) (fun ys => ∃ qs, SumsIs n qs ∧ ys = qs.map (rowT " "))
  | free (e : Nat) (z : PySem.Str) (n : Nat) (h : TextOf z n) (he : 2 ≤ e) (he2 : e ≤ 200) (h0 : 1 ≤ n) (h1 : n ≤ 10 ^ 12) : AskR ("free" ++ " " ++ sN e ++ " " ++ z) (fun ys => ∃ b, (b = true ↔ FreeN n e) ∧ ys = [yesno b])
  | apart (k : Nat) (z : PySem.Str) (n : Nat) (h : TextOf z n) (hk : 1 ≤ k) (hk2 : k ≤ 1000000) (h1 : n ≤ 10 ^ 12) : AskR ("apart" ++ " " ++ sN k ++ " " ++ z) (fun ys => ∃ qs, ApartIs k n qs ∧ ys = qs.map (rowT " "))
end Pn
/-! PnR: rows of numbers; texts of three or four parts; lines of a desk asked. -/
namespace Pn
open PySem PySem.Spec PyProof.Rows L2 TL
/-! ### f'..' of three and four parts -/
def tJs3 (t1 t2 t3 : TE) : TE := fun σ H Q => t1 σ H fun x H1 => ∃ y : PySem.Str, x = .str y ∧ (Str.empty ++ y).length ≤ sizeLine ∧ t2 σ H1 fun z H2 => ∃ y2 : PySem.Str, z = .str y2 ∧ (Str.empty ++ y ++ y2).length ≤ sizeLine ∧ t3 σ H2 fun z3 H3 => ∃ y3 : PySem.Str, z3 = .str y3 ∧ (Str.empty ++ y ++ y2 ++ y3).length ≤ sizeLine ∧ Q (.str (Str.empty ++ y ++ y2 ++ y3)) H3
theorem k_join3 {X : Cx} {v1 v2 v3 : Expr} {t1 t2 t3 : TE} {pos : Pos} (h1 : PE X v1 t1) (h2 : PE X v2 t2) (h3 : PE X v3 t3) : PE X (.JoinedStr [v1, v2, v3] pos) (tJs3 t1 t2 t3) := pe_joined (.cons h1 (.cons h2 (.cons h3 .nil)))
theorem w_js3 {t1 t2 t3 : TE} {σ : L2.St} {H : Hp} {Q : VK} : tJs3 t1 t2 t3 σ H Q = t1 σ H fun x H1 => ∃ y : PySem.Str, x = .str y ∧ (Str.empty ++ y).length ≤ sizeLine ∧ t2 σ H1 fun z H2 => ∃ y2 : PySem.Str, z = .str y2 ∧ (Str.empty ++ y ++ y2).length ≤ sizeLine ∧ t3 σ H2 fun z3 H3 => ∃ y3 : PySem.Str, z3 = .str y3 ∧ (Str.empty ++ y ++ y2 ++ y3).length ≤ sizeLine ∧ Q (.str (Str.empty ++ y ++ y2 ++ y3)) H3 := rfl
def tJs4 (t1 t2 t3 t4 : TE) : TE := fun σ H Q => t1 σ H fun x H1 => ∃ y : PySem.Str, x = .str y ∧ (Str.empty ++ y).length ≤ sizeLine ∧ t2 σ H1 fun z H2 => ∃ y2 : PySem.Str, z = .str y2 ∧ (Str.empty ++ y ++ y2).length ≤ sizeLine ∧ t3 σ H2 fun z3 H3 => ∃ y3 : PySem.Str, z3 = .str y3 ∧ (Str.empty ++ y ++ y2 ++ y3).length ≤ sizeLine ∧ t4 σ H3 fun z4 H4 => ∃ y4 : PySem.Str, z4 = .str y4 ∧ (Str.empty ++ y ++ y2 ++ y3 ++ y4).length ≤ sizeLine ∧ Q (.str (Str.empty ++ y ++ y2 ++ y3 ++ y4)) H4
theorem k_join4 {X : Cx} {v1 v2 v3 v4 : Expr} {t1 t2 t3 t4 : TE} {pos : Pos} (h1 : PE X v1 t1) (h2 : PE X v2 t2) (h3 : PE X v3 t3) (h4 : PE X v4 t4) : PE X (.JoinedStr [v1, v2, v3, v4] pos) (tJs4 t1 t2 t3 t4) := pe_joined (.cons h1 (.cons h2 (.cons h3 (.cons h4 .nil))))
theorem w_js4 {t1 t2 t3 t4 : TE} {σ : L2.St} {H : Hp} {Q : VK} : tJs4 t1 t2 t3 t4 σ H Q = t1 σ H fun x H1 => ∃ y : PySem.Str, x = .str y ∧ (Str.empty ++ y).length ≤ sizeLine ∧ t2 σ H1 fun z H2 => ∃ y2 : PySem.Str, z = .str y2 ∧ (Str.empty ++ y ++ y2).length ≤ sizeLine ∧ t3 σ H2 fun z3 H3 => ∃ y3 : PySem.Str, z3 = .str y3 ∧ (Str.empty ++ y ++ y2 ++ y3).length ≤ sizeLine ∧ t4 σ H3 fun z4 H4 => ∃ y4 : PySem.Str, z4 = .str y4 ∧ (Str.empty ++ y ++ y2 ++ y3 ++ y4).length ≤ sizeLine ∧ Q (.str (Str.empty ++ y ++ y2 ++ y3 ++ y4)) H4 := rfl
/-- in a comprehension's block: the iterator with no word of the context -/
theorem pi_listK (K : PySem.W.Frag) {X : Cx} {tg l : Expr} {tl : TE} (hl : PE X l tl) (h : X.K = K := by rfl) : PI X tg l (iList K tl) := by
  subst h
  exact pi_list hl
/-! ### rows -/
def RowsAt (K : PySem.W.Frag) (H : Hp) (cs : List Addr) (rs : List (List Int)) : Prop := cs.length = rs.length ∧ ∀ (i : Nat) (c : Addr) (r : List Int), cs[i]? = some c → rs[i]? = some r → SqL K H c (r.map V.int)
def dR (rs : List (List Int)) : List PyData := rs.map fun r => PyData.list (dI r)
theorem dpAll_rows {K : PySem.W.Frag} {H : Hp} : ∀ {cs : List Addr} {rs : List (List Int)}, RowsAt K H cs rs → DpAll K H (cs.map V.ref) (dR rs)
  | [], [], _ => .nil
  | [], _ :: _, h => by cases h.1
  | _ :: _, [], h => by cases h.1
  | c :: cs, r :: rs, h => .cons (.lst (h.2 0 c r rfl rfl) (dpAll_ints r)) (dpAll_rows ⟨by have := h.1; simp at this; exact this, fun i b q h1 h2 => h.2 (i + 1) b q (by simpa using h1) (by simpa using h2)⟩)
theorem canLay_rows : ∀ rs : List (List Int), PyData.canLayAll0 (dR rs) = true
  | [] => by simp [dR, PyData.canLayAll0]
  | r :: rs => by
    have := canLay_rows rs
    simp only [dR] at this ⊢
    simp [PyData.canLayAll0, PyData.canLay0, this, canLay_ints]
theorem depth_rows : ∀ rs : List (List Int), PyData.depthAll (dR rs) ≤ 1
  | [] => by simp [dR, PyData.depthAll]
  | r :: rs => by
    have := depth_rows rs
    simp only [dR] at this ⊢
    simp only [List.map_cons, PyData.depthAll, PyData.depth, depth_ints]
    omega
theorem eqv_rows : ∀ ns ms : List (List Int), PyData.eqvAll (dR ns) (dR ms) = decide (ns = ms)
  | [], [] => by simp [dR, PyData.eqvAll]
  | [], _ :: _ => by simp [dR, PyData.eqvAll]
  | _ :: _, [] => by simp [dR, PyData.eqvAll]
  | n :: r, m :: t => by
    have := eqv_rows r t
    simp only [dR] at this ⊢
    simp only [List.map_cons, PyData.eqvAll, PyData.eqv, this, eqv_ints, List.cons.injEq]
    rw [Bool.decide_and]
theorem sh_lR (rs : List (List Int)) : SeqAt.shaped (.list (dR rs)) = true := by
  have := depth_rows rs
  unfold SeqAt.shaped
  simp only [PyData.canLay0, PyData.depth, canLay_rows, Bool.true_and, decide_eq_true_eq]
  exact decide_eq_true (by omega)
theorem any_rows (a : List Int) : ∀ rs : List (List Int), ((dR rs).any fun z => PyData.eqv z (.list (dI a))) = decide (a ∈ rs)
  | [] => by simp [dR]
  | p :: r => by
    have ih := any_rows a r
    simp only [dR] at ih ⊢
    rw [List.map_cons, List.any_cons, ih, PyData.eqv, eqv_ints]
    simp only [List.mem_cons, Bool.decide_or, eq_comm]
section
variable {K : PySem.W.Frag} {H : Hp} {Q : VK} {a b : Addr}
theorem r_eqLR {as bs : List Addr} {ns ms : List (List Int)} (hx : SqL K H a (as.map V.ref)) (ha : RowsAt K H as ns) (hy : SqL K H b (bs.map V.ref)) (hb : RowsAt K H bs ms) (q : Q (.bl (decide (ns = ms))) H) : rEqD K (.ref a) (.ref b) H Q :=
  ⟨.list (dR ns), .list (dR ms), .lst hx (dpAll_rows ha), .lst hy (dpAll_rows hb), sh_lR ns, sh_lR ms, by rw [PyData.eqv, eqv_rows]; exact q⟩
theorem r_neLR {as bs : List Addr} {ns ms : List (List Int)} (hx : SqL K H a (as.map V.ref)) (ha : RowsAt K H as ns) (hy : SqL K H b (bs.map V.ref)) (hb : RowsAt K H bs ms) (q : Q (.bl (!decide (ns = ms))) H) : rNeD K (.ref a) (.ref b) H Q :=
  ⟨.list (dR ns), .list (dR ms), .lst hx (dpAll_rows ha), .lst hy (dpAll_rows hb), sh_lR ns, sh_lR ms, by rw [PyData.eqv, eqv_rows]; exact q⟩
theorem r_inR {r : List Int} {as : List Addr} {rs : List (List Int)} (hx : SqL K H a (r.map V.int)) (hy : SqL K H b (as.map V.ref)) (hp : RowsAt K H as rs) (q : Q (.bl (decide (r ∈ rs))) H) : rInD K (.ref a) (.ref b) H Q :=
  ⟨.list (dI r), dR rs, .lst hx (dpAll_ints r), .lst hy (dpAll_rows hp), sh_lI _, sh_lR _, by rw [any_rows]; exact q⟩
theorem r_niR {r : List Int} {as : List Addr} {rs : List (List Int)} (hx : SqL K H a (r.map V.int)) (hy : SqL K H b (as.map V.ref)) (hp : RowsAt K H as rs) (q : Q (.bl (!decide (r ∈ rs))) H) : rNotInD K (.ref a) (.ref b) H Q :=
  ⟨.list (dI r), dR rs, .lst hx (dpAll_ints r), .lst hy (dpAll_rows hp), sh_lI _, sh_lR _, by rw [any_rows]; exact q⟩
end
theorem k_inL (K : PySem.W.Frag) {X : Cx} (hu : X.A.units + 65 < cLine) (h : X.K = K := by rfl) : OpR X (compareOp .In) (rInD K) := by
  subst h
  exact op_inD hu
theorem k_notInL (K : PySem.W.Frag) {X : Cx} (hu : X.A.units + 65 < cLine) (h : X.K = K := by rfl) : OpR X (compareOp .NotIn) (rNotInD K) := by
  subst h
  exact op_notInD hu
theorem RowsAt.same {K : PySem.W.Frag} {H H' : Hp} {as : List Addr} {rs : List (List Int)} (h : RowsAt K H as rs) (s : Same H H') : RowsAt K H' as rs := ⟨h.1, fun i a p h1 h2 => s.seq (h.2 i a p h1 h2)⟩
theorem RowsAt.at {K : PySem.W.Frag} {H : Hp} {as : List Addr} {rs : List (List Int)} (h : RowsAt K H as rs) {i : Nat} {v : V} (hv : (as.map V.ref)[i]? = some v) : ∃ (a : Addr) (p : List Int), v = .ref a ∧ rs[i]? = some p ∧ SqL K H a (p.map V.int) := by
  rw [List.getElem?_map] at hv
  cases e : as[i]? with
  | none =>
    rw [e] at hv
    cases hv
  | some a =>
    rw [e] at hv
    cases hv
    have hi : i < rs.length := by
      rw [← h.1]
      exact (List.getElem?_eq_some_iff.mp e).1
    exact ⟨a, rs[i], rfl, List.getElem?_eq_getElem hi, h.2 i a _ e (List.getElem?_eq_getElem hi)⟩
theorem RowsAt.one {K : PySem.W.Frag} {H : Hp} {a : Addr} {r : List Int} (h : SqL K H a (r.map V.int)) : RowsAt K H [a] [r] := ⟨rfl, fun i c p h1 h2 => by
  cases i with
  | zero =>
    cases h1
    cases h2
    exact h
  | succ i => cases h1⟩
/-! ### rows as texts -/
def rowOf (sg : PySem.Str) (r : List Nat) : PySem.Str := PySem.Txt.join sg (r.map sN)
theorem rowOf_one (sg : PySem.Str) (m : Nat) : rowOf sg [m] = sN m := by
  unfold rowOf
  rw [join_eq]
  rfl
theorem rowOf_two (sg : PySem.Str) (x y : Nat) : rowOf sg [x, y] = rowT sg ((x : Int), (y : Int)) := by
  unfold rowOf
  rw [join_eq]
  rfl
theorem split_row {sg : PySem.Str} {c : Nat} (hs : tl sg = [c]) (hk : sg.cps.all (· < 256) = true) (hc : c < 48 ∨ 57 < c) {r : List Nat} (hr : r ≠ []) : PySem.Txt.split (rowOf sg r) sg = r.map sN :=
  split_join hs hk (parts := r.map sN) (by simpa using hr) fun p hp => by
    obtain ⟨n, _, rfl⟩ := List.mem_map.mp hp
    rw [tl_sN]
    intro z
    have := numL_digits n _ z
    omega
/-- a line that tells rows, the desk the same -/
def Told (L : List Nat) (z : PySem.Str) (R : List PySem.Str → Prop) : Prop := AskR z R ∨ ∃ ys, Ask L z ys ∧ R = fun zs => zs = ys
end Pn
namespace Pn
open PySem PySem.Spec PyProof.Rows L2
local macro_rules | `(tactic| walk_at "w") => `(tactic| try simp only [w_var, w_c, w_op, w_I0, w_I, w_un, w_U, w_eq, w_ne, w_test, w_B, w_and, w_or, w_not, w_andV, w_orV, w_notV, w_ife, w_nil, w_cons, w_fn, w_cb, w_tup, w_lst, w_seq, w_next, w_brk, w_ct, w_drop, w_ret, w_retN, w_ifS, w_asgN, w_asgT, w_asgS, w_gName, w_gNil, w_gCons, w_par, w_aug, w_ipI, w_sl, w_np, w_part, w_bm, w_bm0, w_cxK, w_bits, w_forL, w_forT, w_for1, w_for2, w_for3, w_lc3, w_lcL, w_lcT, w_lc1, w_lc2, w_yes, w_tru, wipe, scal,
   L2.start, List.map_cons, List.map_nil, List.length_cons, List.length_nil, List.replicate, List.cons_append, List.nil_append, Nat.reduceAdd, Nat.reduceSub, Nat.zero_add,
   List.getElem?_cons_zero, List.getElem?_cons_succ, List.set_cons_zero, List.set_cons_succ, Option.some.injEq, V.int.injEq, V.bl.injEq, V.ref.injEq, V.str.injEq, exists_eq_left, exists_eq_left', exists_and_left, exists_and_right, exists_eq', exists_eq, and_assoc, and_true, true_and, decide_eq_true_eq, Bool.not_eq_true', decide_eq_false_iff_not, List.cons.injEq, if_true, if_false, Bool.true_eq_false, Bool.false_eq_true, ite_true, ite_false, reduceIte, reduceCtorEq, not_true_eq_false, not_false_eq_true, decide_true, decide_false, Bool.not_true, Bool.not_false, false_and, and_false, exists_false, false_or, or_false])
local macro_rules | `(tactic| walk_at "lk") => `(tactic| first | assumption | exact upd_same | exact Eq.trans (upd_ne (by walk_at "ne")) (by walk_at "lk"))
local macro_rules | `(tactic| walk_at "ne") => `(tactic| first | assumption | exact Ne.symm (by assumption) | exact ne_fresh (by assumption) (by walk_at "lk") | exact Ne.symm (ne_fresh (by assumption) (by walk_at "lk")))
local macro_rules | `(tactic| walk_at "sq") => `(tactic| first | assumption | exact SqL.of (by walk_at "lk"))
local macro_rules | `(tactic| walk_at "ix") => `(tactic| (refine r_ixL (by walk_at "sq") (by rfl) ?_; walk_at "w"))
local macro_rules | `(tactic| walk_at "st") => `(tactic| (refine r_setL (by walk_at "lk") (by rfl) ?_; walk_at "w"))
local macro_rules | `(tactic| walk_at "d") => `(tactic| (walk_at "w"; (try simp only [w_dget, w_dget2, w_dput, w_dnew, w_lv, w_augS, w_lockE, w_lcK, w_isB, w_notB]); walk_at "w"))
local macro_rules | `(tactic| walk_at "e") => `(tactic| (walk_at "d"; (try simp only [SetL.w_sortSet]); walk_at "d"))
local macro_rules | `(tactic| walk_at "f") => `(tactic| (walk_at "d"; (try simp only [TupE.w_lcTe, TupE.w_lcE]); walk_at "d"))
local macro_rules | `(tactic| walk_at "o1") => `(tactic| (try simp only [w_fld, w_sfld, w_mt, w_mk, w_forI, w_forV, w_frz, w_lcV, w_lockS, w_asgL, w_gSub, w_minV]))
local macro_rules | `(tactic| walk_at "o") => `(tactic| (walk_at "d"; walk_at "o1"; walk_at "d"; walk_at "o1"; walk_at "d"))
local macro_rules | `(tactic| walk_at "x1") => `(tactic| (try simp only [w_fnX, w_mtX, w_bmF, w_m1, w_mkV, w_strE, w_raise, w_xf, w_binit, w_ost, w_tryK, w_keep]))
local macro_rules | `(tactic| walk_at "x") => `(tactic| (walk_at "o"; walk_at "x1"; walk_at "o"; walk_at "x1"; walk_at "o"))
local macro_rules | `(tactic| walk_at "y1") => `(tactic| (try simp only [w_gt, w_fmtN, w_js2, w_lcS, w_m1]))
local macro_rules | `(tactic| walk_at "y") => `(tactic| (walk_at "o"; walk_at "y1"; walk_at "o"; walk_at "y1"; walk_at "o"))
local macro_rules | `(tactic| walk_at "z") => `(tactic| (walk_at "y"; (try simp only [w_forK]); walk_at "y"))
local macro_rules | `(tactic| walk_at "r") => `(tactic| (walk_at "z"; (try simp only [w_js3, w_js4]); walk_at "z"; (try simp only [w_js3, w_js4]); walk_at "z"))
def top (i : Nat) : Stmt := PySem.Challenge.pw_powernumbers_k31_desk_pairs_and_kin.main.body.getD i (.Pass ⟨0, 0, 0, 0⟩)
structure Bt (mg : PySem.Str → Option Value) : Prop where
  range : mg "range" = none
  len : mg "len" = none
  sum : mg "sum" = none
  min : mg "min" = none
  max : mg "max" = none
  abs : mg "abs" = none
  sorted : mg "sorted" = none
  isinstance : mg "isinstance" = none
  enumerate : mg "enumerate" = none
  zip : mg "zip" = none
  int : mg "int" = none
  bool : mg "bool" = none
  str : mg "str" = none
  list : mg "list" = none
  tuple : mg "tuple" = none
  dict : mg "dict" = none
  set : mg "set" = none
  ValueError : mg "ValueError" = none
abbrev s_power_of : Stmt := top 1
theorem sc_power_of : FnScope ["base", "exponent", "half"] ["base", "exponent"] (defScope s_power_of) := ⟨rfl, rfl, rfl, by decide +kernel, rfl, by decide +kernel, by decide +kernel⟩
def sp_power_of_k (K : PySem.W.Frag) (k : Nat) : Sp := fun vs H Q _ => ∃ (b e a : Nat), vs = [.int (b : Int), .int (e : Int)] ∧ 1 ≤ k ∧ e < 2 ^ (k - 1) ∧ b < 2 ^ a ∧ a * e ≤ 300000 ∧ a ≤ 300000 ∧ ∀ H', Same H H' → Q (.int ((b ^ e : Nat) : Int)) H'
section
variable {P : Program} {w : World} {K : PySem.W.Frag} {mg : PySem.Str → Option Value} {base : Heap}
theorem bi_power_of {f : Addr} {fd : FuncData} (F : Fun K "power_of" "power_of" s_power_of f fd) : Binds K fd ["base", "exponent"] [] := F.binds (ps := ["base", "exponent"]) fun _ _ _ _ _ _ us hl => match us, hl with | [_, _], _ => rfl
set_option maxHeartbeats 4000000 in
theorem ok_power_of {f : Addr} {fd : FuncData} (F : Fun K "power_of" "power_of" s_power_of f fd) (B : Bt mg) (mf : mg "power_of" = some (.ref f))   : ∀ k : Nat, FnOk P w K mg base CX0 k f fd ["base", "exponent"] (sp_power_of_k K k)
  | 0 => fn_vac fun vs H Q E h => by
    obtain ⟨b, e, a, rfl, hk1, hk, hb, ha, ha2, q⟩ := h
    omega
  | k + 1 => by
    have h_power_of : Fn P w K mg base CX0 k "power_of" ["base", "exponent"] (sp_power_of_k K k) := ⟨f, fd, mf, F.kp, bi_power_of F, ok_power_of F B mf  k⟩
    refine F.ok sc_power_of (fun vs H Q E h => ?_) (fun cdv A outer s H vs Q E hr h => ?_)
    · obtain ⟨b, e, a, rfl, hk1, hk, hb, ha, ha2, q⟩ := h
      rfl
    · obtain ⟨b, e, a, rfl, hk1, hk, hb, ha, ha2, q⟩ := h
      refine ⟨_, (pss_cons (ps_if (pt_cmpR op_eq (pv 1) pe_int (nomark _))
        (pss_one (ps_ret pe_int))
        pss_nil)
      (pss_cons (ps_set (i := 2) sc_power_of.nd rfl (Or.inl rfl) (pe_fn h_power_of hr (by rfl) (pa_cons (pv 0) (pa_cons (pe_op op_fdiv (pv 1) pe_int) pa_nil))))
      (pss_one (ps_ret (pe_op op_mulW (pe_op op_mulW (pv 2) (pv 2)) (pe_ix (k_ixL K) (pe_lst (pa_cons pe_int (pa_cons (pv 0) pa_nil))) (pe_op op_mod (pv 1) pe_int) (fun _ _ => rfl))))))), ?_⟩
      walk_at "w"
      refine ite2 (fun h0 => ?_) (fun h0 => ?_)
      · have h0 : e = 0 := by omega
        subst h0
        rw [Nat.pow_zero] at q
        exact q _ (Same.refl _)
      · have he : 0 < e := by omega
        have hk2 : 1 ≤ k := by
          rcases Nat.eq_zero_or_pos k with rfl | h
          · simp at hk
            omega
          · exact h
        have hhalf : e / 2 < 2 ^ (k - 1) := by
          have : 2 ^ (k + 1 - 1) = 2 * 2 ^ (k - 1) := by
            rw [show k + 1 - 1 = (k - 1) + 1 by omega, Nat.pow_succ]
            omega
          omega
        have e2 : (e : Int) / 2 = ((e / 2 : Nat) : Int) := by omega
        have hsz : ∀ j, j ≤ e → b ^ j ≤ 2 ^ (a * e) := fun j hj => by
          rw [Nat.pow_mul]
          exact Nat.le_trans (Nat.pow_le_pow_left (Nat.le_of_lt hb) j) (Nat.pow_le_pow_right (Nat.two_pow_pos a) hj)
        have l1 := log2_le_of_le (hsz (e / 2) (by omega))
        have hml : a * (e / 2) ≤ a * e := Nat.mul_le_mul_left a (by omega)
        walk_at "w"
        rw [e2]
        refine ⟨by unfold CDiv; omega, b, e / 2, a, rfl, hk2, hhalf, hb, by omega, ha2, fun H' s' => ?_⟩
        have em : ((b ^ (e / 2) : Nat) : Int) * ((b ^ (e / 2) : Nat) : Int) = ((b ^ (e / 2 + e / 2) : Nat) : Int) := by
          rw [Nat.pow_add]
          push_cast
          rfl
        have l2 := log2_le_of_le (hsz (e / 2 + e / 2) (by omega))
        walk_at "w"
        rw [em]
        refine ⟨cmulN (by omega), by show 2 ≤ sizeLine; decide, fun p hp => ⟨by omega, ?_⟩⟩
        rcases (by omega : e % 2 = 0 ∨ e % 2 = 1) with h | h
        · have eo : (e : Int) % 2 = 0 := by omega
          rw [eo]
          refine r_ixL (SqL.of upd_same) (by rfl) ?_
          walk_at "w"
          have l3 : (1 : Nat).log2 = 0 := rfl
          have ee : e / 2 + e / 2 = e := by omega
          rw [ee] at l2 ⊢
          refine ⟨cmulN (b := 1) (by omega), ?_⟩
          rw [Int.mul_one]
          exact q _ (sm_new s' (s'.free hp))
        · have eo : (e : Int) % 2 = 1 := by omega
          rw [eo]
          refine r_ixL (SqL.of upd_same) (by rfl) ?_
          walk_at "w"
          have l3 := log2_le_of_le (Nat.le_of_lt hb)
          refine ⟨cmulN (by omega), ?_⟩
          have ee : ((b ^ (e / 2 + e / 2) : Nat) : Int) * (b : Int) = ((b ^ e : Nat) : Int) := by
            rw [show b ^ e = b ^ (e / 2 + e / 2) * b by rw [← Nat.pow_succ]; congr 1; omega]
            push_cast
            rfl
          rw [ee]
          exact q _ (sm_new s' (s'.free hp))
end
abbrev sp_power_of (K : PySem.W.Frag) : Sp := sp_power_of_k K 9
abbrev s_floor_root : Stmt := top 2
theorem sc_floor_root : FnScope ["number", "exponent", "found", "less", "lower"] ["number", "exponent"] (defScope s_floor_root) := ⟨rfl, rfl, rfl, by decide +kernel, rfl, by decide +kernel, by decide +kernel⟩
def sp_floor_root (K : PySem.W.Frag) : Sp := fun vs H Q _ => ∃ (n e c : Nat), vs = [.int (n : Int), .int (e : Int)] ∧ 1 ≤ e ∧ e ≤ 256 ∧ n < 2 ^ c ∧ c ≤ 8000 ∧ ∀ H', Same H H' → Q (.int (rootN n e : Nat)) H'
section
variable {P : Program} {w : World} {K : PySem.W.Frag} {mg : PySem.Str → Option Value} {base : Heap}
theorem bi_floor_root {f : Addr} {fd : FuncData} (F : Fun K "floor_root" "floor_root" s_floor_root f fd) : Binds K fd ["number", "exponent"] [] := F.binds (ps := ["number", "exponent"]) fun _ _ _ _ _ _ us hl => match us, hl with | [_, _], _ => rfl
set_option maxHeartbeats 4000000 in
theorem ok_floor_root {f : Addr} {fd : FuncData} (F : Fun K "floor_root" "floor_root" s_floor_root f fd) (B : Bt mg)  (h_power_of : Fn P w K mg base CX0 9 "power_of" ["base", "exponent"] (sp_power_of K)) : FnOk P w K mg base CX0 10 f fd ["number", "exponent"] (sp_floor_root K) := by
  refine F.ok sc_floor_root (fun vs H Q E h => ?_) (fun cdv A outer s H vs Q E hr h => ?_)
  · obtain ⟨n, e, c, rfl, he, he2, hn, hc, q⟩ := h
    rfl
  · obtain ⟨n, e, c, rfl, he, he2, hn, hc, q⟩ := h
    refine ⟨_, (pss_cons (ps_if (pt_cmpR op_lt (pv 0) pe_int (nomark _))
        (pss_one (ps_ret (pv 0)))
        pss_nil)
      (pss_cons (ps_set (i := 2) sc_floor_root.nd rfl (Or.inl rfl) (pe_op op_shl pe_int (pe_op op_fdivW (pe_op op_sub (pe_op op_add (pe_bits (pv 0)) (pv 1)) pe_int) (pv 1))))
      (pss_one (ps_while PassesOwn.never (pt_val pe_bl)
        (pss_cons (ps_set (i := 3) sc_floor_root.nd rfl (Or.inl rfl) (pe_fn h_power_of (hr.mono (by decide)) (by rfl) (pa_cons (pv 2) (pa_cons (pe_op op_sub (pv 1) pe_int) pa_nil))))
        (pss_cons (ps_set (i := 4) sc_floor_root.nd rfl (Or.inl rfl) (pe_op op_fdivW (pe_op op_add (pe_op op_mulW (pe_op op_sub (pv 1) pe_int) (pv 2)) (pe_op op_fdivW (pv 0) (pv 3))) (pv 1)))
        (pss_cons (ps_if (pt_cmpR op_ge (pv 4) (pv 2) (nomark _))
          (pss_one (ps_ret (pv 2)))
          pss_nil)
        (pss_one (ps_set (i := 2) sc_floor_root.nd rfl (Or.inl rfl) (pv 4)))))))))), ?_⟩
    walk_at "w"
    refine ite2 (fun h2 => ?_) (fun h2 => ?_)
    · have hr : rootN n e = n := by
        rcases (by omega : n = 0 ∨ n = 1) with rfl | rfl
        · exact rootN_0 he
        · exact rootN_1 he
      rw [hr] at q
      exact q _ (Same.refl _)
    · have hn1 : 1 ≤ n := by omega
      have hl : n.log2 < c := (Nat.log2_lt (by omega)).mpr hn
      rw [bits_nat hn1]
      have hst := newton_start (n := n) he
      have et : (((n.log2 + 1 : Nat) : Int) + (e : Int) - 1) / (e : Int) = (((n.log2 + 1 + e - 1) / e : Nat) : Int) := by
        have : ((n.log2 + 1 : Nat) : Int) + (e : Int) - 1 = ((n.log2 + 1 + e - 1 : Nat) : Int) := by omega
        rw [this]
        exact (Int.natCast_ediv _ _).symm
      have hte : (n.log2 + 1 + e - 1) / e * e ≤ n.log2 + 1 + e - 1 := Nat.div_mul_le_self _ _
      have htc : (n.log2 + 1 + e - 1) / e ≤ n.log2 + 1 := by
        rw [Nat.div_le_iff_le_mul_add_pred (by omega)]
        have h3 : n.log2 + 1 ≤ (n.log2 + 1) * e := Nat.le_mul_of_pos_right _ he
        rw [Nat.mul_comm e]
        omega
      rw [et]
      generalize (n.log2 + 1 + e - 1) / e = t at hst hte htc ⊢
      clear et
      rw [shl_one]
      refine ⟨wide_div (b := 10) (by omega) (by omega) (by decide) (by decide), by unfold CPow; omega, ?_⟩
      refine while_m (fun m σ H' => ∃ (v3 v4 : Option V), σ = [some (.int n), some (.int e), some (.int (m : Int)), v3, v4] ∧ Same H H' ∧ rootN n e ≤ m ∧ m ≤ 2 ^ t) (2 ^ t) ⟨none, none, rfl, Same.refl _, hst, Nat.le_refl _⟩ ?_
      rintro x σ H' ⟨v3, v4, rfl, s1, hx, hx2⟩ G hG
      walk_at "w"
      refine hG _ _ fun N hN => ?_
      have hx1 : 1 ≤ x := Nat.le_trans (rootN_pos he hn1) hx
      have hxt : x < 2 ^ (t + 1) := by
        rw [Nat.pow_succ]
        omega
      have ee : (e : Int) - 1 = ((e - 1 : Nat) : Int) := by omega
      have hsz : (t + 1) * (e - 1) ≤ c + 2 * e := by
        have h4 : (t + 1) * (e - 1) ≤ (t + 1) * e := Nat.mul_le_mul_left _ (by omega)
        have h5 : (t + 1) * e = t * e + e := by rw [Nat.add_mul, Nat.one_mul]
        omega
      walk_at "w"
      rw [ee]
      refine ⟨x, e - 1, t + 1, rfl, by decide, by omega, hxt, by omega, by omega, fun H2 s2 => ?_⟩
      walk_at "w"
      have hy : x ^ (e - 1) ≤ 2 ^ (c + 2 * e) := by
        refine Nat.le_trans (Nat.pow_le_pow_left (Nat.le_of_lt hxt) _) ?_
        rw [← Nat.pow_mul]
        exact Nat.pow_le_pow_right (by decide) hsz
      have hy0 : 0 < x ^ (e - 1) := Nat.pow_pos (by omega)
      have l1 := log2_le_of_le (Nat.le_of_lt hxt)
      have l2 : (e - 1).log2 ≤ 8 := log2_le_of_le (by omega)
      have l3 := log2_le_of_le hy
      have ev : (((e - 1 : Nat) : Int) * (x : Int) + (n : Int) / ((x ^ (e - 1) : Nat) : Int)) / (e : Int) = ((((e - 1) * x + n / x ^ (e - 1)) / e : Nat) : Int) := by
        rw [Int.natCast_ediv, Int.natCast_add, Int.natCast_mul, Int.natCast_ediv]
      have hd : CDivW (n : Int) ((x ^ (e - 1) : Nat) : Int) := ⟨by omega, Nat.lt_of_le_of_lt (show (x ^ (e - 1)).log2 ≤ _ from l3) (by omega)⟩
      have hd2 : ∀ z : Int, CDivW z (e : Int) := fun z => wide_div (b := 10) (by omega) (by omega) (by decide) (by decide)
      rw [ev]
      have hge := newton_ge (n := n) he hx1 (rootN_le (n := n) he)
      generalize hlow : ((e - 1) * x + n / x ^ (e - 1)) / e = low at hge ⊢
      refine ⟨cmulN (by omega), hd, hd2 _, ite2 (fun hs => ?_) (fun hs => ?_)⟩
      · have hle : x ^ e ≤ n := newton_stop he hx1 (by rw [hlow]; omega)
        have : x = rootN n e := Nat.le_antisymm (rootN_ge he hle) hx
        rw [← this] at q
        exact q _ (s1.trans s2)
      · exact hN low _ _ (by omega) ⟨_, _, rfl, s1.trans s2, hge, by omega⟩
end
abbrev s_most_exponent : Stmt := top 3
theorem sc_most_exponent : FnScope ["number"] ["number"] (defScope s_most_exponent) := ⟨rfl, rfl, rfl, by decide +kernel, rfl, by decide +kernel, by decide +kernel⟩
def sp_most_exponent (K : PySem.W.Frag) : Sp := fun vs H Q _ => ∃ (n : Nat), vs = [.int (n : Int)] ∧ Q (.int ((max 1 n.log2 : Nat) : Int)) H
section
variable {P : Program} {w : World} {K : PySem.W.Frag} {mg : PySem.Str → Option Value} {base : Heap}
theorem bi_most_exponent {f : Addr} {fd : FuncData} (F : Fun K "most_exponent" "most_exponent" s_most_exponent f fd) : Binds K fd ["number"] [] := F.binds (ps := ["number"]) fun _ _ _ _ _ _ us hl => match us, hl with | [_], _ => rfl
set_option maxHeartbeats 4000000 in
theorem ok_most_exponent {f : Addr} {fd : FuncData} (F : Fun K "most_exponent" "most_exponent" s_most_exponent f fd) (B : Bt mg)   : FnOk P w K mg base CX0 1 f fd ["number"] (sp_most_exponent K) := by
  refine F.ok sc_most_exponent (fun vs H Q E h => ?_) (fun cdv A outer s H vs Q E hr h => ?_)
  · obtain ⟨n, rfl, q⟩ := h
    rfl
  · obtain ⟨n, rfl, q⟩ := h
    refine ⟨_, (pss_one (ps_ret (pe_callB (call_max2 rfl) (by rfl) B.max (by decide +kernel) (pa_cons pe_int (pa_cons (pe_op op_sub (pe_bits (pv 0)) pe_int) pa_nil))))), ?_⟩
    walk_at "w"
    have e : (if ((Builtin.Int.intBits (n : Int) : Nat) : Int) - 1 > 1 then ((Builtin.Int.intBits (n : Int) : Nat) : Int) - 1 else 1) = ((max 1 n.log2 : Nat) : Int) := by
      rcases Nat.eq_zero_or_pos n with rfl | h
      · rfl
      · rw [bits_nat h]
        split <;> omega
    first
      | (rw [e]; exact q)
      | (simp only [gt_iff_lt] at e; rw [e]; exact q)
end
abbrev s_just_by : Stmt := top 4
theorem sc_just_by : FnScope ["number", "most", "found", "exponent", "more", "other"] ["number"] (defScope s_just_by) := ⟨rfl, rfl, rfl, by decide +kernel, rfl, by decide +kernel, by decide +kernel⟩
def sp_just_by (K : PySem.W.Frag) : Sp := fun vs H Q _ => ∃ (n : Nat), vs = [.int (n : Int)] ∧ 1 ≤ n ∧ n < 2 ^ 200 ∧ ∀ (p : Addr) (H' : Hp), H p = none → Same H H' → H' p = some (.dK (dN (dn (max 1 n.log2) (max 1 n.log2 - 1)) fun e => V.int ((cg n e : Nat) : Int))) → Q (.ref p) H'
theorem rg_mult {M e : Nat} (h2 : 2 ≤ e) (hM : M < 1000) (he : e ≤ M) : RgC (2 * (e : Int)) ((M : Int) + 1) (e : Int) (M / e - 1) := by
  have h := RgC.up (i := 2 * (e : Int)) (j := (M : Int) + 1) (c := (e : Int)) (by omega) (by omega) (by omega) (by omega) (by omega) (by omega)
  have e1 : (if 2 * (e : Int) < (M : Int) + 1 then (((M : Int) + 1 - 2 * (e : Int) - 1) / (e : Int) + 1).toNat else 0) = M / e - 1 := by
    split
    · rename_i hlt
      have hle : 2 * e ≤ M := by omega
      have e2 : (M : Int) + 1 - 2 * (e : Int) - 1 = ((M - 2 * e : Nat) : Int) := by omega
      have e3 : M / e = (M - 2 * e) / e + 2 := by
        have := Nat.add_mul_div_right (M - 2 * e) 2 (show 0 < e by omega)
        rw [show M - 2 * e + 2 * e = M by omega] at this
        exact this
      rw [e2, ← Int.natCast_ediv, e3]
      omega
    · rename_i hlt
      have : M / e < 2 := (Nat.div_lt_iff_lt_mul (by omega)).mpr (by omega)
      omega
  rw [e1] at h
  exact h
section
variable {P : Program} {w : World} {K : PySem.W.Frag} {mg : PySem.Str → Option Value} {base : Heap}
theorem bi_just_by {f : Addr} {fd : FuncData} (F : Fun K "just_by" "just_by" s_just_by f fd) : Binds K fd ["number"] [] := F.binds (ps := ["number"]) fun _ _ _ _ _ _ us hl => match us, hl with | [_], _ => rfl
set_option maxHeartbeats 4000000 in
theorem ok_just_by {f : Addr} {fd : FuncData} (F : Fun K "just_by" "just_by" s_just_by f fd) (B : Bt mg)  (h_most_exponent : Fn P w K mg base CX0 1 "most_exponent" ["number"] (sp_most_exponent K)) (h_floor_root : Fn P w K mg base CX0 10 "floor_root" ["number", "exponent"] (sp_floor_root K)) : FnOk P w K mg base CX0 11 f fd ["number"] (sp_just_by K) := by
  refine F.ok sc_just_by (fun vs H Q E h => ?_) (fun cdv A outer s H vs Q E hr h => ?_)
  · obtain ⟨n, rfl, hn1, hn, q⟩ := h
    rfl
  · obtain ⟨n, rfl, hn1, hn, q⟩ := h
    refine ⟨_, (pss_cons (ps_set (i := 1) sc_just_by.nd rfl (Or.inl rfl) (pe_fn h_most_exponent (hr.mono (by decide)) (by rfl) (pa_cons (pv 0) pa_nil)))
      (pss_cons (ps_set (i := 2) sc_just_by.nd rfl (Or.inr rfl) pe_dnewK)
      (pss_cons (ps_for PassesOwn.never rfl (pi_range3 rfl B.range (pa_cons (pv 1) (pa_cons pe_int (pa_cons (pe_un un_neg pe_int) pa_nil)))) (pg_name (i := 3) sc_just_by.nd rfl (Or.inl rfl))
        (pss_cons (ps_setLc (i := 4) (own := [("other", 5)]) (g := gName 5) (tt := tYes) rfl sc_just_by.nd rfl rfl (sw_true rfl rfl rfl (by decide +kernel)) (pi_range3 rfl B.range (pa_cons (pe_op op_mul pe_int (pv 3)) (pa_cons (pe_op op_add (pv 1) pe_int) (pa_cons (pv 3) pa_nil)))) (blkOk_by (own := [("other", 5)]) (N := ["number", "most", "found", "exponent", "more", "other"]) (sc := defScope s_just_by) (by decide +kernel)) (fun _ _ _ _ _ => (pg_name (i := 5) sc_just_by.nd rfl (Or.inl rfl))) (fun _ _ _ _ _ => pts_nil) (fun _ _ _ _ _ => (pe_dget (hu_of hr) (pv 2) (pv 5) (fun _ _ => rfl))))
        (pss_one (ps_dput (hu_of hr) (pv 2) (pv 3) (pe_op op_sub (pe_op op_sub (pe_fn h_floor_root (hr.mono (by decide)) (by rfl) (pa_cons (pv 0) (pa_cons (pv 3) pa_nil))) pe_int) (pe_callB (k_sum K) (by rfl) B.sum (by decide +kernel) (pa_cons (pv 4) pa_nil))) rfl))))
      (pss_one (ps_ret (pv 2)))))), ?_⟩
    walk_at "d"
    have hl : n.log2 < 200 := (Nat.log2_lt (by omega)).mpr hn
    refine ⟨n, rfl, ?_⟩
    walk_at "d"
    intro p hp
    generalize hM : max 1 n.log2 = M at q ⊢
    refine ⟨M - 1, ?_, for_c (fun i σ H' => ∃ (v3 v4 : Option V), σ = [some (.int n), some (.int (M : Int)), some (.ref p), v3, v4, none] ∧ Same H H' ∧ H' p = some (.dK (dN (dn M i) fun e => V.int ((cg n e : Nat) : Int)))) ⟨none, none, rfl, same_new hp, upd_same⟩ ?_ ?_⟩
    · have := RgC.neg (i := (M : Int)) (j := 1) (by omega) (by omega) (by omega) (by omega)
      rw [show ((M : Int) - 1).toNat = M - 1 by omega] at this
      exact this
    · rintro i σ H1 hi ⟨v3, v4, rfl, s1, hd⟩ N hN
      have e1 : (M : Int) + (i : Int) * -1 = ((M - i : Nat) : Int) := by omega
      rw [e1]
      have hMl : M = n.log2 := by omega
      generalize he : M - i = e
      walk_at "d"
      refine ⟨by unfold CMul; omega, M / e - 1, rg_mult (by omega) (by omega) (by omega), lc_c (fun j => some (.int ((cg n ((j + 2) * e) : Nat) : Int))) (size_le (Nat.le_trans (Nat.sub_le _ _) (Nat.le_trans (Nat.div_le_self _ _) (by omega)))) ?_ ?_⟩
      · intro j H2 hj s2 N0 N1 h0 h1
        have e2 : 2 * (e : Int) + (j : Int) * (e : Int) = (((j + 2) * e : Nat) : Int) := by
          rw [Int.natCast_mul, Int.natCast_add, Int.add_mul, Int.add_comm]
          rfl
        walk_at "d"
        have hle : (j + 2) * e ≤ M := (Nat.le_div_iff_mul_le (by omega)).mp (by omega)
        have hlt : e < (j + 2) * e := by
          rw [Nat.add_mul]
          have : 0 < e := by omega
          omega
        rw [e2]
        refine ⟨_, dN_at (s2 _ _ hd) ((mem_dn (by omega)).mpr (by omega)), ?_⟩
        exact h1 _ rfl _ (Same.refl _)
      · intro D H2 hD s2 hL
        rw [filt_ints (fun j => ((cg n ((j + 2) * e) : Nat) : Int))] at hL
        walk_at "d"
        refine ⟨n, e, 200, rfl, by omega, by omega, hn, by omega, fun H3 s3 => ?_⟩
        walk_at "d"
        refine r_sum (SqL.of (s3 _ _ hL)) ?_
        walk_at "d"
        rw [sum_range (fun j => cg n ((j + 2) * e)), hMl, cg_step hn1 (by omega) (by omega), ← hMl]
        refine ⟨_, dN_put (g := fun e => V.int ((cg n e : Nat) : Int)) (s3 _ _ (s2 _ _ hd)) (fun hm => ?_) (by rw [dn_len]; exact size_le (by omega)), ?_⟩
        · have := (mem_dn (by omega)).mp hm
          omega
        · refine hN _ _ ⟨_, _, rfl, sm_new (s1.trans (s2.trans s3)) hp, ?_⟩
          rw [upd_same, dn_succ, he]
    · rintro σ H1 ⟨v3, v4, rfl, s1, hd⟩
      walk_at "d"
      exact q p _ hp s1 hd
end
abbrev s_powers_to_floors : Stmt := top 5
theorem sc_powers_to_floors : FnScope ["number"] ["number"] (defScope s_powers_to_floors) := ⟨rfl, rfl, rfl, by decide +kernel, rfl, by decide +kernel, by decide +kernel⟩
def sp_powers_to_floors (K : PySem.W.Frag) : Sp := fun vs H Q _ => ∃ (n : Int), vs = [.int n] ∧ n < 2 ^ 200 ∧ ∀ H', Same H H' → Q (.int ((cntP n.toNat : Nat) : Int)) H'
section
variable {P : Program} {w : World} {K : PySem.W.Frag} {mg : PySem.Str → Option Value} {base : Heap}
theorem bi_powers_to_floors {f : Addr} {fd : FuncData} (F : Fun K "powers_to" "powers_to" s_powers_to_floors f fd) : Binds K fd ["number"] [] := F.binds (ps := ["number"]) fun _ _ _ _ _ _ us hl => match us, hl with | [_], _ => rfl
set_option maxHeartbeats 4000000 in
theorem ok_powers_to_floors {f : Addr} {fd : FuncData} (F : Fun K "powers_to" "powers_to" s_powers_to_floors f fd) (B : Bt mg)  (h_just_by : Fn P w K mg base CX0 11 "just_by" ["number"] (sp_just_by K)) : FnOk P w K mg base CX0 12 f fd ["number"] (sp_powers_to_floors K) := by
  refine F.ok sc_powers_to_floors (fun vs H Q E h => ?_) (fun cdv A outer s H vs Q E hr h => ?_)
  · obtain ⟨n, rfl, hn, q⟩ := h
    rfl
  · obtain ⟨n, rfl, hn, q⟩ := h
    refine ⟨_, (pss_cons (ps_if (pt_cmpR op_lt (pv 0) pe_int (nomark _))
        (pss_one (ps_ret pe_int))
        pss_nil)
      (pss_one (ps_ret (pe_op op_add pe_int (pe_callB (k_sum K) (by rfl) B.sum (by decide +kernel) (pa_cons (LiV.pe_listVals rfl (pe_fn h_just_by (hr.mono (by decide)) (by rfl) (pa_cons (pv 0) pa_nil)) (by rfl) B.list (by decide +kernel)) pa_nil)))))), ?_⟩
    walk_at "d"
    refine ite2 (fun h0 => ?_) (fun h0 => ?_)
    · have := q _ (Same.refl _)
      rw [show n.toNat = 0 by omega, cntP_zero] at this
      exact this
    · obtain ⟨m, rfl⟩ : ∃ m : Nat, n = (m : Int) := ⟨n.toNat, by omega⟩
      simp only [Int.toNat_natCast] at q
      refine ⟨m, rfl, by omega, by omega, fun p H1 hp s1 hd => ?_⟩
      refine ⟨_, rfl, _, hd, fun l hl => ?_⟩
      walk_at "d"
      refine r_sum (ns := (dn (max 1 m.log2) (max 1 m.log2 - 1)).map fun e => ((cg m e : Nat) : Int)) (SqL.of ?_) ?_
      · rw [upd_same, dN_vals, List.map_map]
        rfl
      · walk_at "d"
        rw [cg_all (by omega)]
        exact q _ (sm_new s1 (s1.free hl))
end
abbrev s_count_to : Stmt := top 8
theorem sc_count_to : FnScope ["number"] ["number"] (defScope s_count_to) := ⟨rfl, rfl, rfl, by decide +kernel, rfl, by decide +kernel, by decide +kernel⟩
def sp_count_to (K : PySem.W.Frag) : Sp := fun vs H Q _ => ∃ (n : Int), vs = [.int n] ∧ n < 2 ^ 200 ∧ ∀ H', Same H H' → Q (.int ((cntP n.toNat : Nat) : Int)) H'
section
variable {P : Program} {w : World} {K : PySem.W.Frag} {mg : PySem.Str → Option Value} {base : Heap}
theorem bi_count_to {f : Addr} {fd : FuncData} (F : Fun K "count_to" "count_to" s_count_to f fd) : Binds K fd ["number"] [] := F.binds (ps := ["number"]) fun _ _ _ _ _ _ us hl => match us, hl with | [_], _ => rfl
set_option maxHeartbeats 4000000 in
theorem ok_count_to {f : Addr} {fd : FuncData} (F : Fun K "count_to" "count_to" s_count_to f fd) (B : Bt mg)  (h_powers_to_floors : Fn P w K mg base CX0 12 "powers_to_floors" ["number"] (sp_powers_to_floors K)) : FnOk P w K mg base CX0 13 f fd ["number"] (sp_count_to K) := by
  refine F.ok sc_count_to (fun vs H Q E h => ?_) (fun cdv A outer s H vs Q E hr h => ?_)
  · obtain ⟨n, rfl, hn, q⟩ := h
    rfl
  · obtain ⟨n, rfl, hn, q⟩ := h
    refine ⟨_, (pss_one (ps_ret (pe_fn h_powers_to_floors (hr.mono (by decide)) (by rfl) (pa_cons (pv 0) pa_nil)))), ?_⟩
    walk_at "w"
    exact ⟨n, rfl, hn, q⟩
end
abbrev s_taken : Stmt := top 17
theorem sc_taken : FnScope ["base", "exponent", "found"] ["base", "exponent"] (defScope s_taken) := ⟨rfl, rfl, rfl, by decide +kernel, rfl, by decide +kernel, by decide +kernel⟩
def sp_taken (K : PySem.W.Frag) : Sp := fun vs H Q _ => ∃ (b e a : Nat), vs = [.int (b : Int), .int (e : Int)] ∧ (b < 2 ^ a ∨ e = 0) ∧ a * e ≤ 300000 ∧ Q (.int ((b ^ e : Nat) : Int)) H
section
variable {P : Program} {w : World} {K : PySem.W.Frag} {mg : PySem.Str → Option Value} {base : Heap}
theorem bi_taken {f : Addr} {fd : FuncData} (F : Fun K "taken" "taken" s_taken f fd) : Binds K fd ["base", "exponent"] [] := F.binds (ps := ["base", "exponent"]) fun _ _ _ _ _ _ us hl => match us, hl with | [_, _], _ => rfl
set_option maxHeartbeats 4000000 in
theorem ok_taken {f : Addr} {fd : FuncData} (F : Fun K "taken" "taken" s_taken f fd) (B : Bt mg)   : FnOk P w K mg base CX0 1 f fd ["base", "exponent"] (sp_taken K) := by
  refine F.ok sc_taken (fun vs H Q E h => ?_) (fun cdv A outer s H vs Q E hr h => ?_)
  · obtain ⟨b, e, a, rfl, hb, ha, q⟩ := h
    rfl
  · obtain ⟨b, e, a, rfl, hb, ha, q⟩ := h
    refine ⟨_, (pss_cons (ps_set (i := 2) sc_taken.nd rfl (Or.inl rfl) pe_int)
      (pss_cons (ps_while PassesOwn.never (pt_cmpR op_gt (pv 1) pe_int (nomark _))
        (pss_cons (ps_if (pt_cmpR op_eq (pe_op op_mod (pv 1) pe_int) pe_int (nomark _))
          (pss_one (ps_set (i := 2) sc_taken.nd rfl (Or.inl rfl) (pe_op op_mulW (pv 2) (pv 0))))
          pss_nil)
        (pss_cons (ps_set (i := 0) sc_taken.nd rfl (Or.inl rfl) (pe_op op_mulW (pv 0) (pv 0)))
        (pss_one (ps_set (i := 1) sc_taken.nd rfl (Or.inl rfl) (pe_op op_fdiv (pv 1) pe_int))))))
      (pss_one (ps_ret (pv 2))))), ?_⟩
    walk_at "w"
    have hX : b ^ e ≤ 2 ^ (a * e) := by
      rcases hb with hb | rfl
      · rw [Nat.pow_mul]
        exact Nat.pow_le_pow_left (by omega) e
      · simp
    refine while_m (fun m σ H' => ∃ f b' e' : Nat, σ = [some (.int b'), some (.int e'), some (.int f)] ∧ H' = H ∧ e' = m ∧ f * b' ^ e' = b ^ e ∧ f ≤ 2 ^ (a * e) ∧ (0 < e' → b' ≤ 2 ^ (a * e)) ∧ (f = 0 → b' = 0)) e ?_ ?_
    · refine ⟨1, b, e, rfl, rfl, rfl, by simp, Nat.one_le_two_pow, fun he => ?_, by omega⟩
      exact Nat.le_trans (Nat.le_self_pow (by omega) b) hX
    · rintro m σ H' ⟨f, b', e', rfl, rfl, rfl, h1, h2, h3, h4⟩ G hG
      walk_at "w"
      refine ite2 (fun hc => hG _ _ fun N hN => ?_) (fun hc => ?_)
      · have he : 0 < e' := by omega
        have hl1 := log2_le_of_le h2
        have hl2 := log2_le_of_le (h3 he)
        walk_at "w"
        refine ⟨by decide, ite2 (fun ho => ?_) (fun ho => ?_)⟩
        · have ho' : e' % 2 = 1 := by omega
          refine ⟨cmulN (by omega), cmulN (by omega), by unfold CDiv; omega, hN (e' / 2) _ _ (by omega) ⟨f * b', b' * b', e' / 2, by simp, rfl, rfl, tk_step1 h1 ho', tk_odd h1 hX he, fun h0 => ?_, fun h0 => ?_⟩⟩
          · rcases Nat.eq_zero_or_pos f with hf | hf
            · simp [h4 hf]
            · exact tk_sq h1 hX (by omega) h4
          · rcases Nat.mul_eq_zero.mp h0 with hf | hf
            · simp [h4 hf]
            · simp [hf]
        · have ho' : e' % 2 = 0 := by omega
          refine ⟨cmulN (by omega), by unfold CDiv; omega, hN (e' / 2) _ _ (by omega) ⟨f, b' * b', e' / 2, by simp, rfl, rfl, tk_step0 h1 ho', h2, fun h0 => tk_sq h1 hX (by omega) h4, fun h0 => by simp [h4 h0]⟩⟩
      · have he : e' = 0 := by omega
        subst he
        rw [Nat.pow_zero, Nat.mul_one] at h1
        rw [h1]
        exact q
end
abbrev s_root_of : Stmt := top 18
theorem sc_root_of : FnScope ["number", "exponent", "low", "high", "between"] ["number", "exponent"] (defScope s_root_of) := ⟨rfl, rfl, rfl, by decide +kernel, rfl, by decide +kernel, by decide +kernel⟩
def sp_root_of (K : PySem.W.Frag) : Sp := fun vs H Q _ => ∃ (n e c : Nat), vs = [.int (n : Int), .int (e : Int)] ∧ 1 ≤ e ∧ n < 2 ^ c ∧ c + 2 * e ≤ 300000 ∧
  ∀ (r : Nat) (p : Addr), r ^ e ≤ n → n < (r + 1) ^ e → H p = none → Q (.ref p) (upd H p (.tup [.int (r : Int), .int ((n - r ^ e : Nat) : Int)]))
theorem rt_bits {j e n c : Nat} (h1 : (2 ^ j) ^ e ≤ n) (hn : n < 2 ^ c) : j * e < c := by
  rw [← Nat.pow_mul] at h1
  exact (Nat.pow_lt_pow_iff_right (by omega : 1 < 2)).mp (Nat.lt_of_le_of_lt h1 hn)
section
variable {P : Program} {w : World} {K : PySem.W.Frag} {mg : PySem.Str → Option Value} {base : Heap}
theorem bi_root_of {f : Addr} {fd : FuncData} (F : Fun K "root_of" "root_of" s_root_of f fd) : Binds K fd ["number", "exponent"] [] := F.binds (ps := ["number", "exponent"]) fun _ _ _ _ _ _ us hl => match us, hl with | [_, _], _ => rfl
set_option maxHeartbeats 4000000 in
theorem ok_root_of {f : Addr} {fd : FuncData} (F : Fun K "root_of" "root_of" s_root_of f fd) (B : Bt mg)  (h_taken : Fn P w K mg base CX0 1 "taken" ["base", "exponent"] (sp_taken K)) : FnOk P w K mg base CX0 2 f fd ["number", "exponent"] (sp_root_of K) := by
  refine F.ok sc_root_of (fun vs H Q E h => ?_) (fun cdv A outer s H vs Q E hr h => ?_)
  · obtain ⟨n, e, c, rfl, he, hn, hc, q⟩ := h
    rfl
  · obtain ⟨n, e, c, rfl, he, hn, hc, q⟩ := h
    refine ⟨_, (pss_cons (ps_set (i := 2) sc_root_of.nd rfl (Or.inl rfl) pe_int)
      (pss_cons (ps_set (i := 3) sc_root_of.nd rfl (Or.inl rfl) pe_int)
      (pss_cons (ps_while PassesOwn.never (pt_cmpR op_le (pe_fn h_taken (hr.mono (by decide)) (by rfl) (pa_cons (pv 3) (pa_cons (pv 1) pa_nil))) (pv 0) (nomark _))
        (pss_one (ps_set (i := 3) sc_root_of.nd rfl (Or.inl rfl) (pe_op op_mul pe_int (pv 3)))))
      (pss_cons (ps_while PassesOwn.never (pt_cmpR op_gt (pe_op op_sub (pv 3) (pv 2)) pe_int (nomark _))
        (pss_cons (ps_set (i := 4) sc_root_of.nd rfl (Or.inl rfl) (pe_op op_fdiv (pe_op op_add (pv 2) (pv 3)) pe_int))
        (pss_one (ps_if (pt_cmpR op_le (pe_fn h_taken (hr.mono (by decide)) (by rfl) (pa_cons (pv 4) (pa_cons (pv 1) pa_nil))) (pv 0) (nomark _))
          (pss_one (ps_set (i := 2) sc_root_of.nd rfl (Or.inl rfl) (pv 4)))
          (pss_one (ps_set (i := 3) sc_root_of.nd rfl (Or.inl rfl) (pv 4)))))))
      (pss_one (ps_ret (pe_tup (pa_cons (pv 2) (pa_cons (pe_op op_sub (pv 0) (pe_fn h_taken (hr.mono (by decide)) (by rfl) (pa_cons (pv 2) (pa_cons (pv 1) pa_nil)))) pa_nil))))))))), ?_⟩
    walk_at "w"
    have key : ∀ j : Nat, (j = 0 ∨ (2 ^ (j - 1)) ^ e ≤ n) → (j + 1) * e ≤ c + 2 * e := by
      intro j hj
      rcases hj with rfl | hj
      · omega
      · rcases Nat.eq_zero_or_pos j with rfl | hp
        · omega
        · have := rt_bits hj hn
          have e1 : j + 1 = (j - 1) + 2 := by omega
          rw [e1, Nat.add_mul]
          omega
    refine while_m (fun m σ H' => ∃ j : Nat, σ = [some (.int n), some (.int e), some (.int 0), some (.int ((2 ^ j : Nat) : Int)), none] ∧ H' = H ∧ m = n + 1 - j ∧ j ≤ n + 1 ∧ (j = 0 ∨ (2 ^ (j - 1)) ^ e ≤ n)) (n + 1) ⟨0, by simp, rfl, rfl, by omega, .inl rfl⟩ ?_
    rintro m σ H' ⟨j, rfl, rfl, rfl, hjn, hj⟩ G hG
    walk_at "w"
    refine ⟨2 ^ j, e, j + 1, rfl, .inl (Nat.pow_lt_pow_right (by omega) (by omega)), by have := key j hj; omega, ?_⟩
    walk_at "w"
    refine ite2 (fun ht => hG _ _ fun N hN => ?_) (fun ht => ?_)
    · have ht' : (2 ^ j) ^ e ≤ n := by omega
      have hjlt : j ≤ n := by
        have h2 : 2 ^ j ≤ (2 ^ j) ^ e := Nat.le_self_pow (by omega) _
        have h3 : j < 2 ^ j := Nat.lt_two_pow_self
        omega
      walk_at "w"
      refine ⟨by unfold CMul; omega, hN (n + 1 - (j + 1)) _ _ (by omega) ⟨j + 1, ?_, rfl, rfl, by omega, .inr (by simpa using ht')⟩⟩
      simp [Nat.pow_succ, Nat.mul_comm]
    · have ht' : n < (2 ^ j) ^ e := by omega
      refine while_m (fun m σ H2 => ∃ (lo hi : Nat) (b : Option V), σ = [some (.int n), some (.int e), some (.int lo), some (.int hi), b] ∧ H2 = H' ∧ hi - lo = m ∧ lo < hi ∧ hi ≤ 2 ^ j ∧ lo ^ e ≤ n ∧ n < hi ^ e) (2 ^ j) ⟨0, 2 ^ j, none, rfl, rfl, Nat.sub_zero _, Nat.two_pow_pos j, Nat.le_refl _, by rw [Nat.zero_pow (by omega)]; omega, ht'⟩ ?_
      rintro m σ H2 ⟨lo, hi, b, rfl, rfl, rfl, hlt, hle, h1, h2⟩ G hG
      have key2 := key j hj
      walk_at "w"
      refine ite2 (fun hw => hG _ _ fun N hN => ?_) (fun hw => ?_)
      · have e1 : ((lo : Int) + hi) / 2 = (((lo + hi) / 2 : Nat) : Int) := by omega
        have hpow : 2 ^ j < 2 ^ (j + 1) := Nat.pow_lt_pow_right (by omega) (by omega)
        walk_at "w"
        refine ⟨by unfold CDiv; omega, (lo + hi) / 2, e, j + 1, by rw [e1], .inl (by omega), by omega, ?_⟩
        walk_at "w"
        refine ite2 (fun hs => hN (hi - (lo + hi) / 2) _ _ (by omega) ⟨(lo + hi) / 2, hi, _, by rw [e1], rfl, rfl, by omega, hle, by omega, h2⟩)
          (fun hs => hN ((lo + hi) / 2 - lo) _ _ (by omega) ⟨lo, (lo + hi) / 2, _, by rw [e1], rfl, rfl, by omega, by omega, h1, by omega⟩)
      · have e2 : hi = lo + 1 := by omega
        subst e2
        walk_at "w"
        have hpow : 2 ^ j < 2 ^ (j + 1) := Nat.pow_lt_pow_right (by omega) (by omega)
        refine ⟨lo, e, j + 1, rfl, .inl (by omega), by omega, ?_⟩
        walk_at "w"
        refine ⟨by show 2 ≤ sizeLine; decide, fun p hp => ?_⟩
        have e3 : (n : Int) - ((lo ^ e : Nat) : Int) = ((n - lo ^ e : Nat) : Int) := by omega
        rw [e3]
        exact q lo p h1 h2 hp
end
abbrev s_figures_from : Stmt := top 19
theorem sc_figures_from : FnScope ["text", "first", "last"] ["text", "first"] (defScope s_figures_from) := ⟨rfl, rfl, rfl, by decide +kernel, rfl, by decide +kernel, by decide +kernel⟩
def sp_figures_from (K : PySem.W.Frag) : Sp := fun vs H Q _ => ∃ (z : PySem.Str) (f n : Nat) (pre post : List Nat), vs = [.str z, .int (f : Int)] ∧ TL.tl z = pre ++ TL.numL n ++ post ∧ pre.length = f ∧ (∀ c r, post = c :: r → ¬ (48 ≤ c ∧ c ≤ 57)) ∧ z.length ≤ 10000 ∧ Q (.int ((f + (TL.numL n).length : Nat) : Int)) H
open TL in
theorem head_ok {z : PySem.Str} {f n k : Nat} {pre post : List Nat} {H : Hp} {Q : VK} (hz : tl z = pre ++ numL n ++ post) (hf : pre.length = f) (hl : z.length ≤ 10000) (hk : k = (numL n).length) (q : Q (.int ((f + k : Nat) : Int)) H) :
    if ((f + k : Nat) : Int) = (f : Int) then False else rIxS (.str z) (.int (f : Int)) H fun x H1 => scal x (.str "0") = true ∧ if x = .str "0" then if (1 : Int) < ((f + k : Nat) : Int) - (f : Int) then False else Q (.int ((f + k : Nat) : Int)) H1 else Q (.int ((f + k : Nat) : Int)) H1 := by
  have hpos : 0 < (numL n).length := List.length_pos_iff.mpr (numL_ne n)
  rw [if_neg (by omega)]
  have hat : (numL n)[0]? = some (numL n)[0] := List.getElem?_eq_getElem hpos
  generalize (numL n)[0] = c at hat
  refine r_ixS (size_le' (by omega)) (c := c) ?_ ⟨rfl, ?_⟩
  · rw [hz, List.append_assoc, List.getElem?_append_right (by omega), hf, List.getElem?_append_left (by omega), Nat.sub_self]
    exact hat
  · by_cases e : c = 48
    · subst e
      have h0 := numL_head n hat
      subst h0
      rw [numL_zero] at hk
      have hk1 : k = 1 := hk
      rw [if_pos (by rw [str_zero]), if_neg (by omega)]
      exact q
    · rw [if_neg fun h => e (by
        rw [str_zero] at h
        injection h with h
        have := congrArg tl h
        simpa using this)]
      exact q
section
variable {P : Program} {w : World} {K : PySem.W.Frag} {mg : PySem.Str → Option Value} {base : Heap}
theorem bi_figures_from {f : Addr} {fd : FuncData} (F : Fun K "figures_from" "figures_from" s_figures_from f fd) : Binds K fd ["text", "first"] [] := F.binds (ps := ["text", "first"]) fun _ _ _ _ _ _ us hl => match us, hl with | [_, _], _ => rfl
set_option maxHeartbeats 4000000 in
theorem ok_figures_from {f : Addr} {fd : FuncData} (F : Fun K "figures_from" "figures_from" s_figures_from f fd) (B : Bt mg) (g_FIGURES_exact : GS mg "FIGURES_exact" "0123456789")  : FnOk P w K mg base CX0 1 f fd ["text", "first"] (sp_figures_from K) := by
  refine F.ok sc_figures_from (fun vs H Q E h => ?_) (fun cdv A outer s H vs Q E hr h => ?_)
  · obtain ⟨z, f, n, pre, post, rfl, hz, hf, hp, hl, q⟩ := h
    rfl
  · obtain ⟨z, f, n, pre, post, rfl, hz, hf, hp, hl, q⟩ := h
    refine ⟨_, (pss_cons (ps_set (i := 2) sc_figures_from.nd rfl (Or.inl rfl) (pv 1))
      (pss_cons (ps_while PassesOwn.never (PW.pt (pw_and (pt_cmpR op_lt (pv 2) (pe_callB call_len_str (by rfl) B.len (by decide +kernel) (pa_cons (pv 0) pa_nil)) (nomark _)) (pw_and1 (pt_cmpR op_in_sign (pe_ix ix_str (pv 0) (pv 2) (fun _ _ => rfl)) (k_globS g_FIGURES_exact (by rfl)) (by rfl)))))
        (pss_one (ps_set (i := 2) sc_figures_from.nd rfl (Or.inl rfl) (pe_op op_add (pv 2) pe_int))))
      (pss_cons (ps_if (PW.pt (pw_or (pt_cmpR op_eq (pv 2) (pv 1) (nomark _)) (pw_or1 (PW.pt (pw_and (pt_cmpR op_eq (pe_ix ix_str (pv 0) (pv 1) (fun _ _ => rfl)) pe_str (nomark _)) (pw_and1 (pt_cmpR op_gt (pe_op op_sub (pv 2) (pv 1)) pe_int (nomark _))))))))
        (pss_one ps_void)
        pss_nil)
      (pss_one (ps_ret (pv 2)))))), ?_⟩
    have hsz : z.length ≤ sizeLine := size_le' (by omega)
    have hlen : z.length = f + (TL.numL n).length + post.length := by
      rw [len_is, hz, List.length_append, List.length_append, hf]
    have hpos : 0 < (TL.numL n).length := List.length_pos_iff.mpr (TL.numL_ne n)
    walk_at "w"
    refine while_m (fun m σ H' => ∃ k : Nat, σ = [some (.str z), some (.int (f : Int)), some (.int ((f + k : Nat) : Int))] ∧ H' = H ∧ k ≤ (TL.numL n).length ∧ (TL.numL n).length - k = m) (TL.numL n).length ⟨0, rfl, rfl, by omega, by omega⟩ ?_
    rintro m σ H' ⟨k, rfl, rfl, hk, rfl⟩ G hG
    walk_at "w"
    refine ⟨hsz, ite2 (fun hlt => ?_) (fun hlt => ?_)⟩
    · have hc : ∃ c, (TL.tl z)[f + k]? = some c ∧ (decide (c ∈ TL.tl ("0123456789" : PySem.Str)) = decide (k < (TL.numL n).length)) := by
        rcases Nat.lt_or_ge k (TL.numL n).length with c | c
        · have hat : (TL.numL n)[k]? = some (TL.numL n)[k] := List.getElem?_eq_getElem c
          refine ⟨(TL.numL n)[k], ?_, ?_⟩
          · rw [hz, List.append_assoc, List.getElem?_append_right (by omega), hf, List.getElem?_append_left (by omega), show f + k - f = k by omega]
            exact hat
          · refine decide_eq_decide.mpr ?_
            rw [fig_mem]
            exact ⟨fun _ => c, fun _ => TL.numL_digits n _ (List.getElem_mem c)⟩
        · have hk2 : k = (TL.numL n).length := by omega
          have hpl : 0 < post.length := by omega
          cases post with
          | nil => simp at hpl
          | cons c r =>
            refine ⟨c, ?_, ?_⟩
            · rw [hz, List.getElem?_append_right (by rw [List.length_append]; omega), List.length_append, hf, hk2, Nat.sub_self]
              rfl
            · refine decide_eq_decide.mpr ?_
              rw [fig_mem]
              exact ⟨fun h => absurd h (hp c r rfl), fun h => by omega⟩
      obtain ⟨c, h1, h2⟩ := hc
      refine r_ixS hsz h1 ?_
      walk_at "w"
      refine ⟨c, rfl, ?_⟩
      by_cases hk2 : k < (TL.numL n).length
      · rw [if_pos (of_decide_eq_true (h2.trans (decide_eq_true hk2)))]
        refine hG _ _ fun N hN => ?_
        have e1 : ((f + k : Nat) : Int) + 1 = ((f + (k + 1) : Nat) : Int) := by omega
        walk_at "w"
        rw [e1]
        exact hN _ _ _ (by omega) ⟨k + 1, rfl, rfl, by omega, rfl⟩
      · rw [if_neg (of_decide_eq_false (h2.trans (decide_eq_false hk2)))]
        have hk3 : k = (TL.numL n).length := by omega
        subst hk3
        exact head_ok hz hf hl rfl q
    · have hk3 : k = (TL.numL n).length := by omega
      subst hk3
      exact head_ok hz hf hl rfl q
end
abbrev s_read_number : Stmt := top 20
theorem sc_read_number : FnScope ["text", "last", "end", "exponent"] ["text"] (defScope s_read_number) := ⟨rfl, rfl, rfl, by decide +kernel, rfl, by decide +kernel, by decide +kernel⟩
def sp_read_number (K : PySem.W.Frag) : Sp := fun vs H Q _ => ∃ (z : PySem.Str), vs = [.str z] ∧ ((∃ n : Nat, TL.tl z = TL.numL n ∧ n < 2 ^ 1000 ∧ Q (.int (n : Int)) H) ∨ ∃ n e : Nat, TL.tl z = TL.numL n ++ 94 :: TL.numL e ∧ n < 2 ^ 1000 ∧ e ≤ 200 ∧ Q (.int ((n ^ e : Nat) : Int)) H)
section
variable {P : Program} {w : World} {K : PySem.W.Frag} {mg : PySem.Str → Option Value} {base : Heap}
theorem bi_read_number {f : Addr} {fd : FuncData} (F : Fun K "read_number" "read_number" s_read_number f fd) : Binds K fd ["text"] [] := F.binds (ps := ["text"]) fun _ _ _ _ _ _ us hl => match us, hl with | [_], _ => rfl
set_option maxHeartbeats 4000000 in
theorem ok_read_number {f : Addr} {fd : FuncData} (F : Fun K "read_number" "read_number" s_read_number f fd) (B : Bt mg) (g_MOST_EXPONENT_exact : GI mg "MOST_EXPONENT_exact" 200) (h_figures_from : Fn P w K mg base CX0 1 "figures_from" ["text", "first"] (sp_figures_from K)) (h_taken : Fn P w K mg base CX0 1 "taken" ["base", "exponent"] (sp_taken K)) : FnOk P w K mg base CX0 2 f fd ["text"] (sp_read_number K) := by
  refine F.ok sc_read_number (fun vs H Q E h => ?_) (fun cdv A outer s H vs Q E hr h => ?_)
  · obtain ⟨z, rfl, q⟩ := h
    rfl
  · obtain ⟨z, rfl, q⟩ := h
    refine ⟨_, (pss_cons (ps_set (i := 1) sc_read_number.nd rfl (Or.inl rfl) (pe_fn h_figures_from (hr.mono (by decide)) (by rfl) (pa_cons (pv 0) (pa_cons pe_int pa_nil))))
      (pss_cons (ps_if (pt_cmpR op_eq (pv 1) (pe_callB call_len_str (by rfl) B.len (by decide +kernel) (pa_cons (pv 0) pa_nil)) (nomark _))
        (pss_one (ps_ret (pe_callTy call_int_str (by rfl) B.int (by decide +kernel) (pa_cons (pv 0) pa_nil))))
        pss_nil)
      (pss_cons (ps_if (pt_cmpR op_ne (pe_ix ix_str (pv 0) (pv 1) (fun _ _ => rfl)) pe_str (nomark _))
        (pss_one ps_void)
        pss_nil)
      (pss_cons (ps_set (i := 2) sc_read_number.nd rfl (Or.inl rfl) (pe_fn h_figures_from (hr.mono (by decide)) (by rfl) (pa_cons (pv 0) (pa_cons (pe_op op_add (pv 1) pe_int) pa_nil))))
      (pss_cons (ps_if (pt_cmpR op_lt (pv 2) (pe_callB call_len_str (by rfl) B.len (by decide +kernel) (pa_cons (pv 0) pa_nil)) (nomark _))
        (pss_one ps_void)
        pss_nil)
      (pss_cons (ps_set (i := 3) sc_read_number.nd rfl (Or.inl rfl) (pe_callTy call_int_str (by rfl) B.int (by decide +kernel) (pa_cons (pe_slice sl_str (pv 0) (po_some (pe_op op_add (pv 1) pe_int)) (po_some (pv 2))) pa_nil)))
      (pss_cons (ps_if (pt_cmpR op_gt (pv 3) (k_globI g_MOST_EXPONENT_exact (by rfl)) (nomark _))
        (pss_one ps_void)
        pss_nil)
      (pss_one (ps_ret (pe_fn h_taken (hr.mono (by decide)) (by rfl) (pa_cons (pe_callTy call_int_str (by rfl) B.int (by decide +kernel) (pa_cons (pe_slice sl_str (pv 0) po_none (po_some (pv 1))) pa_nil)) (pa_cons (pv 3) pa_nil)))))))))))), ?_⟩
    rcases q with ⟨n, hz, hn, q⟩ | ⟨n, e, hz, hn, he, q⟩
    · have hs := numL_short hn
      have hzl : z.length = (TL.numL n).length := by rw [len_is, hz]
      walk_at "w"
      refine ⟨z, 0, n, [], [], rfl, by rw [hz]; simp, rfl, fun c r h => (by cases h), by omega, ?_⟩
      rw [Nat.zero_add]
      walk_at "w"
      refine ⟨size_le' (by omega), ?_⟩
      rw [if_pos (by omega)]
      refine ⟨(n : Int), int_of hz (by omega), by omega, q⟩
    · have hs := numL_short hn
      have hs2 := numL_short (n := e) (Nat.lt_of_le_of_lt he (by decide +kernel))
      have hpe : 0 < (TL.numL e).length := List.length_pos_iff.mpr (TL.numL_ne e)
      have hzl : z.length = (TL.numL n).length + 1 + (TL.numL e).length := by
        rw [len_is, hz, List.length_append, List.length_cons]
        omega
      walk_at "w"
      refine ⟨z, 0, n, [], 94 :: TL.numL e, rfl, by rw [hz]; simp, rfl, fun c r h => (by injection h with h1 h2; omega), by omega, ?_⟩
      rw [Nat.zero_add]
      walk_at "w"
      refine ⟨size_le' (by omega), ?_⟩
      rw [if_neg (by omega)]
      refine r_ixS (size_le' (by omega)) (c := 94) ?_ ?_
      · rw [hz, List.getElem?_append_right (Nat.le_refl _), Nat.sub_self]
        rfl
      refine ⟨rfl, ?_⟩
      rw [if_neg (fun h => h (by rw [str_hat]))]
      have e1 : (((TL.numL n).length : Nat) : Int) + 1 = (((TL.numL n).length + 1 : Nat) : Int) := by omega
      rw [e1]
      refine ⟨z, (TL.numL n).length + 1, e, TL.numL n ++ [94], [], rfl, by rw [hz]; simp, by simp, fun c r h => (by cases h), by omega, ?_⟩
      walk_at "w"
      refine ⟨size_le' (by omega), ?_⟩
      rw [if_neg (by omega)]
      have t1 : TL.tl (cutS z (some (((TL.numL n).length + 1 : Nat) : Int)) (some (((TL.numL n).length + 1 + (TL.numL e).length : Nat) : Int))) = TL.numL e := by
        rw [tl_cut z (by omega) (by omega), hz]
        have e2 : (TL.numL n ++ 94 :: TL.numL e) = (TL.numL n ++ [94]) ++ TL.numL e := by simp
        have e3 : (TL.numL n).length + 1 = (TL.numL n ++ [94]).length := by simp
        rw [e2, e3, List.drop_left, Nat.add_sub_cancel_left, List.take_length]
      have t2 : TL.tl (cutS z none (some (((TL.numL n).length : Nat) : Int))) = TL.numL n := by
        rw [tl_cutTo z (by omega), hz, List.take_left]
      refine r_slS (size_le' (by omega)) ⟨_, rfl, (e : Int), int_of t1 (by omega), by rw [len_is, t1]; omega, ?_⟩
      rw [if_neg (by omega)]
      refine r_slS (size_le' (by omega)) ⟨_, rfl, (n : Int), int_of t2 (by omega), by rw [len_is, t2]; omega, n, e, 1000, rfl, .inl hn, ?_, q⟩
      exact Nat.le_trans (Nat.mul_le_mul_left 1000 he) (by decide)
end
abbrev s_primes_in_kin : Stmt := top 22
theorem sc_primes_in_kin : FnScope ["number", "found", "prime", "many"] ["number"] (defScope s_primes_in_kin) := ⟨rfl, rfl, rfl, by decide +kernel, rfl, by decide +kernel, by decide +kernel⟩
def kpair (q : Nat × Nat) : Int × Int := ((q.1 : Int), (q.2 : Int))
def sp_primes_in_kin (K : PySem.W.Frag) : Sp := fun vs H Q _ => ∃ (n : Nat), vs = [.int (n : Int)] ∧ 1 ≤ n ∧ n ≤ 10 ^ 12 ∧ ∀ (t l : Addr) (cs : List Addr) (qs : List (Nat × Nat)) (left : Nat) (R : List Nat) (H' : Hp), H t = none → Same H H' → H' t = some (.lst [.ref l, .int (left : Int)]) → H' l = some (.lst (cs.map V.ref)) → DicT.Prs H' cs (qs.map kpair) → KinOf n qs left R → qs.length ≤ 40 → Q (.ref t) H'
theorem ex_len : ∀ {qs : List (Nat × Nat)}, (∀ q ∈ qs, 2 ≤ q.1 ∧ 1 ≤ q.2) → qs.length ≤ (ex qs).length
  | [], _ => Nat.le_refl _
  | q :: qs, h => by
    have e : ex (q :: qs) = List.replicate q.2 q.1 ++ ex qs := rfl
    have ih := ex_len (qs := qs) fun x hx => h x (List.mem_cons_of_mem _ hx)
    have h0 := (h q List.mem_cons_self).2
    rw [e, List.length_append, List.length_replicate, List.length_cons]
    omega
theorem pf_len40 {n : Nat} (h1 : 1 ≤ n) (h : n ≤ 10 ^ 12) : (pf n).length < 40 := by
  have h2 : ∀ l : List Nat, (∀ x ∈ l, 2 ≤ x) → 2 ^ l.length ≤ prodL l := by
    intro l
    induction l with
    | nil => intro _; exact Nat.le_refl _
    | cons a l ih =>
      intro hl
      rw [List.length_cons, Nat.pow_succ, prodL_cons, Nat.mul_comm]
      exact Nat.mul_le_mul (hl a List.mem_cons_self) (ih fun x hx => hl x (List.mem_cons_of_mem _ hx))
  have h3 := h2 (pf n) fun x hx => (pf_mem hx).1
  rw [pf_prod h1] at h3
  exact (Nat.pow_lt_pow_iff_right (by omega : 1 < 2)).mp (Nat.lt_of_le_of_lt h3 (Nat.lt_of_le_of_lt h (by decide)))
section
variable {P : Program} {w : World} {K : PySem.W.Frag} {mg : PySem.Str → Option Value} {base : Heap}
theorem bi_primes_in_kin {f : Addr} {fd : FuncData} (F : Fun K "primes_in" "primes_in" s_primes_in_kin f fd) : Binds K fd ["number"] [] := F.binds (ps := ["number"]) fun _ _ _ _ _ _ us hl => match us, hl with | [_], _ => rfl
set_option maxHeartbeats 4000000 in
theorem ok_primes_in_kin {f : Addr} {fd : FuncData} (F : Fun K "primes_in" "primes_in" s_primes_in_kin f fd) (B : Bt mg)   : FnOk P w K mg base CX0 1 f fd ["number"] (sp_primes_in_kin K) := by
  refine F.ok sc_primes_in_kin (fun vs H Q E h => ?_) (fun cdv A outer s H vs Q E hr h => ?_)
  · obtain ⟨n, rfl, hn1, hn, q⟩ := h
    rfl
  · obtain ⟨n, rfl, hn1, hn, q⟩ := h
    refine ⟨_, (pss_cons (ps_set (i := 1) sc_primes_in_kin.nd rfl (Or.inl rfl) (pe_lst pa_nil))
      (pss_cons (ps_set (i := 2) sc_primes_in_kin.nd rfl (Or.inl rfl) pe_int)
      (pss_cons (ps_while PassesOwn.never (pt_cmpR op_le (pe_op op_mulW (pe_op op_mulW (pv 2) (pv 2)) (pv 2)) (pv 0) (nomark _))
        (pss_cons (ps_set (i := 3) sc_primes_in_kin.nd rfl (Or.inl rfl) pe_int)
        (pss_cons (ps_while PassesOwn.never (pt_cmpR op_eq (pe_op op_mod (pv 0) (pv 2)) pe_int (nomark _))
          (pss_cons (ps_set (i := 0) sc_primes_in_kin.nd rfl (Or.inl rfl) (pe_op op_fdivW (pv 0) (pv 2)))
          (pss_one (ps_set (i := 3) sc_primes_in_kin.nd rfl (Or.inl rfl) (pe_op op_add (pv 3) pe_int)))))
        (Evl.pss_cut (ps_if (pt_cmpR op_gt (pv 3) pe_int (nomark _))
          (pss_one (ps_expr (pe_bm PySem.F.plainAttrs_list PySem.F.slot_list_append PySem.F.type_list_append mt_append (pv 1) (pa_cons (pe_tup (pa_cons (pv 2) (pa_cons (pv 3) pa_nil))) pa_nil))))
          pss_nil)
        (pss_one (ps_set (i := 2) sc_primes_in_kin.nd rfl (Or.inl rfl) (pe_op op_add (pv 2) pe_int)))))))
      (pss_one (ps_ret (pe_lst (pa_cons (pv 1) (pa_cons (pv 0) pa_nil)))))))), ?_⟩
    walk_at "z"
    refine ⟨Nat.zero_le _, fun l hl => ?_⟩
    refine while_m (fun z σ H' => ∃ (m d : Nat) (qs : List (Nat × Nat)) (cs : List Addr) (v3 : Option V), σ = [some (.int (m : Int)), some (.ref l), some (.int (d : Int)), v3] ∧ 10002 - d = z ∧ 2 ≤ d ∧ d ≤ 10001 ∧ 1 ≤ m ∧ m ≤ n ∧ Low d m ∧ ex qs ++ pfT d m = pf n ∧ (∀ q ∈ qs, 2 ≤ q.1 ∧ 1 ≤ q.2 ∧ q.1 < d) ∧ (qs.map (·.1)).Nodup ∧ Same H H' ∧ H' l = some (.lst (cs.map V.ref)) ∧ DicT.Prs H' cs (qs.map kpair)) 10000 ⟨n, 2, [], [], _, rfl, rfl, by omega, by omega, hn1, Nat.le_refl _, low_2 n, rfl, fun q hq => (by cases hq), List.nodup_nil, same_new hl, upd_same, ⟨rfl, fun i c p h => (by cases h)⟩⟩ ?_
    rintro z σ H1 ⟨m, d, qs, cs, v3, rfl, rfl, hd, hd2, hm, hmn, hlow, heq, hqs, hnd, s1, hL, hP⟩ G hG
    have e1 : (d : Int) * (d : Int) = ((d * d : Nat) : Int) := by push_cast; rfl
    have e2 : ((d * d : Nat) : Int) * (d : Int) = ((d * d * d : Nat) : Int) := by push_cast; rfl
    have hdd : d * d ≤ 10001 * 10001 := Nat.mul_le_mul hd2 hd2
    walk_at "z"
    rw [e1, e2]
    refine ⟨wide_mul (a := 64) (b := 64) (by omega) (by omega) (by decide) (by decide) (by decide), wide_mul (a := 64) (b := 64) (by omega) (by omega) (by decide) (by decide) (by decide), ite2 (fun hw => hG _ _ fun N hN => ?_) (fun hw => ?_)⟩
    · have hd3 : d ≤ 10000 := by
        refine Nat.le_of_lt_succ (Nat.lt_of_not_le fun c => ?_)
        have h4 : 10001 * 10001 * 10001 ≤ d * d * d := Nat.mul_le_mul (Nat.mul_le_mul c c) c
        omega
      walk_at "z"
      refine while_m (fun z σ H' => ∃ (m' many : Nat), σ = [some (.int (m' : Int)), some (.ref l), some (.int (d : Int)), some (.int (many : Int))] ∧ H' = H1 ∧ m' = z ∧ 1 ≤ m' ∧ m' ≤ m ∧ Low d m' ∧ ex qs ++ (List.replicate many d ++ pfT d m') = pf n) m ⟨m, 0, rfl, rfl, rfl, hm, Nat.le_refl _, hlow, heq⟩ ?_
      rintro z σ H2 ⟨m2, many, rfl, rfl, rfl, hm2, hm2m, hlow2, heq2⟩ G2 hG2
      walk_at "z"
      refine ⟨by omega, ite2 (fun hw2 => hG2 _ _ fun N2 hN2 => ?_) (fun hw2 => ?_)⟩
      · have hdv : d ∣ m2 := Nat.dvd_of_mod_eq_zero (by omega)
        have hlt : m2 / d < m2 := Nat.div_lt_self (by omega) (by omega)
        have hge : 1 ≤ m2 / d := Nat.div_pos (Nat.le_of_dvd hm2 hdv) (by omega)
        have e3 : (m2 : Int) / (d : Int) = ((m2 / d : Nat) : Int) := by push_cast; rfl
        walk_at "z"
        rw [e3]
        refine ⟨wide_div (b := 64) (by omega) (by omega) (by decide) (by decide), hN2 _ _ _ hlt ⟨m2 / d, many + 1, rfl, rfl, rfl, hge, by omega, low_div hlow2 hdv, ?_⟩⟩
        rw [List.replicate_succ', List.append_assoc, List.singleton_append, ← pfT_dvd hd hm2 hlow2 hdv]
        exact heq2
      · have hnd2 : ¬ d ∣ m2 := fun z => hw2 (by have := Nat.mod_eq_zero_of_dvd z; omega)
        rw [pfT_up hd hnd2] at heq2
        have hlow3 := low_up hlow2 hnd2
        have e4 : (d : Int) + 1 = ((d + 1 : Nat) : Int) := by omega
        have sl : 1000 < sizeLine := by decide
        have hql : qs.length < 40 := by
          have h1 := ex_len (qs := qs) fun q hq => ⟨(hqs q hq).1, (hqs q hq).2.1⟩
          have h2 := pf_len40 hn1 hn
          rw [← heq, List.length_append] at h2
          omega
        refine cut_m (fun σ H' => ∃ (qs' : List (Nat × Nat)) (cs' : List Addr), σ = [some (.int (m2 : Int)), some (.ref l), some (.int (d : Int)), some (.int (many : Int))] ∧ ex qs' ++ pfT (d + 1) m2 = pf n ∧ (∀ q ∈ qs', 2 ≤ q.1 ∧ 1 ≤ q.2 ∧ q.1 < d + 1) ∧ (qs'.map (·.1)).Nodup ∧ Same H H' ∧ H' l = some (.lst (cs'.map V.ref)) ∧ DicT.Prs H' cs' (qs'.map kpair)) (fun N2 hN2 => ?_) ?_
        · walk_at "z"
          refine ite2 (fun hc => ?_) (fun hc => ?_)
          · refine ⟨ty_list (SqL.of hL), by omega, fun u hu => ?_⟩
            have nu := ne_of_none hL hu
            have hcl : cs.length < 40 := by rw [hP.1, List.length_map]; exact hql
            refine r_app ((upd_ne nu).trans hL) (by rw [List.length_map]; omega) ?_
            refine hN2 _ _ ⟨qs ++ [(d, many)], cs ++ [u], rfl, ?_, fun q hq => ?_, ?_, fun b o hb => ?_, by rw [upd_same]; simp, ?_⟩
            · rw [ex_snoc, List.append_assoc]
              exact heq2
            · rcases List.mem_append.mp hq with c | c
              · have := hqs q c
                omega
              · rw [List.mem_singleton] at c
                subst c
                exact ⟨hd, by show 1 ≤ many; omega, by show d < d + 1; omega⟩
            · rw [List.map_append, List.nodup_append]
              refine ⟨hnd, by simp, fun x hx y hy e => ?_⟩
              simp at hy
              obtain ⟨q, hq, rfl⟩ := List.mem_map.mp hx
              have := (hqs q hq).2.2
              omega
            · rw [upd_ne (ne_of_none hb hl), upd_ne (ne_of_none (s1 _ _ hb) hu)]
              exact s1 _ _ hb
            · rw [List.map_append]
              exact (hP.upd (o := .lst (cs.map V.ref ++ [V.ref u])) hL hu).snoc ((upd_ne nu.symm).trans upd_same)
          · have h0 : many = 0 := by omega
            subst h0
            exact hN2 _ _ ⟨qs, cs, rfl, heq2, fun q hq => by have := hqs q hq; omega, hnd, s1, hL, hP⟩
        · rintro σ H3 ⟨qs', cs', rfl, g1, g2, g3, g4, g5, g6⟩
          walk_at "z"
          rw [e4]
          exact hN _ _ _ (by omega) ⟨m2, d + 1, qs', cs', _, rfl, rfl, by omega, by omega, hm2, by omega, hlow3, g1, g2, g3, g4, g5, g6⟩
    · walk_at "z"
      obtain ⟨r1, r2⟩ := rest_two hd hm hlow (by omega)
      have hql : qs.length < 40 := by
        have h1 := ex_len (qs := qs) fun q hq => ⟨(hqs q hq).1, (hqs q hq).2.1⟩
        have h2 := pf_len40 hn1 hn
        rw [← heq, List.length_append] at h2
        omega
      refine ⟨by show 2 ≤ sizeLine; decide, fun t ht => ?_⟩
      have st := same_new (o := .lst [V.ref l, V.int (m : Int)]) ht
      exact q t l cs qs m (pfT d m) _ (s1.free ht) (s1.trans st) upd_same (st _ _ hL) (hP.tups fun c xs e => st _ _ e) ⟨heq, pfT_prod _ d m (Nat.le_refl _) hd hm, r1, fun p hp hin => by
        obtain ⟨q, hq, rfl⟩ := List.mem_map.mp hin
        have h3 := r2 _ hp
        have h4 := (hqs q hq).2.2
        omega, hnd, fun q hq => ⟨(hqs q hq).1, (hqs q hq).2.1⟩⟩ (by omega)
end
abbrev s_is_full : Stmt := top 24
theorem sc_is_full : FnScope ["number", "found", "left", "prime", "many"] ["number"] (defScope s_is_full) := ⟨rfl, rfl, rfl, by decide +kernel, rfl, by decide +kernel, by decide +kernel⟩
def sp_is_full (K : PySem.W.Frag) : Sp := fun vs H Q _ => ∃ (n : Nat), vs = [.int (n : Int)] ∧ 1 ≤ n ∧ n ≤ 10 ^ 12 ∧ ∀ (b : Bool) (H' : Hp), Same H H' → (b = true ↔ FullN n) → Q (.bl b) H'
section
variable {P : Program} {w : World} {K : PySem.W.Frag} {mg : PySem.Str → Option Value} {base : Heap}
theorem bi_is_full {f : Addr} {fd : FuncData} (F : Fun K "is_full" "is_full" s_is_full f fd) : Binds K fd ["number"] [] := F.binds (ps := ["number"]) fun _ _ _ _ _ _ us hl => match us, hl with | [_], _ => rfl
set_option maxHeartbeats 4000000 in
theorem ok_is_full {f : Addr} {fd : FuncData} (F : Fun K "is_full" "is_full" s_is_full f fd) (B : Bt mg)  (h_primes_in_kin : Fn P w K mg base CX0 1 "primes_in_kin" ["number"] (sp_primes_in_kin K)) (h_root_of : Fn P w K mg base CX0 2 "root_of" ["number", "exponent"] (sp_root_of K)) : FnOk P w K mg base CX0 3 f fd ["number"] (sp_is_full K) := by
  refine F.ok sc_is_full (fun vs H Q E h => ?_) (fun cdv A outer s H vs Q E hr h => ?_)
  · obtain ⟨n, rfl, hn1, hn, q⟩ := h
    rfl
  · obtain ⟨n, rfl, hn1, hn, q⟩ := h
    refine ⟨_, (pss_cons (ps_if (pt_cmpR op_lt (pv 0) pe_int (nomark _))
        (pss_one (ps_ret pe_bl))
        pss_nil)
      (pss_cons (ps_asg (pe_fn h_primes_in_kin (hr.mono (by decide)) (by rfl) (pa_cons (pv 0) pa_nil)) (k_lstG K rfl (pgs_cons (pg_name (i := 1) sc_is_full.nd rfl (Or.inl rfl)) (pgs_cons (pg_name (i := 2) sc_is_full.nd rfl (Or.inl rfl)) pgs_nil))))
      (pss_cons (ps_if (pt_cmpR (k_neD K rfl hr.units) (pe_lc (own := [("prime", 3), ("many", 4)]) (g := gTup K 2 (gCons (gName 3) (gCons (gName 4) gNil))) rfl sc_is_full.nd (pi_list (pv 1)) (blkOk_by (own := [("prime", 3), ("many", 4)]) (N := ["number", "found", "left", "prime", "many"]) (sc := defScope s_is_full) (by decide +kernel)) (fun _ _ _ _ _ => (pg_tup rfl (pgs_cons (pg_name (i := 3) sc_is_full.nd rfl (Or.inl rfl)) (pgs_cons (pg_name (i := 4) sc_is_full.nd rfl (Or.inl rfl)) pgs_nil)))) (fun _ _ _ _ _ => (pts_one (pt_cmpR op_lt (pv 4) pe_int (nomark _)))) (fun _ _ _ _ _ => (pv 3))) (pe_lst pa_nil) (nomark _))
        (pss_one (ps_ret pe_bl))
        pss_nil)
      (pss_one (ps_ret (pe_cmpR op_eq (pe_ix (k_ixT K) (pe_fn h_root_of (hr.mono (by decide)) (by rfl) (pa_cons (pv 2) (pa_cons pe_int pa_nil))) pe_int (fun _ _ => rfl)) pe_int (nomark _))))))), ?_⟩
    walk_at "z"
    rw [if_neg (by omega)]
    refine ⟨n, rfl, hn1, hn, fun t l cs qs left R H1 ht s1 hT hL hP hK hql => ?_⟩
    walk_at "z"
    have sl : 1000 < sizeLine := by decide
    have h2n : n < 2 ^ 40 := Nat.lt_of_le_of_lt hn (by decide)
    have hleft := hK.left_le hn1
    have hcl : cs.length ≤ 40 := by rw [hP.1, List.length_map]; exact hql
    refine ⟨_, SqL.of hT, rfl, ?_⟩
    walk_at "z"
    refine ⟨⟨_, SqL.of hL⟩, lc_lI (xs := cs.map V.ref) (fun i acc H' => Same H1 H' ∧ acc.length ≤ i ∧ ∃ ns : List Int, acc = ns.map V.int ∧ (ns = [] ↔ ∀ q ∈ qs.take i, 2 ≤ q.2)) (fun D hD => ⟨same_new hD, Nat.le_refl _, [], rfl, ⟨fun _ q hq => by simp at hq, fun _ => rfl⟩⟩) (fun i acc H' _ h => SqL.of (h.1 _ _ hL)) ?_ ?_⟩
    · rintro i x acc D H2 hx hD hacc ⟨s2, hl2, ns, rfl, hns⟩ N0 N1 n0 n1
      obtain ⟨c, p, rfl, hp, hc⟩ := (hP.same s2).at hx
      rw [List.getElem?_map] at hp
      cases eq : qs[i]? with
      | none =>
        rw [eq] at hp
        cases hp
      | some w0 =>
        rw [eq] at hp
        cases hp
        have hi : i < qs.length := (List.getElem?_eq_some_iff.mp eq).1
        have et : qs.take (i + 1) = qs.take i ++ [w0] := by rw [List.take_add_one, eq, Option.toList_some]
        refine ⟨c, _, rfl, SqT.of hc, rfl, ?_⟩
        simp only [kpair]
        walk_at "z"
        refine ite2 (fun h2 => ?_) (fun h2 => ?_)
        · refine n1 _ _ hacc (by omega) ⟨fun b o hb => (upd_ne (ne_of_none hb hD)).trans (s2 _ _ hb), by rw [List.length_append]; show _ + 1 ≤ i + 1; omega, ns ++ [(w0.1 : Int)], by simp, ?_⟩
          rw [et]
          constructor
          · intro z
            simp at z
          · intro z
            have := z w0 (by simp)
            omega
        · refine n0 _ hacc ⟨s2, by omega, ns, rfl, ?_⟩
          rw [hns, et]
          constructor
          · intro z q hq
            rcases List.mem_append.mp hq with y | y
            · exact z q y
            · rw [List.mem_singleton] at y
              subst y
              omega
          · exact fun z q hq => z q (List.mem_append_left _ hq)
    · rintro D acc H2 hD hacc ⟨s2, hl2, ns, rfl, hns⟩
      have et : qs.take (cs.map V.ref).length = qs := by rw [List.length_map, hP.1, List.length_map, List.take_length]
      rw [et] at hns
      refine ⟨by omega, fun u hu => ?_⟩
      have su := same_new (o := .lst []) hu
      refine r_neL (ns := ns) (ms := []) (SqL.of (su _ _ hacc)) (SqL.of upd_same) ⟨_, rfl, ?_⟩
      have hf := hK.full
      have s02 := s1.trans (s2.trans su)
      generalize upd H2 u (.lst []) = H3 at su s02 ⊢
      by_cases hz : ns = []
      · rw [if_neg (by simp [hz])]
        refine ⟨left, 2, 40, rfl, by omega, by omega, by omega, fun r t2 h1 h2 ht2 => ?_⟩
        have er := rootN_is (by omega) h1 h2
        subst er
        refine r_ixT (SqT.of upd_same) (v := .int ((left - rootN left 2 ^ 2 : Nat) : Int)) rfl ?_
        walk_at "z"
        refine q _ _ (s02.trans (same_new ht2)) ?_
        rw [hf]
        simp only [decide_eq_true_eq]
        have hall := hns.mp hz
        constructor
        · intro z
          exact ⟨hall, rootN left 2, by rw [← Nat.pow_two]; omega⟩
        · rintro ⟨_, r, hr⟩
          have : rootN left 2 = r := by rw [hr, ← Nat.pow_two]; exact rootN_pow (by omega)
          rw [this, hr, ← Nat.pow_two]
          omega
      · rw [if_pos (by simp [hz])]
        refine q _ _ s02 ⟨fun z => (by cases z), fun z => ?_⟩
        exact absurd (hns.mpr (hf.mp z).1) hz
end
abbrev s_greatest_in : Stmt := top 25
theorem sc_greatest_in : FnScope ["number", "exponent", "found", "left", "greatest", "prime", "many", "root", "rest"] ["number", "exponent"] (defScope s_greatest_in) := ⟨rfl, rfl, rfl, by decide +kernel, rfl, by decide +kernel, by decide +kernel⟩
def sp_greatest_in (K : PySem.W.Frag) : Sp := fun vs H Q _ => ∃ (n e : Nat), vs = [.int (n : Int), .int (e : Int)] ∧ 1 ≤ n ∧ n ≤ 10 ^ 12 ∧ 2 ≤ e ∧ e ≤ 200 ∧ ∀ (g : Nat) (H' : Hp), Same H H' → (g = 1 ↔ FreeN n e) → Q (.int (g : Int)) H'
section
variable {P : Program} {w : World} {K : PySem.W.Frag} {mg : PySem.Str → Option Value} {base : Heap}
theorem bi_greatest_in {f : Addr} {fd : FuncData} (F : Fun K "greatest_in" "greatest_in" s_greatest_in f fd) : Binds K fd ["number", "exponent"] [] := F.binds (ps := ["number", "exponent"]) fun _ _ _ _ _ _ us hl => match us, hl with | [_, _], _ => rfl
set_option maxHeartbeats 4000000 in
theorem ok_greatest_in {f : Addr} {fd : FuncData} (F : Fun K "greatest_in" "greatest_in" s_greatest_in f fd) (B : Bt mg)  (h_primes_in_kin : Fn P w K mg base CX0 1 "primes_in_kin" ["number"] (sp_primes_in_kin K)) (h_taken : Fn P w K mg base CX0 1 "taken" ["base", "exponent"] (sp_taken K)) (h_root_of : Fn P w K mg base CX0 2 "root_of" ["number", "exponent"] (sp_root_of K)) : FnOk P w K mg base CX0 3 f fd ["number", "exponent"] (sp_greatest_in K) := by
  refine F.ok sc_greatest_in (fun vs H Q E h => ?_) (fun cdv A outer s H vs Q E hr h => ?_)
  · obtain ⟨n, e, rfl, hn1, hn, he, he2, q⟩ := h
    rfl
  · obtain ⟨n, e, rfl, hn1, hn, he, he2, q⟩ := h
    refine ⟨_, (pss_cons (ps_asg (pe_fn h_primes_in_kin (hr.mono (by decide)) (by rfl) (pa_cons (pv 0) pa_nil)) (k_lstG K rfl (pgs_cons (pg_name (i := 2) sc_greatest_in.nd rfl (Or.inl rfl)) (pgs_cons (pg_name (i := 3) sc_greatest_in.nd rfl (Or.inl rfl)) pgs_nil))))
      (pss_cons (ps_set (i := 4) sc_greatest_in.nd rfl (Or.inl rfl) pe_int)
      (pss_cons (ps_for PassesOwn.never rfl (pi_list (pv 2)) (pg_tup rfl (pgs_cons (pg_name (i := 5) sc_greatest_in.nd rfl (Or.inl rfl)) (pgs_cons (pg_name (i := 6) sc_greatest_in.nd rfl (Or.inl rfl)) pgs_nil)))
        (pss_one (ps_set (i := 4) sc_greatest_in.nd rfl (Or.inl rfl) (pe_op op_mulW (pv 4) (pe_fn h_taken (hr.mono (by decide)) (by rfl) (pa_cons (pv 5) (pa_cons (pe_op op_fdivW (pv 6) (pv 1)) pa_nil)))))))
      (pss_cons (ps_asg (pe_fn h_root_of (hr.mono (by decide)) (by rfl) (pa_cons (pv 3) (pa_cons pe_int pa_nil))) (pg_tup rfl (pgs_cons (pg_name (i := 7) sc_greatest_in.nd rfl (Or.inl rfl)) (pgs_cons (pg_name (i := 8) sc_greatest_in.nd rfl (Or.inl rfl)) pgs_nil))))
      (Evl.pss_cut (ps_if (PW.pt (pw_and (pt_cmpR op_eq (pv 8) pe_int (nomark _)) (pw_and1 (pt_cmpR op_eq (pv 1) pe_int (nomark _)))))
        (pss_one (ps_set (i := 4) sc_greatest_in.nd rfl (Or.inl rfl) (pe_op op_mulW (pv 4) (pv 7))))
        pss_nil)
      (pss_one (ps_ret (pv 4)))))))), ?_⟩
    walk_at "z"
    refine ⟨n, rfl, hn1, hn, fun t l cs qs left R H1 ht s1 hT hL hP hK hql => ?_⟩
    walk_at "z"
    have h2n : n < 2 ^ 40 := Nat.lt_of_le_of_lt hn (by decide)
    have hleft := hK.left_le hn1
    have hl1 := hK.left_pos
    have hlp := pf_len40 hn1 hn
    refine ⟨_, SqL.of hT, rfl, ?_⟩
    walk_at "z"
    refine ⟨⟨_, SqL.of hL⟩, for_l (xs := cs.map V.ref) (fun i σ H' => H' = H1 ∧ ∃ (g : Nat) (v5 v6 : Option V), σ = [some (.int (n : Int)), some (.int (e : Int)), some (.ref l), some (.int (left : Int)), some (.int (g : Int)), v5, v6, none, none] ∧ 1 ≤ g ∧ g ≤ 2 ^ (800 * i) ∧ (g = 1 ↔ ∀ q ∈ qs.take i, q.2 < e)) ⟨rfl, 1, _, _, rfl, Nat.le_refl _, by simp, ⟨fun _ q hq => by simp at hq, fun _ => rfl⟩⟩ (fun i σ H' _ h => by rw [h.1]; exact SqL.of hL) ?_ ?_⟩
    · rintro i x σ H2 hx ⟨rfl, g, v5, v6, rfl, hg1, hg2, hg3⟩ N hN
      obtain ⟨c, p, rfl, hp, hc⟩ := hP.at hx
      rw [List.getElem?_map] at hp
      cases eq : qs[i]? with
      | none =>
        rw [eq] at hp
        cases hp
      | some w0 =>
        rw [eq] at hp
        cases hp
        have hm := List.mem_of_getElem? eq
        have hi : i < qs.length := (List.getElem?_eq_some_iff.mp eq).1
        obtain ⟨g1, g2⟩ := hK.ge w0 hm
        obtain ⟨g3, g4⟩ := hK.le hm
        have et : qs.take (i + 1) = qs.take i ++ [w0] := by rw [List.take_add_one, eq, Option.toList_some]
        have ed : (w0.2 : Int) / (e : Int) = ((w0.2 / e : Nat) : Int) := by push_cast; rfl
        have hke : w0.2 / e ≤ 20 := Nat.le_trans (Nat.div_le_div_left he (by omega)) (by omega)
        refine ⟨c, _, rfl, SqT.of hc, rfl, ?_⟩
        simp only [kpair]
        walk_at "z"
        rw [ed]
        refine ⟨wide_div (b := 64) (by omega) (by omega) (by decide) (by decide), w0.1, w0.2 / e, 40, rfl, .inl (by omega), by omega, ?_⟩
        have hpw : w0.1 ^ (w0.2 / e) ≤ 2 ^ 800 := by
          refine Nat.le_trans (Nat.pow_le_pow_left (show w0.1 ≤ 2 ^ 40 by omega) _) ?_
          rw [← Nat.pow_mul]
          exact Nat.pow_le_pow_right (by omega) (by omega)
        have l1 := log2_le_of_le hg2
        have l2 := log2_le_of_le hpw
        have em : (g : Int) * ((w0.1 ^ (w0.2 / e) : Nat) : Int) = ((g * w0.1 ^ (w0.2 / e) : Nat) : Int) := by push_cast; rfl
        walk_at "z"
        rw [em]
        refine ⟨cmulN (by omega), hN _ _ ⟨rfl, _, _, _, rfl, Nat.mul_pos hg1 (Nat.pow_pos (by omega)), ?_, ?_⟩⟩
        · rw [Nat.mul_add, Nat.mul_one, Nat.pow_add]
          exact Nat.mul_le_mul hg2 hpw
        · rw [step_one hg1 g1 (by omega), hg3, et]
          constructor
          · rintro ⟨a, b⟩ q hq
            rcases List.mem_append.mp hq with y | y
            · exact a q y
            · rw [List.mem_singleton] at y
              exact y ▸ b
          · exact fun a => ⟨fun q hq => a q (List.mem_append_left _ hq), a w0 (by simp)⟩
    · rintro σ H2 ⟨rfl, g, v5, v6, rfl, hg1, hg2, hg3⟩
      have et : qs.take (cs.map V.ref).length = qs := by rw [List.length_map, hP.1, List.length_map, List.take_length]
      have hcl : (cs.map V.ref).length ≤ 40 := by rw [List.length_map, hP.1, List.length_map]; exact hql
      rw [et] at hg3
      have hg2' : g ≤ 2 ^ 32000 := Nat.le_trans hg2 (Nat.pow_le_pow_right (by omega) (by omega))
      walk_at "z"
      refine ⟨left, 2, 40, rfl, by omega, by omega, by omega, fun r t2 h1 h2 ht2 => ?_⟩
      have er := rootN_is (by omega) h1 h2
      subst er
      have st := same_new (o := .tup [V.int ((rootN left 2 : Nat) : Int), V.int ((left - rootN left 2 ^ 2 : Nat) : Int)]) ht2
      have hfr := hK.free he
      walk_at "z"
      refine ⟨_, SqT.of upd_same, rfl, ?_⟩
      walk_at "z"
      have hsq : ∀ r, left = r * r → rootN left 2 = r := fun r hr => by rw [hr, ← Nat.pow_two]; exact rootN_pow (by omega)
      have hrl : rootN left 2 ≤ 2 ^ 40 := by
        have := Nat.le_trans (Nat.le_self_pow (by omega : 2 ≠ 0) _) h1
        omega
      refine cut_m (fun σ H' => Same H2 H' ∧ ∃ (g' : Nat) (v7 v8 : Option V), σ = [some (.int (n : Int)), some (.int (e : Int)), some (.ref l), some (.int (left : Int)), some (.int (g' : Int)), v5, v6, v7, v8] ∧ (g' = 1 ↔ FreeN n e)) (fun N hN => ?_) ?_
      · walk_at "z"
        refine ite2 (fun hz => ?_) (fun hz => ?_)
        · have hexact : left = rootN left 2 * rootN left 2 := by rw [← Nat.pow_two]; omega
          refine ite2 (fun he3 => ?_) (fun he3 => ?_)
          · have he4 : e = 2 := by omega
            have em : (g : Int) * ((rootN left 2 : Nat) : Int) = ((g * rootN left 2 : Nat) : Int) := by push_cast; rfl
            have l1 := log2_le_of_le hg2'
            have l2 := log2_le_of_le hrl
            rw [em]
            refine ⟨cmulN (by omega), hN _ _ ⟨st, _, _, _, rfl, ?_⟩⟩
            rw [hfr, mul_one_iff, hg3]
            refine and_congr_right fun _ => ⟨fun a _ r hr => by rw [← hsq r hr]; exact a, fun a => a he4 _ hexact⟩
          · exact hN _ _ ⟨st, g, _, _, rfl, by
              rw [hfr, hg3]
              exact ⟨fun a => ⟨a, fun b => absurd (by omega) he3⟩, fun a => a.1⟩⟩
        · exact hN _ _ ⟨st, g, _, _, rfl, by
            rw [hfr, hg3]
            refine ⟨fun a => ⟨a, fun _ r hr => ?_⟩, fun a => a.1⟩
            exfalso
            have h5 := hsq r hr
            rw [h5] at hz
            refine hz ?_
            rw [hr, ← Nat.pow_two]
            omega⟩
      · rintro σ H3 ⟨s3, g', v7, v8, rfl, hg⟩
        walk_at "z"
        exact q g' _ (s1.trans s3) hg
end
abbrev s_is_free : Stmt := top 26
theorem sc_is_free : FnScope ["number", "exponent"] ["number", "exponent"] (defScope s_is_free) := ⟨rfl, rfl, rfl, by decide +kernel, rfl, by decide +kernel, by decide +kernel⟩
def sp_is_free (K : PySem.W.Frag) : Sp := fun vs H Q _ => ∃ (n e : Nat), vs = [.int (n : Int), .int (e : Int)] ∧ 1 ≤ n ∧ n ≤ 10 ^ 12 ∧ 2 ≤ e ∧ e ≤ 200 ∧ ∀ (b : Bool) (H' : Hp), Same H H' → (b = true ↔ FreeN n e) → Q (.bl b) H'
section
variable {P : Program} {w : World} {K : PySem.W.Frag} {mg : PySem.Str → Option Value} {base : Heap}
theorem bi_is_free {f : Addr} {fd : FuncData} (F : Fun K "is_free" "is_free" s_is_free f fd) : Binds K fd ["number", "exponent"] [] := F.binds (ps := ["number", "exponent"]) fun _ _ _ _ _ _ us hl => match us, hl with | [_, _], _ => rfl
set_option maxHeartbeats 4000000 in
theorem ok_is_free {f : Addr} {fd : FuncData} (F : Fun K "is_free" "is_free" s_is_free f fd) (B : Bt mg)  (h_greatest_in : Fn P w K mg base CX0 3 "greatest_in" ["number", "exponent"] (sp_greatest_in K)) : FnOk P w K mg base CX0 4 f fd ["number", "exponent"] (sp_is_free K) := by
  refine F.ok sc_is_free (fun vs H Q E h => ?_) (fun cdv A outer s H vs Q E hr h => ?_)
  · obtain ⟨n, e, rfl, hn1, hn, he, he2, q⟩ := h
    rfl
  · obtain ⟨n, e, rfl, hn1, hn, he, he2, q⟩ := h
    refine ⟨_, (pss_one (ps_ret (pe_and (pe_cmpR op_gt (pv 0) pe_int (nomark _)) (pe_one (pe_cmpR op_eq (pe_fn h_greatest_in (hr.mono (by decide)) (by rfl) (pa_cons (pv 0) (pa_cons (pv 1) pa_nil))) pe_int (nomark _)))))), ?_⟩
    walk_at "z"
    rw [if_pos (by omega)]
    refine ⟨n, e, rfl, hn1, hn, he, he2, fun g H1 s1 hg => ?_⟩
    walk_at "z"
    refine q _ _ s1 ?_
    rw [← hg]
    simp only [decide_eq_true_eq]
    omega
end
abbrev s_place_of : Stmt := top 28
theorem sc_place_of : FnScope ["number"] ["number"] (defScope s_place_of) := ⟨rfl, rfl, rfl, by decide +kernel, rfl, by decide +kernel, by decide +kernel⟩
def sp_place_of (K : PySem.W.Frag) : Sp := fun vs H Q _ => ∃ (n : Nat), vs = [.int (n : Int)] ∧ n < 2 ^ 200 ∧ ∀ H', Same H H' → Q (.int ((cntP (n - 1) : Nat) : Int)) H'
section
variable {P : Program} {w : World} {K : PySem.W.Frag} {mg : PySem.Str → Option Value} {base : Heap}
theorem bi_place_of {f : Addr} {fd : FuncData} (F : Fun K "place_of" "place_of" s_place_of f fd) : Binds K fd ["number"] [] := F.binds (ps := ["number"]) fun _ _ _ _ _ _ us hl => match us, hl with | [_], _ => rfl
set_option maxHeartbeats 4000000 in
theorem ok_place_of {f : Addr} {fd : FuncData} (F : Fun K "place_of" "place_of" s_place_of f fd) (B : Bt mg)  (h_powers_to_floors : Fn P w K mg base CX0 12 "powers_to_floors" ["number"] (sp_powers_to_floors K)) : FnOk P w K mg base CX0 13 f fd ["number"] (sp_place_of K) := by
  refine F.ok sc_place_of (fun vs H Q E h => ?_) (fun cdv A outer s H vs Q E hr h => ?_)
  · obtain ⟨n, rfl, hn, q⟩ := h
    rfl
  · obtain ⟨n, rfl, hn, q⟩ := h
    refine ⟨_, (pss_one (ps_ret (pe_fn h_powers_to_floors (hr.mono (by decide)) (by rfl) (pa_cons (pe_op op_sub (pv 0) pe_int) pa_nil)))), ?_⟩
    walk_at "w"
    refine ⟨(n : Int) - 1, rfl, by omega, fun H' s => ?_⟩
    have := q H' s
    rw [show ((n : Int) - 1).toNat = n - 1 by omega]
    exact this
end
abbrev s_greater_one : Stmt := top 29
theorem sc_greater_one : FnScope ["number", "way"] ["number"] (defScope s_greater_one) := ⟨rfl, rfl, rfl, by decide +kernel, rfl, by decide +kernel, by decide +kernel⟩
def sp_greater_one (K : PySem.W.Frag) : Sp := fun vs H Q _ => ∃ (n : Nat), vs = [.int (n : Int)] ∧ n < 2 ^ 200 ∧ ∀ (g : Nat) (H' : Hp), Same H H' → (n = 0 → g = 1) → (1 ≤ n → NextPow n g) → Q (.int (g : Int)) H'
section
variable {P : Program} {w : World} {K : PySem.W.Frag} {mg : PySem.Str → Option Value} {base : Heap}
theorem bi_greater_one {f : Addr} {fd : FuncData} (F : Fun K "greater_one" "greater_one" s_greater_one f fd) : Binds K fd ["number"] [] := F.binds (ps := ["number"]) fun _ _ _ _ _ _ us hl => match us, hl with | [_], _ => rfl
set_option maxHeartbeats 4000000 in
theorem ok_greater_one {f : Addr} {fd : FuncData} (F : Fun K "greater_one" "greater_one" s_greater_one f fd) (B : Bt mg)  (h_power_of : Fn P w K mg base CX0 9 "power_of" ["base", "exponent"] (sp_power_of K)) (h_floor_root : Fn P w K mg base CX0 10 "floor_root" ["number", "exponent"] (sp_floor_root K)) (h_most_exponent : Fn P w K mg base CX0 1 "most_exponent" ["number"] (sp_most_exponent K)) : FnOk P w K mg base CX0 11 f fd ["number"] (sp_greater_one K) := by
  refine F.ok sc_greater_one (fun vs H Q E h => ?_) (fun cdv A outer s H vs Q E hr h => ?_)
  · obtain ⟨n, rfl, hn, q⟩ := h
    rfl
  · obtain ⟨n, rfl, hn, q⟩ := h
    refine ⟨_, (pss_cons (ps_if (pt_cmpR op_lt (pv 0) pe_int (nomark _))
        (pss_one (ps_ret pe_int))
        pss_nil)
      (pss_one (ps_ret (pe_callB (k_min K) (by rfl) B.min (by decide +kernel) (pa_cons (pe_lc (own := [("way", 1)]) (g := gName 1) (tt := tYes) rfl sc_greater_one.nd (pi_range2 rfl B.range (pa_cons pe_int (pa_cons (pe_op op_add (pe_fn h_most_exponent (hr.mono (by decide)) (by rfl) (pa_cons (pv 0) pa_nil)) pe_int) pa_nil))) (blkOk_by (own := [("way", 1)]) (N := ["number", "way"]) (sc := defScope s_greater_one) (by decide +kernel)) (fun _ _ _ _ _ => (pg_name (i := 1) sc_greater_one.nd rfl (Or.inl rfl))) (fun _ _ _ _ _ => pts_nil) (fun _ _ _ _ _ => (pe_fn h_power_of (hr.mono (by decide)) (by rfl) (pa_cons (pe_op op_add (pe_fn h_floor_root (hr.mono (by decide)) (by rfl) (pa_cons (pv 0) (pa_cons (pv 1) pa_nil))) pe_int) (pa_cons (pv 1) pa_nil))))) pa_nil))))), ?_⟩
    walk_at "w"
    refine ite2 (fun h0 => ?_) (fun h0 => ?_)
    · exact q 1 _ (Same.refl _) (fun _ => rfl) (fun h => by omega)
    · have hn1 : 1 ≤ n := by omega
      have hl : n.log2 < 200 := (Nat.log2_lt (by omega)).mpr hn
      refine ⟨n, rfl, ?_⟩
      walk_at "w"
      generalize hT : max 1 n.log2 = T
      have hk : ((T : Int) + 3 - 2).toNat = T + 1 := by omega
      rw [hk]
      refine ⟨by omega, by omega, by omega, by omega, lc_r (fun i => some (.int (((rootN n (2 + i) + 1) ^ (2 + i) : Nat) : Int))) (size_le (by omega)) ?_ ?_⟩
      · intro i H' hi s1 N0 N1 h0 h1
        have e2 : (2 : Int) + (i : Int) = ((2 + i : Nat) : Int) := by omega
        walk_at "w"
        rw [e2]
        have hr : rootN n (2 + i) ≤ n := Nat.le_trans (Nat.le_self_pow (by omega) _) (rootN_le (n := n) (e := 2 + i) (by omega))
        refine ⟨n, 2 + i, 200, rfl, by omega, by omega, hn, by omega, fun H2 s2 => ?_⟩
        walk_at "w"
        have ea : ((rootN n (2 + i) : Nat) : Int) + 1 = ((rootN n (2 + i) + 1 : Nat) : Int) := by omega
        rw [ea]
        refine ⟨rootN n (2 + i) + 1, 2 + i, 201, rfl, by decide, by omega, by omega, by omega, by omega, fun H3 s3 => h1 _ rfl _ (s2.trans s3)⟩
      · intro D H' hD s1 hd
        rw [filt_ints (fun i => (((rootN n (2 + i) + 1) ^ (2 + i) : Nat) : Int))] at hd
        refine r_min (SqL.of hd) (by simp) fun m hm hle => ?_
        obtain ⟨i, hi, rfl⟩ := List.mem_map.mp hm
        refine q _ _ s1 (fun h => by omega) fun _ => nextPow_of (T := T + 2) hn1 (isPow_up (by omega)) ?_ (fun m hp hm2 hbig => ?_) fun e h2 h3 => ?_
        · exact rootN_lt (by omega)
        · refine Nat.le_trans ?_ (Nat.le_trans (Nat.pow_le_pow_right (by decide) (show T + 2 ≤ T + 2 + 1 by omega)) hbig)
          have := hle (((rootN n (2 + T) + 1) ^ (2 + T) : Nat) : Int) (List.mem_map.mpr ⟨T, by simp, rfl⟩)
          rw [rootN_big hn1 (show n.log2 < 2 + T by omega)] at this
          rw [Nat.add_comm T 2]
          have e11 : (1 + 1 : Nat) = 2 := rfl
          rw [e11] at this
          omega
        · have := hle (((rootN n (2 + (e - 2)) + 1) ^ (2 + (e - 2)) : Nat) : Int) (List.mem_map.mpr ⟨e - 2, by simp; omega, rfl⟩)
          rw [show 2 + (e - 2) = e by omega] at this
          omega
end
abbrev s_power_to : Stmt := top 30
theorem sc_power_to : FnScope ["number", "way"] ["number"] (defScope s_power_to) := ⟨rfl, rfl, rfl, by decide +kernel, rfl, by decide +kernel, by decide +kernel⟩
def sp_power_to (K : PySem.W.Frag) : Sp := fun vs H Q _ => ∃ (n : Nat), vs = [.int (n : Int)] ∧ 1 ≤ n ∧ n < 2 ^ 200 ∧ ∀ (l : Nat) (H' : Hp), Same H H' → PrevPow n l → Q (.int (l : Int)) H'
section
variable {P : Program} {w : World} {K : PySem.W.Frag} {mg : PySem.Str → Option Value} {base : Heap}
theorem bi_power_to {f : Addr} {fd : FuncData} (F : Fun K "power_to" "power_to" s_power_to f fd) : Binds K fd ["number"] [] := F.binds (ps := ["number"]) fun _ _ _ _ _ _ us hl => match us, hl with | [_], _ => rfl
set_option maxHeartbeats 4000000 in
theorem ok_power_to {f : Addr} {fd : FuncData} (F : Fun K "power_to" "power_to" s_power_to f fd) (B : Bt mg)  (h_power_of : Fn P w K mg base CX0 9 "power_of" ["base", "exponent"] (sp_power_of K)) (h_floor_root : Fn P w K mg base CX0 10 "floor_root" ["number", "exponent"] (sp_floor_root K)) (h_most_exponent : Fn P w K mg base CX0 1 "most_exponent" ["number"] (sp_most_exponent K)) : FnOk P w K mg base CX0 11 f fd ["number"] (sp_power_to K) := by
  refine F.ok sc_power_to (fun vs H Q E h => ?_) (fun cdv A outer s H vs Q E hr h => ?_)
  · obtain ⟨n, rfl, hn1, hn, q⟩ := h
    rfl
  · obtain ⟨n, rfl, hn1, hn, q⟩ := h
    refine ⟨_, (pss_one (ps_ret (pe_callB (k_max K) (by rfl) B.max (by decide +kernel) (pa_cons (pe_lc (own := [("way", 1)]) (g := gName 1) (tt := tYes) rfl sc_power_to.nd (pi_range2 rfl B.range (pa_cons pe_int (pa_cons (pe_op op_add (pe_callB (call_max2 rfl) (by rfl) B.max (by decide +kernel) (pa_cons pe_int (pa_cons (pe_fn h_most_exponent (hr.mono (by decide)) (by rfl) (pa_cons (pv 0) pa_nil)) pa_nil))) pe_int) pa_nil))) (blkOk_by (own := [("way", 1)]) (N := ["number", "way"]) (sc := defScope s_power_to) (by decide +kernel)) (fun _ _ _ _ _ => (pg_name (i := 1) sc_power_to.nd rfl (Or.inl rfl))) (fun _ _ _ _ _ => pts_nil) (fun _ _ _ _ _ => (pe_fn h_power_of (hr.mono (by decide)) (by rfl) (pa_cons (pe_fn h_floor_root (hr.mono (by decide)) (by rfl) (pa_cons (pv 0) (pa_cons (pv 1) pa_nil))) (pa_cons (pv 1) pa_nil))))) pa_nil)))), ?_⟩
    have hl : n.log2 < 200 := (Nat.log2_lt (by omega)).mpr hn
    walk_at "w"
    refine ⟨n, rfl, ?_⟩
    have em : (if ((max 1 n.log2 : Nat) : Int) > 2 then ((max 1 n.log2 : Nat) : Int) else 2) = ((max 2 n.log2 : Nat) : Int) := by split <;> omega
    walk_at "w"
    rw [em]
    generalize hT : max 2 n.log2 = T
    have hk : ((T : Int) + 1 - 2).toNat = T - 1 := by omega
    rw [hk]
    refine ⟨by omega, by omega, by omega, by omega, lc_r (fun i => some (.int ((rootN n (2 + i) ^ (2 + i) : Nat) : Int))) (size_le (by omega)) ?_ ?_⟩
    · intro i H' hi s1 N0 N1 h0 h1
      have e2 : (2 : Int) + (i : Int) = ((2 + i : Nat) : Int) := by omega
      walk_at "w"
      rw [e2]
      have hr : rootN n (2 + i) ≤ n := Nat.le_trans (Nat.le_self_pow (by omega) _) (rootN_le (n := n) (e := 2 + i) (by omega))
      refine ⟨n, 2 + i, 200, rfl, by omega, by omega, hn, by omega, fun H2 s2 => ?_⟩
      refine ⟨rootN n (2 + i), 2 + i, 201, rfl, by decide, by omega, by omega, by omega, by omega, fun H3 s3 => h1 _ rfl _ (s2.trans s3)⟩
    · intro D H' hD s1 hd
      rw [filt_ints (fun i => ((rootN n (2 + i) ^ (2 + i) : Nat) : Int))] at hd
      refine r_max (SqL.of hd) (by simp; omega) fun m hm hle => ?_
      obtain ⟨i, hi, rfl⟩ := List.mem_map.mp hm
      refine q _ _ s1 (prevPow_of hn1 (isPow_root (by omega) hn1) (rootN_le (by omega)) fun e h2 h3 => ?_)
      have := hle ((rootN n (2 + (e - 2)) ^ (2 + (e - 2)) : Nat) : Int) (List.mem_map.mpr ⟨e - 2, by simp; omega, rfl⟩)
      rw [show 2 + (e - 2) = e by omega] at this
      omega
end
abbrev s_nth_power : Stmt := top 31
theorem sc_nth_power : FnScope ["place", "base", "turn", "found"] ["place"] (defScope s_nth_power) := ⟨rfl, rfl, rfl, by decide +kernel, rfl, by decide +kernel, by decide +kernel⟩
def sp_nth_power (K : PySem.W.Frag) : Sp := fun vs H Q _ => ∃ (k : Nat), vs = [.int (k : Int)] ∧ k < 2 ^ 60 ∧ ∀ (f : Nat) (H' : Hp), Same H H' → 1 ≤ f → IsPow f → cntP f = k + 1 → Q (.int (f : Int)) H'
section
variable {P : Program} {w : World} {K : PySem.W.Frag} {mg : PySem.Str → Option Value} {base : Heap}
theorem bi_nth_power {f : Addr} {fd : FuncData} (F : Fun K "nth_power" "nth_power" s_nth_power f fd) : Binds K fd ["place"] [] := F.binds (ps := ["place"]) fun _ _ _ _ _ _ us hl => match us, hl with | [_], _ => rfl
set_option maxHeartbeats 4000000 in
theorem ok_nth_power {f : Addr} {fd : FuncData} (F : Fun K "nth_power" "nth_power" s_nth_power f fd) (B : Bt mg)  (h_powers_to_floors : Fn P w K mg base CX0 12 "powers_to_floors" ["number"] (sp_powers_to_floors K)) (h_greater_one : Fn P w K mg base CX0 11 "greater_one" ["number"] (sp_greater_one K)) : FnOk P w K mg base CX0 13 f fd ["place"] (sp_nth_power K) := by
  refine F.ok sc_nth_power (fun vs H Q E h => ?_) (fun cdv A outer s H vs Q E hr h => ?_)
  · obtain ⟨k, rfl, hk, q⟩ := h
    rfl
  · obtain ⟨k, rfl, hk, q⟩ := h
    refine ⟨_, (pss_cons (ps_set (i := 1) sc_nth_power.nd rfl (Or.inl rfl) (pe_op op_add (pv 0) pe_int))
      (pss_cons (ps_for PassesOwn.never rfl (pi_range1 rfl B.range (pa_cons pe_int pa_nil)) (pg_name (i := 2) sc_nth_power.nd rfl (Or.inl rfl))
        (pss_one (ps_set (i := 1) sc_nth_power.nd rfl (Or.inl rfl) (pe_callB (call_max2 rfl) (by rfl) B.max (by decide +kernel) (pa_cons pe_int (pa_cons (pe_op op_sub (pe_op op_add (pv 0) pe_int) (pe_op op_sub (pe_fn h_powers_to_floors (hr.mono (by decide)) (by rfl) (pa_cons (pe_op op_mulW (pv 1) (pv 1)) pa_nil)) (pv 1))) pa_nil))))))
      (pss_cons (ps_while PassesOwn.never (pt_cmpR op_gt (pe_fn h_powers_to_floors (hr.mono (by decide)) (by rfl) (pa_cons (pe_op op_mulW (pv 1) (pv 1)) pa_nil)) (pe_op op_add (pv 0) pe_int) (nomark _))
        (pss_one (ps_aug (i := 1) sc_nth_power.nd rfl (Or.inl rfl) pe_int ip_sub)))
      (pss_cons (ps_set (i := 3) sc_nth_power.nd rfl (Or.inl rfl) (pe_op op_mulW (pv 1) (pv 1)))
      (pss_cons (ps_for PassesOwn.never rfl (pi_range1 rfl B.range (pa_cons (pe_op op_sub (pe_op op_add (pv 0) pe_int) (pe_fn h_powers_to_floors (hr.mono (by decide)) (by rfl) (pa_cons (pv 3) pa_nil))) pa_nil)) (pg_name (i := 2) sc_nth_power.nd rfl (Or.inl rfl))
        (pss_one (ps_set (i := 3) sc_nth_power.nd rfl (Or.inl rfl) (pe_fn h_greater_one (hr.mono (by decide)) (by rfl) (pa_cons (pv 3) pa_nil)))))
      (pss_one (ps_ret (pv 3)))))))), ?_⟩
    have hmul : ∀ b : Nat, ((b : Nat) : Int) * (b : Int) = ((b * b : Nat) : Int) := fun b => by
      push_cast
      rfl
    have sqb : ∀ b : Nat, b ≤ k + 1 → b * b < 2 ^ 130 := fun b hb => by
      have : b * b ≤ 2 ^ 61 * 2 ^ 61 := Nat.mul_le_mul (by omega) (by omega)
      exact Nat.lt_of_le_of_lt this (by decide)
    walk_at "w"
    refine ⟨by omega, by omega, for_r (fun i σ H' => ∃ (b : Nat) (v2 : Option V), σ = [some (.int (k : Int)), some (.int (b : Int)), v2, none] ∧ Same H H' ∧ 1 ≤ b ∧ b ≤ k + 1) ⟨k + 1, none, rfl, Same.refl _, by omega, Nat.le_refl _⟩ ?_ ?_⟩
    · rintro i σ H1 hi ⟨b, v2, rfl, s1, hb1, hb2⟩ N hN
      have := sqb b hb2
      have hq := sq_cntP hb1
      walk_at "w"
      rw [hmul]
      refine ⟨wide_mul (a := 64) (b := 64) (by omega) (by omega) (by decide) (by decide) (by decide), _, rfl, by omega, fun H2 s2 => ?_⟩
      rw [Int.toNat_natCast]
      walk_at "w"
      generalize hc : cntP (b * b) = c at hq ⊢
      have e1 : (if (k : Int) + 1 - ((c : Int) - (b : Int)) > 1 then (k : Int) + 1 - ((c : Int) - (b : Int)) else 1) = ((max 1 (k + 1 - (c - b)) : Nat) : Int) := by split <;> omega
      first
        | rw [e1]
        | (simp only [gt_iff_lt] at e1; rw [e1])
      exact hN _ _ ⟨_, _, rfl, s1.trans s2, by omega, by omega⟩
    · rintro σ H1 ⟨b, v2, rfl, s1, hb1, hb2⟩
      walk_at "w"
      refine while_m (fun m σ H' => ∃ (b : Nat) (v2 : Option V), σ = [some (.int (k : Int)), some (.int (b : Int)), v2, none] ∧ b = m ∧ Same H H' ∧ 1 ≤ b ∧ b ≤ k + 1) b ⟨b, _, rfl, rfl, s1, hb1, hb2⟩ ?_
      rintro m σ H2 ⟨b, v2, rfl, rfl, s2, hb1, hb2⟩ G hG
      have := sqb b hb2
      walk_at "w"
      rw [hmul]
      refine ⟨wide_mul (a := 64) (b := 64) (by omega) (by omega) (by decide) (by decide) (by decide), _, rfl, by omega, fun H3 s3 => ?_⟩
      rw [Int.toNat_natCast]
      walk_at "w"
      refine ite2 (fun hc => hG _ _ fun N hN => ?_) (fun hc => ?_)
      · have hb3 : b ≠ 1 := fun e => by
          subst e
          have e1 : cntP (1 * 1) = 1 := by
            rw [Nat.mul_one, cntP_succ, cntP_zero, if_pos isPow_one]
          rw [e1] at hc
          omega
        walk_at "w"
        have e2 : (b : Int) - 1 = ((b - 1 : Nat) : Int) := by omega
        rw [e2]
        exact hN _ _ _ (by omega) ⟨b - 1, _, rfl, rfl, s2.trans s3, by omega, by omega⟩
      · walk_at "w"
        refine ⟨wide_mul (a := 64) (b := 64) (by omega) (by omega) (by decide) (by decide) (by decide), _, rfl, by omega, fun H4 s4 => ?_⟩
        rw [Int.toNat_natCast]
        walk_at "w"
        have hp : 1 ≤ b * b := Nat.mul_pos hb1 hb1
        have hIs : IsPow (b * b) := ⟨b, 2, hb1, by omega, by rw [Nat.pow_two]⟩
        generalize b * b = f0 at hc hp hIs ⊢
        have hck : cntP f0 ≤ k + 1 := by omega
        refine ⟨by omega, by omega, for_r (fun i σ H' => ∃ (f : Nat) (v2 : Option V), σ = [some (.int (k : Int)), some (.int (b : Int)), v2, some (.int (f : Int))] ∧ Same H H' ∧ 1 ≤ f ∧ IsPow f ∧ cntP f = cntP f0 + i) ⟨f0, _, rfl, (s2.trans s3).trans s4, hp, hIs, rfl⟩ ?_ ?_⟩
        · rintro i σ H5 hi ⟨f, v2, rfl, s5, hf1, hfp, hfc⟩ N hN
          have hfb : f < 2 ^ 200 := by
            have h1 := cntP_bound hf1 (show cntP f ≤ k + 1 by omega)
            have h2 : (k + 1 + 1) * (k + 1 + 1) ≤ 2 ^ 61 * 2 ^ 61 := Nat.mul_le_mul (by omega) (by omega)
            have h3 : (2 : Nat) ^ 61 * 2 ^ 61 < 2 ^ 200 := by decide
            omega
          walk_at "w"
          refine ⟨f, rfl, hfb, fun g H6 s6 h0 hnx => ?_⟩
          walk_at "w"
          have hn := hnx hf1
          refine hN _ _ ⟨g, _, rfl, s5.trans s6, by have := hn.2.1; omega, hn.1, ?_⟩
          rw [cntP_next hn, hfc]
          omega
        · rintro σ H5 ⟨f, v2, rfl, s5, hf1, hfp, hfc⟩
          walk_at "w"
          exact q f _ s5 hf1 hfp (by omega)
end
abbrev s_beside : Stmt := top 32
theorem sc_beside : FnScope ["number", "lesser"] ["number"] (defScope s_beside) := ⟨rfl, rfl, rfl, by decide +kernel, rfl, by decide +kernel, by decide +kernel⟩
def sp_beside (K : PySem.W.Frag) : Sp := fun vs H Q _ => ∃ (n : Nat), vs = [.int (n : Int)] ∧ n < 2 ^ 200 ∧ ∀ (l : Option Nat) (g : Nat) (p : Addr) (H' : Hp), H p = none → Same H H' → Beside n l g → H' p = some (.tup [vo l, .int (g : Int)]) → Q (.ref p) H'
section
variable {P : Program} {w : World} {K : PySem.W.Frag} {mg : PySem.Str → Option Value} {base : Heap}
theorem bi_beside {f : Addr} {fd : FuncData} (F : Fun K "beside" "beside" s_beside f fd) : Binds K fd ["number"] [] := F.binds (ps := ["number"]) fun _ _ _ _ _ _ us hl => match us, hl with | [_], _ => rfl
set_option maxHeartbeats 4000000 in
theorem ok_beside {f : Addr} {fd : FuncData} (F : Fun K "beside" "beside" s_beside f fd) (B : Bt mg)  (h_power_to : Fn P w K mg base CX0 11 "power_to" ["number"] (sp_power_to K)) (h_greater_one : Fn P w K mg base CX0 11 "greater_one" ["number"] (sp_greater_one K)) : FnOk P w K mg base CX0 12 f fd ["number"] (sp_beside K) := by
  refine F.ok sc_beside (fun vs H Q E h => ?_) (fun cdv A outer s H vs Q E hr h => ?_)
  · obtain ⟨n, rfl, hn, q⟩ := h
    rfl
  · obtain ⟨n, rfl, hn, q⟩ := h
    refine ⟨_, (pss_cons (ps_set (i := 1) sc_beside.nd rfl (Or.inl rfl) (pe_ifExp (pt_cmpR op_gt (pv 0) pe_int (nomark _)) (pe_fn h_power_to (hr.mono (by decide)) (by rfl) (pa_cons (pe_op op_sub (pv 0) pe_int) pa_nil)) pe_non))
      (pss_one (ps_ret (pe_tup (pa_cons (pv 1) (pa_cons (pe_fn h_greater_one (hr.mono (by decide)) (by rfl) (pa_cons (pv 0) pa_nil)) pa_nil)))))), ?_⟩
    walk_at "w"
    refine ite2 (fun h1 => ?_) (fun h1 => ?_)
    · refine ⟨n - 1, by rw [show ((n : Int) - 1) = ((n - 1 : Nat) : Int) by omega], by omega, by omega, fun l H1 s1 hl => ⟨n, rfl, hn, fun g H2 s2 g0 g1 => ?_⟩⟩
      walk_at "w"
      refine ⟨by show 2 ≤ sizeLine; decide, fun p hp => ?_⟩
      have s3 := s1.trans s2
      exact q (some l) g p _ (s3.free hp) (sm_new s3 (s3.free hp)) ⟨g0, g1, fun h => by omega, fun _ => ⟨l, rfl, hl⟩⟩ upd_same
    · refine ⟨n, rfl, hn, fun g H2 s2 g0 g1 => ?_⟩
      walk_at "w"
      refine ⟨by show 2 ≤ sizeLine; decide, fun p hp => ?_⟩
      exact q none g p _ (s2.free hp) (sm_new s2 (s2.free hp)) ⟨g0, g1, fun _ => rfl, fun h => by omega⟩ upd_same
end
abbrev s_nearest : Stmt := top 33
theorem sc_nearest : FnScope ["number", "lesser", "greater"] ["number"] (defScope s_nearest) := ⟨rfl, rfl, rfl, by decide +kernel, rfl, by decide +kernel, by decide +kernel⟩
def sp_nearest (K : PySem.W.Frag) : Sp := fun vs H Q _ => ∃ (n : Nat), vs = [.int (n : Int)] ∧ n < 2 ^ 200 ∧ ∀ (r : Nat) (H' : Hp), Same H H' → Nearest n r → Q (.int (r : Int)) H'
section
variable {P : Program} {w : World} {K : PySem.W.Frag} {mg : PySem.Str → Option Value} {base : Heap}
theorem bi_nearest {f : Addr} {fd : FuncData} (F : Fun K "nearest" "nearest" s_nearest f fd) : Binds K fd ["number"] [] := F.binds (ps := ["number"]) fun _ _ _ _ _ _ us hl => match us, hl with | [_], _ => rfl
set_option maxHeartbeats 4000000 in
theorem ok_nearest {f : Addr} {fd : FuncData} (F : Fun K "nearest" "nearest" s_nearest f fd) (B : Bt mg)  (h_power_to : Fn P w K mg base CX0 11 "power_to" ["number"] (sp_power_to K)) (h_greater_one : Fn P w K mg base CX0 11 "greater_one" ["number"] (sp_greater_one K)) : FnOk P w K mg base CX0 12 f fd ["number"] (sp_nearest K) := by
  refine F.ok sc_nearest (fun vs H Q E h => ?_) (fun cdv A outer s H vs Q E hr h => ?_)
  · obtain ⟨n, rfl, hn, q⟩ := h
    rfl
  · obtain ⟨n, rfl, hn, q⟩ := h
    refine ⟨_, (pss_cons (ps_if (pt_cmpR op_lt (pv 0) pe_int (nomark _))
        (pss_one (ps_ret pe_int))
        pss_nil)
      (pss_cons (ps_set (i := 1) sc_nearest.nd rfl (Or.inl rfl) (pe_fn h_power_to (hr.mono (by decide)) (by rfl) (pa_cons (pv 0) pa_nil)))
      (pss_cons (ps_set (i := 2) sc_nearest.nd rfl (Or.inl rfl) (pe_fn h_greater_one (hr.mono (by decide)) (by rfl) (pa_cons (pv 0) pa_nil)))
      (pss_one (ps_ret (pe_ifExp (pt_cmpR op_le (pe_op op_sub (pv 0) (pv 1)) (pe_op op_sub (pv 2) (pv 0)) (nomark _)) (pv 1) (pv 2))))))), ?_⟩
    walk_at "w"
    refine ite2 (fun h0 => ?_) (fun h0 => ?_)
    · exact q 1 _ (Same.refl _) ⟨fun _ => rfl, fun h => by omega⟩
    · refine ⟨n, rfl, by omega, hn, fun l H1 s1 hl => ?_⟩
      walk_at "w"
      refine ⟨n, rfl, hn, fun g H2 s2 g0 g1 => ?_⟩
      have hg := g1 (by omega)
      have h1 := hl.2.1
      have h2 := hg.2.1
      walk_at "w"
      refine ite2 (fun h => ?_) (fun h => ?_)
      · exact q l _ (s1.trans s2) ⟨fun h => by omega, fun _ => ⟨l, g, hl, hg, by rw [if_pos (by omega)]⟩⟩
      · exact q g _ (s1.trans s2) ⟨fun h => by omega, fun _ => ⟨l, g, hl, hg, by rw [if_neg (by omega)]⟩⟩
end
abbrev s_primes_in_kept : Stmt := top 35
theorem sc_primes_in_kept : FnScope ["number", "found", "prime"] ["number"] (defScope s_primes_in_kept) := ⟨rfl, rfl, rfl, by decide +kernel, rfl, by decide +kernel, by decide +kernel⟩
def sp_primes_in_kept (K : PySem.W.Frag) : Sp := fun vs H Q _ => ∃ (n : Nat), vs = [.int (n : Int)] ∧ 1 ≤ n ∧ n ≤ 1000000 ∧ ∀ (p : Addr) (ks : List Nat) (H' : Hp), H p = none → Same H H' → CD H' p (pf n) ks → (∀ x ∈ ks, x ∈ pf n) → Q (.ref p) H'
section
variable {P : Program} {w : World} {K : PySem.W.Frag} {mg : PySem.Str → Option Value} {base : Heap}
theorem bi_primes_in_kept {f : Addr} {fd : FuncData} (F : Fun K "primes_in" "primes_in" s_primes_in_kept f fd) : Binds K fd ["number"] [] := F.binds (ps := ["number"]) fun _ _ _ _ _ _ us hl => match us, hl with | [_], _ => rfl
set_option maxHeartbeats 4000000 in
theorem ok_primes_in_kept {f : Addr} {fd : FuncData} (F : Fun K "primes_in" "primes_in" s_primes_in_kept f fd) (B : Bt mg)   : FnOk P w K mg base CX0 1 f fd ["number"] (sp_primes_in_kept K) := by
  refine F.ok sc_primes_in_kept (fun vs H Q E h => ?_) (fun cdv A outer s H vs Q E hr h => ?_)
  · obtain ⟨n, rfl, hn1, hn, q⟩ := h
    rfl
  · obtain ⟨n, rfl, hn1, hn, q⟩ := h
    refine ⟨_, (pss_cons (ps_set (i := 1) sc_primes_in_kept.nd rfl (Or.inl rfl) pe_dnewK)
      (pss_cons (ps_set (i := 2) sc_primes_in_kept.nd rfl (Or.inl rfl) pe_int)
      (pss_cons (ps_while PassesOwn.never (pt_cmpR op_le (pe_op op_mulW (pv 2) (pv 2)) (pv 0) (nomark _))
        (pss_cons (ps_while PassesOwn.never (pt_cmpR op_eq (pe_op op_mod (pv 0) (pv 2)) pe_int (nomark _))
          (pss_cons (ps_dput (hu_of hr) (pv 1) (pv 2) (pe_op op_add (pe_dget2 (hu_of hr) (pv 1) (pv 2) pe_int (by constructor <;> rfl)) pe_int) rfl)
          (pss_one (ps_set (i := 0) sc_primes_in_kept.nd rfl (Or.inl rfl) (pe_op op_fdivW (pv 0) (pv 2))))))
        (pss_one (ps_set (i := 2) sc_primes_in_kept.nd rfl (Or.inl rfl) (pe_op op_add (pv 2) pe_int)))))
      (pss_cons (ps_if (pt_cmpR op_gt (pv 0) pe_int (nomark _))
        (pss_one (ps_dput (hu_of hr) (pv 1) (pv 0) (pe_op op_add (pe_dget2 (hu_of hr) (pv 1) (pv 0) pe_int (by constructor <;> rfl)) pe_int) rfl))
        pss_nil)
      (pss_one (ps_ret (pv 1))))))), ?_⟩
    walk_at "d"
    intro p hp
    refine while_m (fun z σ H' => ∃ (m d : Nat) (l ks : List Nat), σ = [some (.int (m : Int)), some (.ref p), some (.int (d : Int))] ∧ 2000000 - d = z ∧ 2 ≤ d ∧ d ≤ n + 2 ∧ 1 ≤ m ∧ m ≤ n ∧ Low d m ∧ l ++ pfT d m = pf n ∧ Same H H' ∧ CD H' p l ks ∧ ∀ x ∈ ks, x ∈ l) 1999998 ⟨n, 2, [], [], rfl, rfl, by omega, by omega, hn1, Nat.le_refl _, low_2 n, rfl, same_new hp, ⟨upd_same, List.nodup_nil, fun x hx => (by cases hx), fun x hx => (by cases hx)⟩, fun x hx => (by cases hx)⟩ ?_
    rintro z σ H1 ⟨m, d, l, ks, rfl, rfl, hd, hdn, hm, hmn, hlow, hl, s1, hc, hk⟩ G hG
    have cm : CMulW (d : Int) (d : Int) := wide_mul (a := 64) (b := 64) (by omega) (by omega) (by decide) (by decide) (by decide)
    have e1 : (d : Int) * (d : Int) = ((d * d : Nat) : Int) := by push_cast; rfl
    walk_at "d"
    rw [e1]
    refine ⟨cm, ite2 (fun hw => hG _ _ fun N hN => ?_) (fun hw => ?_)⟩
    · have hdm : d ≤ m := Nat.le_trans (Nat.le_mul_of_pos_left d (by omega)) (by omega : d * d ≤ m)
      refine while_m (fun z σ H' => ∃ (m' : Nat) (l ks : List Nat), σ = [some (.int (m' : Int)), some (.ref p), some (.int (d : Int))] ∧ m' = z ∧ 1 ≤ m' ∧ m' ≤ m ∧ Low d m' ∧ l ++ pfT d m' = pf n ∧ Same H H' ∧ CD H' p l ks ∧ ∀ x ∈ ks, x ∈ l) m ⟨m, l, ks, rfl, rfl, hm, Nat.le_refl _, hlow, hl, s1, hc, hk⟩ ?_
      rintro z σ H2 ⟨m2, l2, ks2, rfl, rfl, hm2, hm2n, hlow2, hl2, s2, hc2, hk2⟩ G2 hG2
      walk_at "d"
      refine ⟨by omega, ite2 (fun hw2 => hG2 _ _ fun N2 hN2 => ?_) (fun hw2 => ?_)⟩
      · have hdv : d ∣ m2 := Nat.dvd_of_mod_eq_zero (by omega)
        have hlt : m2 / d < m2 := Nat.div_lt_self (by omega) (by omega)
        have hge : 1 ≤ m2 / d := Nat.div_pos (Nat.le_of_dvd hm2 hdv) (by omega)
        have e2 : (m2 : Int) / (d : Int) = ((m2 / d : Nat) : Int) := by push_cast; rfl
        obtain ⟨o, hg, ho⟩ := hc2.get (m := d)
        obtain ⟨H3, ks3, hput, hH3, hc3, hk3⟩ := hc2.put (m := d) hd (by omega)
        walk_at "d"
        walk_at "d"
        refine ⟨hc2.isD, o, hg, _, ho, H3, hput, ?_⟩
        rw [e2]
        have s3 : Same H H3 := by
          rw [hH3]
          exact sm_new s2 hp
        refine ⟨wide_div (b := 64) (by omega) (by omega) (by decide) (by decide), hN2 _ _ _ hlt ⟨m2 / d, l2 ++ [d], ks3, rfl, rfl, hge, by omega, low_div hlow2 hdv, ?_, s3, hc3, fun x hx => ?_⟩⟩
        · rw [List.append_assoc, List.singleton_append, ← pfT_dvd hd hm2 hlow2 hdv, hl2]
        · rw [List.mem_append]
          rcases (hk3 x).mp hx with c | c
          · exact .inl (hk2 x c)
          · exact .inr (by simp [c])
      · have hnd : ¬ d ∣ m2 := fun z => hw2 (by have := Nat.mod_eq_zero_of_dvd z; omega)
        have e3 : (d : Int) + 1 = ((d + 1 : Nat) : Int) := by omega
        walk_at "d"
        rw [e3]
        exact hN _ _ _ (by omega) ⟨m2, d + 1, l2, ks2, rfl, rfl, by omega, by omega, hm2, by omega, low_up hlow2 hnd, by rw [← pfT_up hd hnd]; exact hl2, s2, hc2, hk2⟩
    · have hmd : m < d * d := by omega
      walk_at "d"
      refine ite2 (fun h1 => ?_) (fun h1 => ?_)
      · rw [pfT_big hd (by omega) hmd] at hl
        obtain ⟨o, hg, ho⟩ := hc.get (m := m)
        obtain ⟨H3, ks3, hput, hH3, hc3, hk3⟩ := hc.put (m := m) (by omega) (by omega)
        walk_at "d"
        walk_at "d"
        refine ⟨hc.isD, o, hg, _, ho, H3, hput, ?_⟩
        rw [hl] at hc3
        refine q p ks3 H3 hp (by rw [hH3]; exact sm_new s1 hp) hc3 fun x hx => ?_
        rw [← hl, List.mem_append]
        rcases (hk3 x).mp hx with c | c
        · exact .inl (hk x c)
        · exact .inr (by simp [c])
      · rw [pfT_one (by omega), List.append_nil] at hl
        subst hl
        walk_at "d"
        exact q p ks H1 hp s1 hc hk
end
abbrev s_common_divisor : Stmt := top 37
theorem sc_common_divisor : FnScope ["one", "other"] ["one", "other"] (defScope s_common_divisor) := ⟨rfl, rfl, rfl, by decide +kernel, rfl, by decide +kernel, by decide +kernel⟩
def sp_common_divisor (K : PySem.W.Frag) : Sp := fun vs H Q _ => ∃ (a b : Nat), vs = [.int (a : Int), .int (b : Int)] ∧ Q (.int ((Nat.gcd a b : Nat) : Int)) H
section
variable {P : Program} {w : World} {K : PySem.W.Frag} {mg : PySem.Str → Option Value} {base : Heap}
theorem bi_common_divisor {f : Addr} {fd : FuncData} (F : Fun K "common_divisor" "common_divisor" s_common_divisor f fd) : Binds K fd ["one", "other"] [] := F.binds (ps := ["one", "other"]) fun _ _ _ _ _ _ us hl => match us, hl with | [_, _], _ => rfl
set_option maxHeartbeats 4000000 in
theorem ok_common_divisor {f : Addr} {fd : FuncData} (F : Fun K "common_divisor" "common_divisor" s_common_divisor f fd) (B : Bt mg)   : FnOk P w K mg base CX0 1 f fd ["one", "other"] (sp_common_divisor K) := by
  refine F.ok sc_common_divisor (fun vs H Q E h => ?_) (fun cdv A outer s H vs Q E hr h => ?_)
  · obtain ⟨a, b, rfl, q⟩ := h
    rfl
  · obtain ⟨a, b, rfl, q⟩ := h
    refine ⟨_, (pss_cons (ps_while PassesOwn.never (pt_cmpR op_gt (pv 1) pe_int (nomark _))
        (pss_one (ps_par (i := 0) (j := 1) (by rfl) sc_common_divisor.nd rfl rfl (by decide) rfl rfl (pa_cons (pv 1) (pa_cons (pe_op op_mod (pv 0) (pv 1)) pa_nil)) (by rfl))))
      (pss_one (ps_ret (pv 0)))), ?_⟩
    walk_at "w"
    refine while_m (fun z σ H' => ∃ (x y : Nat), σ = [some (.int (x : Int)), some (.int (y : Int))] ∧ H' = H ∧ y = z ∧ Nat.gcd x y = Nat.gcd a b) b ⟨a, b, rfl, rfl, rfl, rfl⟩ ?_
    rintro z σ H' ⟨x, y, rfl, rfl, rfl, hg⟩ G hG
    walk_at "w"
    refine ite2 (fun hw => hG _ _ fun N hN => ?_) (fun hw => ?_)
    · have e1 : (x : Int) % (y : Int) = ((x % y : Nat) : Int) := by push_cast; rfl
      walk_at "w"
      rw [e1]
      have hlt : x % y < y := Nat.mod_lt _ (by omega)
      refine ⟨by omega, hN _ _ _ hlt ⟨y, x % y, rfl, rfl, rfl, ?_⟩⟩
      rw [Nat.gcd_comm y, ← Nat.gcd_rec, Nat.gcd_comm, hg]
    · have e0 : y = 0 := by omega
      subst e0
      rw [Nat.gcd_zero_right] at hg
      walk_at "w"
      rw [hg]
      exact q
end
abbrev s_KeptProduct___init__ : Stmt := inClass (top 38) 0
theorem sc_KeptProduct___init__ : FnScope ["self"] ["self"] (defScope s_KeptProduct___init__) := ⟨rfl, rfl, rfl, by decide +kernel, rfl, by decide +kernel, by decide +kernel⟩
def sp_KeptProduct___init__ (K : PySem.W.Frag) : Sp := fun vs H Q _ => ∃ (p C dx : Addr), vs = [.ref p] ∧ KCl K "KeptProduct" ["numbers", "often"] C ∧ H p = some (.ins C dx []) ∧ ∀ (ln lo : Addr) (H' : Hp), H ln = none → H lo = none → KP K H' p ln lo [] → (∀ b o, b ≠ p → H b = some o → H' b = some o) → Q .non H'
section
variable {P : Program} {w : World} {K : PySem.W.Frag} {mg : PySem.Str → Option Value} {base : Heap}
theorem bi_KeptProduct___init__ {f : Addr} {fd : FuncData} (F : Fun K "__init__" "KeptProduct.__init__" s_KeptProduct___init__ f fd) : Binds K fd ["self"] [] := F.binds (ps := ["self"]) fun _ _ _ _ _ _ us hl => match us, hl with | [_], _ => rfl
set_option maxHeartbeats 4000000 in
theorem ok_KeptProduct___init__ {f : Addr} {fd : FuncData} (F : Fun K "__init__" "KeptProduct.__init__" s_KeptProduct___init__ f fd) (B : Bt mg)   : FnOk P w K mg base CX0 1 f fd ["self"] (sp_KeptProduct___init__ K) := by
  refine F.ok sc_KeptProduct___init__ (fun vs H Q E h => ?_) (fun cdv A outer s H vs Q E hr h => ?_)
  · obtain ⟨p, C, dx, rfl, hC, hp, q⟩ := h
    rfl
  · obtain ⟨p, C, dx, rfl, hC, hp, q⟩ := h
    refine ⟨_, (pss_cons (ps_fld (pv 0) (pe_lst pa_nil) rfl)
      (pss_one (ps_fld (pv 0) pe_dnewK rfl))), ?_⟩
    walk_at "d"
    simp only [w_sfld]
    walk_at "d"
    refine ⟨Nat.zero_le _, fun ln hln => ?_⟩
    have n1 : p ≠ ln := ne_of_none hp hln
    refine ⟨p, C, dx, [], rfl, (upd_ne n1).trans hp, hC.cl, hC.no _ (by simp), by show 0 < 1000; decide, ?_⟩
    intro lo hlo
    have n2 : p ≠ lo := ne_of_none upd_same hlo
    have n3 : ln ≠ lo := ne_of_none ((upd_ne n1.symm).trans upd_same) hlo
    refine ⟨p, C, dx, _, rfl, (upd_ne n2).trans upd_same, hC.cl, hC.no _ (by simp), by show 1 < 1000; decide, ?_⟩
    have hlo2 : H lo = none := upd_free (upd_free hlo)
    refine q ln lo _ hln hlo2 ⟨⟨C, dx, hC, upd_same⟩, ?_, ⟨[], ?_, List.nodup_nil, fun x hx => (by cases hx), fun x hx => (by cases hx)⟩, fun x hx => (by cases hx)⟩ fun b o hb h => ?_
    · rw [upd_ne n1.symm, upd_ne n3, upd_ne n1.symm, upd_same]
      rfl
    · rw [upd_ne n2.symm, upd_same]
      rfl
    · rw [upd_ne hb, upd_ne (ne_of_none h hlo2), upd_ne hb, upd_ne (ne_of_none h hln)]
      exact h
end
abbrev s_KeptProduct_put_primes : Stmt := inClass (top 38) 1
theorem sc_KeptProduct_put_primes : FnScope ["self", "number", "sign", "prime", "many"] ["self", "number", "sign"] (defScope s_KeptProduct_put_primes) := ⟨rfl, rfl, rfl, by decide +kernel, rfl, by decide +kernel, by decide +kernel⟩
def sp_KeptProduct_put_primes (K : PySem.W.Frag) : Sp := fun vs H Q _ => ∃ (p ln lo : Addr) (n : Nat) (s : Int) (l l' ks : List Nat), vs = [.ref p, .int (n : Int), .int s] ∧ 1 ≤ n ∧ n ≤ 1000000 ∧ KO K H p ln lo ∧ CD H lo l ks ∧ (s = 1 ∧ (∀ x, l'.count x = l.count x + (pf n).count x) ∨ s = -1 ∧ ∀ x, l.count x = l'.count x + (pf n).count x) ∧ ∀ (H' : Hp) (ks' : List Nat), Kp lo H H' → CD H' lo l' ks' → Q .non H'
def gAt (l ks1 c : List Nat) (s : Int) (i k : Nat) : Int := (l.count k : Int) + s * (if k ∈ ks1.take i then (c.count k : Int) else 0)
theorem mem_take_succ {ks : List Nat} {i m k : Nat} (h : ks[i]? = some m) : k ∈ ks.take (i + 1) ↔ k ∈ ks.take i ∨ k = m := by
  rw [List.take_add_one, h]
  simp
theorem not_take {ks : List Nat} {i m : Nat} (h : ks[i]? = some m) (hn : ks.Nodup) : m ∉ ks.take i := fun z => by
  have e : ks = ks.take i ++ ks.drop i := (List.take_append_drop i ks).symm
  rw [e, List.nodup_append] at hn
  have h2 : m ∈ ks.drop i := by
    rw [List.mem_iff_getElem?]
    exact ⟨0, by rw [List.getElem?_drop]; exact h⟩
  exact hn.2.2 m z m h2 rfl
theorem gAt_set (l ks1 c : List Nat) (s : Int) {i m : Nat} (h : ks1[i]? = some m) (hn : ks1.Nodup) : (fun k => if k = m then V.int (gAt l ks1 c s i m + s * (c.count m : Int)) else V.int (gAt l ks1 c s i k)) = fun k => V.int (gAt l ks1 c s (i + 1) k) := by
  funext k
  have hno := not_take h hn
  by_cases e : k = m
  · subst e
    rw [if_pos rfl]
    unfold gAt
    rw [if_neg hno, if_pos ((mem_take_succ h).mpr (.inr rfl))]
    congr 1
    omega
  · rw [if_neg e]
    unfold gAt
    by_cases c2 : k ∈ ks1.take i
    · rw [if_pos c2, if_pos ((mem_take_succ h).mpr (.inl c2))]
    · rw [if_neg c2, if_neg fun z => ((mem_take_succ h).mp z).elim c2 e]
section
variable {P : Program} {w : World} {K : PySem.W.Frag} {mg : PySem.Str → Option Value} {base : Heap}
theorem bi_KeptProduct_put_primes {f : Addr} {fd : FuncData} (F : Fun K "put_primes" "KeptProduct.put_primes" s_KeptProduct_put_primes f fd) : Binds K fd ["self", "number", "sign"] [] := F.binds (ps := ["self", "number", "sign"]) fun _ _ _ _ _ _ us hl => match us, hl with | [_, _, _], _ => rfl
set_option maxHeartbeats 4000000 in
theorem ok_KeptProduct_put_primes {f : Addr} {fd : FuncData} (F : Fun K "put_primes" "KeptProduct.put_primes" s_KeptProduct_put_primes f fd) (B : Bt mg)  (h_primes_in_kept : Fn P w K mg base CX0 1 "primes_in_kept" ["number"] (sp_primes_in_kept K)) : FnOk P w K mg base CX0 2 f fd ["self", "number", "sign"] (sp_KeptProduct_put_primes K) := by
  refine F.ok sc_KeptProduct_put_primes (fun vs H Q E h => ?_) (fun cdv A outer s H vs Q E hr h => ?_)
  · obtain ⟨p, ln, lo, n, s0, l, l', ks, rfl, hn1, hn, hO, hc, hs, q⟩ := h
    rfl
  · obtain ⟨p, ln, lo, n, s0, l, l', ks, rfl, hn1, hn, hO, hc, hs, q⟩ := h
    refine ⟨_, (pss_one (ps_for PassesOwn.never rfl (pi_items (pe_frz (pe_fn h_primes_in_kept (hr.mono (by decide)) (by rfl) (pa_cons (pv 1) pa_nil)))) (pg_tup rfl (pgs_cons (pg_name (i := 3) sc_KeptProduct_put_primes.nd rfl (Or.inl rfl)) (pgs_cons (pg_name (i := 4) sc_KeptProduct_put_primes.nd rfl (Or.inl rfl)) pgs_nil)))
        (pss_one (ps_dput (hu_of hr) (k_fld K (pv 0) rfl) (pv 3) (pe_op op_add (pe_dget2 (hu_of hr) (k_fld K (pv 0) rfl) (pv 3) pe_int (by constructor <;> rfl)) (pe_op op_mulW (pv 2) (pv 4))) rfl)))), ?_⟩
    walk_at "o"
    refine ⟨n, rfl, hn1, hn, fun t ks1 H1 ht s1 hc1 hk1 => ?_⟩
    refine ⟨t, rfl, _, hc1.at_, fun od => ?_⟩
    have nlo : lo ≠ t := ne_of_none hc.at_ ht
    have fz : upd H1 t (.frz od (.dK (dN ks1 fun k => .int (((pf n).count k : Nat) : Int)))) t = some (.frz od (.dK (dN ks1 fun k => .int (((pf n).count k : Nat) : Int)))) := upd_same
    have s2 : Same H (upd H1 t (.frz od (.dK (dN ks1 fun k => .int (((pf n).count k : Nat) : Int))))) := sm_new s1 ht
    generalize upd H1 t (.frz od (.dK (dN ks1 fun k => .int (((pf n).count k : Nat) : Int)))) = H2 at fz s2 ⊢
    have hsg : s0 = 1 ∨ s0 = -1 := hs.elim (fun z => .inl z.1) fun z => .inr z.1
    refine ⟨od, _, fz, for_i (fun i σ H' => ∃ (v3 v4 : Option V) (ks' : List Nat), σ = [some (.ref p), some (.int (n : Int)), some (.int s0), v3, v4] ∧ Kp lo H2 H' ∧ H' lo = some (.dK (dN ks' fun k => .int (gAt l ks1 (pf n) s0 i k))) ∧ ks'.Nodup ∧ (∀ x ∈ l, x ∈ ks') ∧ (∀ x ∈ ks1.take i, x ∈ ks') ∧ ∀ x ∈ ks', 2 ≤ x ∧ x ≤ 1000000) ⟨_, _, ks, rfl, Kp.refl _ _, ?_, hc.nd, hc.all, fun x hx => by simp at hx, hc.rng⟩ ?_ ?_ ?_⟩
    · rw [s2 _ _ hc.at_]
      congr 3
      funext k
      unfold gAt
      simp
    · rintro i σ H' _ ⟨_, _, _, _, k', _⟩
      exact k' _ _ nlo.symm fz
    · rintro i m σ H' T hm hi ⟨v3, v4, ks', rfl, k', hd, nd, al, tk, rg⟩ hT N hN
      have nT : lo ≠ T := ne_of_none hd hT
      have hmem := hk1 m (List.mem_of_getElem? hm)
      have hr := pf_mem hmem
      have hd2 : upd H' T (.tup [.int (m : Int), .int (((pf n).count m : Nat) : Int)]) lo = _ := (upd_ne nT).trans hd
      have hT2 : upd H' T (.tup [.int (m : Int), .int (((pf n).count m : Nat) : Int)]) T = _ := upd_same
      have k2 : Kp lo H2 (upd H' T (.tup [.int (m : Int), .int (((pf n).count m : Nat) : Int)])) := k'.trans (sm_kp (same_new hT))
      generalize upd H' T (.tup [.int (m : Int), .int (((pf n).count m : Nat) : Int)]) = H3 at hd2 hT2 k2 ⊢
      have hO3 : KO K H3 p ln lo := by
        obtain ⟨C, dx, hC, hp⟩ := hO
        exact ⟨C, dx, hC, k2 _ _ (ne_of hp hc.at_ fun e => by cases e) (s2 _ _ hp)⟩
      have hcnt : (pf n).count m < 20 := Nat.lt_of_le_of_lt List.count_le_length (pf_len hn1 hn)
      have hg := dN_get (m := m) hd2
      have hgv : ((if m ∈ ks' then some (V.int (gAt l ks1 (pf n) s0 i m)) else none).getD (.int 0)) = .int (gAt l ks1 (pf n) s0 i m) := by
        by_cases c : m ∈ ks'
        · rw [if_pos c]
          rfl
        · rw [if_neg c]
          unfold gAt
          rw [if_neg (not_take hm hc1.nd), List.count_eq_zero_of_not_mem fun z => c (al m z)]
          simp
      have hput := dN_upd (m := m) (v := .int (gAt l ks1 (pf n) s0 i m + s0 * ((pf n).count m : Int))) hd2 (size_le (keys_len nd rg))
      rw [gAt_set l ks1 (pf n) s0 hm hc1.nd] at hput
      obtain ⟨g1, g2, g3⟩ := put_nodup (x := m) nd
      refine ⟨T, _, rfl, SqT.of hT2, rfl, ?_⟩
      walk_at "o"
      refine hO3.fldO ?_
      walk_at "o"
      refine ⟨.inl ⟨_, .inl hd2⟩, _, hg, wide_mul (a := 64) (b := 64) (by omega) (by omega) (by decide) (by decide) (by decide), _, hgv, hO3.fldO ?_⟩
      walk_at "d"
      refine ⟨_, hput, hN _ _ ⟨_, _, _, rfl, k2.upd, upd_same, g1, fun x hx => (g2 x).mpr (.inl (al x hx)), fun x hx => ?_, fun x hx => ?_⟩⟩
      · rw [g2]
        rcases (mem_take_succ hm).mp hx with c | c
        · exact .inl (tk x c)
        · exact .inr c
      · rcases (g2 x).mp hx with c | c
        · exact rg x c
        · omega
    · rintro σ H' ⟨v3, v4, ks', rfl, k', hd, nd, al, tk, rg⟩
      rw [List.take_length] at tk
      walk_at "d"
      have hcnt0 : ∀ k, k ∉ ks1 → (pf n).count k = 0 := fun k hk => List.count_eq_zero_of_not_mem fun z => hk (hc1.all k z)
      have eg : (fun k => V.int (gAt l ks1 (pf n) s0 ks1.length k)) = fun k => V.int ((l'.count k : Nat) : Int) := by
        funext k
        unfold gAt
        rw [List.take_length]
        congr 1
        have h0 := hcnt0 k
        rcases hs with ⟨rfl, hs⟩ | ⟨rfl, hs⟩
        · have := hs k
          by_cases c : k ∈ ks1
          · rw [if_pos c]
            omega
          · rw [if_neg c]
            have := h0 c
            omega
        · have := hs k
          by_cases c : k ∈ ks1
          · rw [if_pos c]
            omega
          · rw [if_neg c]
            have := h0 c
            omega
      rw [eg] at hd
      refine q H' ks' ((sm_kp s2).trans k') ⟨hd, nd, fun x hx => ?_, rg⟩
      have hx1 : 0 < l'.count x := List.count_pos_iff.mpr hx
      have hor : 0 < l.count x ∨ 0 < (pf n).count x := by
        rcases hs with ⟨_, hs⟩ | ⟨_, hs⟩
        · have := hs x
          omega
        · have := hs x
          omega
      rcases hor with c | c
      · exact al x (List.count_pos_iff.mp c)
      · exact tk x (hc1.all x (List.count_pos_iff.mp c))
end
abbrev s_KeptProduct_come : Stmt := inClass (top 38) 2
theorem sc_KeptProduct_come : FnScope ["self", "number"] ["self", "number"] (defScope s_KeptProduct_come) := ⟨rfl, rfl, rfl, by decide +kernel, rfl, by decide +kernel, by decide +kernel⟩
def sp_KeptProduct_come (K : PySem.W.Frag) : Sp := fun vs H Q _ => ∃ (p ln lo : Addr) (n : Nat) (L : List Nat), vs = [.ref p, .int (n : Int)] ∧ 1 ≤ n ∧ n ≤ 1000000 ∧ KP K H p ln lo L ∧ L.length ≤ 10000 ∧ ∀ H' : Hp, K2 ln lo H H' → KP K H' p ln lo (L ++ [n]) → Q .non H'
section
variable {P : Program} {w : World} {K : PySem.W.Frag} {mg : PySem.Str → Option Value} {base : Heap}
theorem bi_KeptProduct_come {f : Addr} {fd : FuncData} (F : Fun K "come" "KeptProduct.come" s_KeptProduct_come f fd) : Binds K fd ["self", "number"] [] := F.binds (ps := ["self", "number"]) fun _ _ _ _ _ _ us hl => match us, hl with | [_, _], _ => rfl
set_option maxHeartbeats 4000000 in
theorem ok_KeptProduct_come {f : Addr} {fd : FuncData} (F : Fun K "come" "KeptProduct.come" s_KeptProduct_come f fd) (B : Bt mg)  (h_KeptProduct_put_primes : FnM P w K mg base CX0 2 "KeptProduct" ["numbers", "often"] "put_primes" ["self", "number", "sign"] (sp_KeptProduct_put_primes K)) : FnOk P w K mg base CX0 3 f fd ["self", "number"] (sp_KeptProduct_come K) := by
  refine F.ok sc_KeptProduct_come (fun vs H Q E h => ?_) (fun cdv A outer s H vs Q E hr h => ?_)
  · obtain ⟨p, ln, lo, n, L, rfl, hn1, hn, hK, hlen, q⟩ := h
    rfl
  · obtain ⟨p, ln, lo, n, L, rfl, hn1, hn, hK, hlen, q⟩ := h
    refine ⟨_, (pss_cons (ps_if (pt_cmpR op_lt (pv 1) pe_int (nomark _))
        (pss_one ps_void)
        pss_nil)
      (pss_cons (ps_expr (pe_bm PySem.F.plainAttrs_list PySem.F.slot_list_append PySem.F.type_list_append mt_append (k_fld K (pv 0) rfl) (pa_cons (pv 1) pa_nil)))
      (pss_one (ps_expr (pe_mt (K := K) h_KeptProduct_put_primes (hr.mono (by decide)) (pv 0) (pa_cons (pv 1) (pa_cons pe_int pa_nil))))))), ?_⟩
    obtain ⟨n1, n2, n3⟩ := hK.ne
    obtain ⟨ks, hc⟩ := hK.cd
    walk_at "o"
    rw [if_neg (by omega)]
    walk_at "o"
    refine hK.ob.fldN ?_
    refine ⟨.inl ⟨rfl, _, SqL.of hK.ns⟩, r_app hK.ns (size_le (by rw [List.length_map, ofN_len]; omega)) ?_⟩
    have eL : (ofN L).map V.int ++ [V.int (n : Int)] = (ofN (L ++ [n])).map V.int := by simp [ofN]
    rw [eL]
    have hO := hK.ob.upd (o := .lst ((ofN (L ++ [n])).map V.int)) n1
    walk_at "o"
    refine ⟨hO.isO (by decide +kernel) (by decide +kernel), p, ln, lo, n, 1, pfs L, pfs (L ++ [n]), ks, rfl, hn1, hn, hO, hc.to (upd_ne n3.symm), .inl ⟨rfl, fun x => by rw [pfs_append, List.count_append, pfs_one]⟩, fun H' ks' k' hc' => ?_⟩
    walk_at "o"
    obtain ⟨C, dx, hC, hp⟩ := hO
    refine q H' ((K2.refl ln lo H).updA.trans fun c o _ h2 h => k' c o h2 h) ⟨⟨C, dx, hC, k' _ _ n2 hp⟩, k' _ _ n3 upd_same, ⟨ks', hc'⟩, fun x hx => ?_⟩
    rcases List.mem_append.mp hx with c | c
    · exact hK.rng x c
    · simp at c
      omega
end
abbrev s_KeptProduct_go : Stmt := inClass (top 38) 3
theorem sc_KeptProduct_go : FnScope ["self", "number"] ["self", "number"] (defScope s_KeptProduct_go) := ⟨rfl, rfl, rfl, by decide +kernel, rfl, by decide +kernel, by decide +kernel⟩
def sp_KeptProduct_go (K : PySem.W.Frag) : Sp := fun vs H Q _ => ∃ (p ln lo : Addr) (n : Nat) (L : List Nat), vs = [.ref p, .int (n : Int)] ∧ n ∈ L ∧ KP K H p ln lo L ∧ ∀ (H' : Hp) (L' : List Nat), K2 ln lo H H' → L.Perm (n :: L') → KP K H' p ln lo L' → Q .non H'
theorem first_at {L : List Nat} {n : Nat} (h : n ∈ L) : ∃ j, (ofN L)[j]? = some (n : Int) ∧ (∀ m, m < j → (ofN L)[m]? ≠ some (n : Int)) ∧ (ofN L).eraseIdx j = ofN (L.eraseIdx j) ∧ L.Perm (n :: L.eraseIdx j) := by
  induction L with
  | nil => cases h
  | cons a L ih =>
    by_cases c : a = n
    · subst c
      exact ⟨0, rfl, fun m hm => by omega, rfl, List.Perm.refl _⟩
    · have h2 : n ∈ L := by
        rcases List.mem_cons.mp h with e | e
        · exact absurd e.symm c
        · exact e
      obtain ⟨j, h3, h4, h5, h6⟩ := ih h2
      refine ⟨j + 1, h3, fun m hm => ?_, ?_, ?_⟩
      · cases m with
        | zero =>
          intro z
          have : (a : Int) = (n : Int) := Option.some.inj z
          omega
        | succ m => exact h4 m (by omega)
      · show (a : Int) :: (ofN L).eraseIdx j = (a : Int) :: ofN (L.eraseIdx j)
        rw [h5]
      · show (a :: L).Perm (n :: a :: L.eraseIdx j)
        exact (h6.cons a).trans (List.Perm.swap n a _)
theorem inV_mem {L : List Nat} {n : Nat} (h : n ∈ L) : inV (.int (n : Int)) ((ofN L).map V.int) = true := by
  unfold inV ofN
  rw [List.any_eq_true]
  exact ⟨.int (n : Int), List.mem_map.mpr ⟨(n : Int), List.mem_map.mpr ⟨n, h, rfl⟩, rfl⟩, decide_eq_true rfl⟩
theorem flat_ints (ns : List Int) : (ns.map V.int).all flatV = true := by
  rw [List.all_eq_true]
  intro x hx
  obtain ⟨i, _, rfl⟩ := List.mem_map.mp hx
  rfl
section
variable {P : Program} {w : World} {K : PySem.W.Frag} {mg : PySem.Str → Option Value} {base : Heap}
theorem bi_KeptProduct_go {f : Addr} {fd : FuncData} (F : Fun K "go" "KeptProduct.go" s_KeptProduct_go f fd) : Binds K fd ["self", "number"] [] := F.binds (ps := ["self", "number"]) fun _ _ _ _ _ _ us hl => match us, hl with | [_, _], _ => rfl
set_option maxHeartbeats 4000000 in
theorem ok_KeptProduct_go {f : Addr} {fd : FuncData} (F : Fun K "go" "KeptProduct.go" s_KeptProduct_go f fd) (B : Bt mg)  (h_KeptProduct_put_primes : FnM P w K mg base CX0 2 "KeptProduct" ["numbers", "often"] "put_primes" ["self", "number", "sign"] (sp_KeptProduct_put_primes K)) : FnOk P w K mg base CX0 3 f fd ["self", "number"] (sp_KeptProduct_go K) := by
  refine F.ok sc_KeptProduct_go (fun vs H Q E h => ?_) (fun cdv A outer s H vs Q E hr h => ?_)
  · obtain ⟨p, ln, lo, n, L, rfl, hmem, hK, q⟩ := h
    rfl
  · obtain ⟨p, ln, lo, n, L, rfl, hmem, hK, q⟩ := h
    refine ⟨_, (pss_cons (ps_if (pt_cmpR (k_notIn K) (pv 1) (k_fld K (pv 0) rfl) (by rfl))
        (pss_one ps_void)
        pss_nil)
      (pss_cons (ps_expr (pe_bm PySem.F.plainAttrs_list PySem.F.slot_list_remove PySem.F.type_list_remove mt_remove (k_fld K (pv 0) rfl) (pa_cons (pv 1) pa_nil)))
      (pss_one (ps_expr (pe_mt (K := K) h_KeptProduct_put_primes (hr.mono (by decide)) (pv 0) (pa_cons (pv 1) (pa_cons (pe_un un_neg pe_int) pa_nil))))))), ?_⟩
    obtain ⟨n1, n2, n3⟩ := hK.ne
    obtain ⟨ks, hc⟩ := hK.cd
    obtain ⟨j, h3, h4, h5, h6⟩ := first_at hmem
    have hr := hK.rng n hmem
    walk_at "o"
    refine hK.ob.fldN ?_
    refine ⟨ln, _, rfl, .inl (SqL.of hK.ns), rfl, flat_ints _, ?_⟩
    rw [inV_mem hmem]
    walk_at "o"
    refine hK.ob.fldN ?_
    refine ⟨.inl ⟨rfl, _, SqL.of hK.ns⟩, ln, ofN L, (n : Int), j, rfl, rfl, hK.ns, h3, h4, ?_⟩
    rw [h5]
    have hO := hK.ob.upd (o := .lst ((ofN (L.eraseIdx j)).map V.int)) n1
    walk_at "o"
    refine ⟨hO.isO (by decide +kernel) (by decide +kernel), p, ln, lo, n, -1, pfs L, pfs (L.eraseIdx j), ks, rfl, hr.1, hr.2, hO, hc.to (upd_ne n3.symm), .inr ⟨rfl, fun x => ?_⟩, fun H' ks' k' hc' => ?_⟩
    · have e : pfs (n :: L.eraseIdx j) = pf n ++ pfs (L.eraseIdx j) := rfl
      rw [(pfs_perm h6).count_eq x, e, List.count_append]
      omega
    walk_at "o"
    obtain ⟨C, dx, hC, hp⟩ := hO
    refine q H' _ ((K2.refl ln lo H).updA.trans fun c o _ h2 h => k' c o h2 h) h6 ⟨⟨C, dx, hC, k' _ _ n2 hp⟩, k' _ _ n3 upd_same, ⟨ks', hc'⟩, fun x hx => hK.rng x (h6.mem_iff.mpr (List.mem_cons_of_mem _ hx))⟩
end
abbrev s_KeptProduct_numbers_now : Stmt := inClass (top 38) 4
theorem sc_KeptProduct_numbers_now : FnScope ["self"] ["self"] (defScope s_KeptProduct_numbers_now) := ⟨rfl, rfl, rfl, by decide +kernel, rfl, by decide +kernel, by decide +kernel⟩
def sp_KeptProduct_numbers_now (K : PySem.W.Frag) : Sp := fun vs H Q _ => ∃ (p ln lo : Addr) (L : List Nat), vs = [.ref p] ∧ KP K H p ln lo L ∧ ∀ (t : Addr) (ys : List Int) (H' : Hp), H t = none → Same H H' → ys.Perm (ofN L) → ys.Pairwise (· ≤ ·) → H' t = some (.tup (ys.map V.int)) → Q (.ref t) H'
section
variable {P : Program} {w : World} {K : PySem.W.Frag} {mg : PySem.Str → Option Value} {base : Heap}
theorem bi_KeptProduct_numbers_now {f : Addr} {fd : FuncData} (F : Fun K "numbers_now" "KeptProduct.numbers_now" s_KeptProduct_numbers_now f fd) : Binds K fd ["self"] [] := F.binds (ps := ["self"]) fun _ _ _ _ _ _ us hl => match us, hl with | [_], _ => rfl
set_option maxHeartbeats 4000000 in
theorem ok_KeptProduct_numbers_now {f : Addr} {fd : FuncData} (F : Fun K "numbers_now" "KeptProduct.numbers_now" s_KeptProduct_numbers_now f fd) (B : Bt mg)   : FnOk P w K mg base CX0 1 f fd ["self"] (sp_KeptProduct_numbers_now K) := by
  refine F.ok sc_KeptProduct_numbers_now (fun vs H Q E h => ?_) (fun cdv A outer s H vs Q E hr h => ?_)
  · obtain ⟨p, ln, lo, L, rfl, hK, q⟩ := h
    rfl
  · obtain ⟨p, ln, lo, L, rfl, hK, q⟩ := h
    refine ⟨_, (pss_one (ps_ret (pe_callTy (k_tuple K) (by rfl) B.tuple (by decide +kernel) (pa_cons (pe_callB (k_sorted K) (by rfl) B.sorted (by decide +kernel) (pa_cons (k_fld K (pv 0) rfl) pa_nil)) pa_nil)))), ?_⟩
    walk_at "o"
    refine hK.ob.fldN ?_
    refine ⟨ln, ofN L, rfl, SqL.of hK.ns, fun ys r hp hs hr => ?_⟩
    refine r_tupL (SqL.of upd_same) fun t ht => ?_
    have ht2 := upd_free ht
    exact q t ys _ ht2 (sm_new (same_new hr) ht2) hp hs upd_same
end
abbrev s_KeptProduct_exponent_now : Stmt := inClass (top 38) 5
theorem sc_KeptProduct_exponent_now : FnScope ["self", "found", "many"] ["self"] (defScope s_KeptProduct_exponent_now) := ⟨rfl, rfl, rfl, by decide +kernel, rfl, by decide +kernel, by decide +kernel⟩
def sp_KeptProduct_exponent_now (K : PySem.W.Frag) : Sp := fun vs H Q _ => ∃ (p ln lo : Addr) (L : List Nat), vs = [.ref p] ∧ KP K H p ln lo L ∧ ∀ (e : Nat) (H' : Hp), Same H H' → IsExp (pfs L) e → Q (.int (e : Int)) H'
theorem dvd_step {f : Nat → Nat} {ks : List Nat} {i m r : Nat} (h : ∀ d, d ∣ r ↔ ∀ p ∈ ks.take i, d ∣ f p) (hm : ks[i]? = some m) : ∀ d, d ∣ Nat.gcd r (f m) ↔ ∀ p ∈ ks.take (i + 1), d ∣ f p := by
  intro d
  rw [Nat.dvd_gcd_iff, h d, List.take_add_one, hm]
  constructor
  · rintro ⟨h1, h2⟩ p hp
    rcases List.mem_append.mp hp with c | c
    · exact h1 p c
    · simp at c
      exact c ▸ h2
  · intro h1
    exact ⟨fun p hp => h1 p (List.mem_append_left _ hp), h1 m (List.mem_append_right _ (by simp))⟩
section
variable {P : Program} {w : World} {K : PySem.W.Frag} {mg : PySem.Str → Option Value} {base : Heap}
theorem bi_KeptProduct_exponent_now {f : Addr} {fd : FuncData} (F : Fun K "exponent_now" "KeptProduct.exponent_now" s_KeptProduct_exponent_now f fd) : Binds K fd ["self"] [] := F.binds (ps := ["self"]) fun _ _ _ _ _ _ us hl => match us, hl with | [_], _ => rfl
set_option maxHeartbeats 4000000 in
theorem ok_KeptProduct_exponent_now {f : Addr} {fd : FuncData} (F : Fun K "exponent_now" "KeptProduct.exponent_now" s_KeptProduct_exponent_now f fd) (B : Bt mg)  (h_common_divisor : Fn P w K mg base CX0 1 "common_divisor" ["one", "other"] (sp_common_divisor K)) : FnOk P w K mg base CX0 2 f fd ["self"] (sp_KeptProduct_exponent_now K) := by
  refine F.ok sc_KeptProduct_exponent_now (fun vs H Q E h => ?_) (fun cdv A outer s H vs Q E hr h => ?_)
  · obtain ⟨p, ln, lo, L, rfl, hK, q⟩ := h
    rfl
  · obtain ⟨p, ln, lo, L, rfl, hK, q⟩ := h
    refine ⟨_, (pss_cons (ps_set (i := 1) sc_KeptProduct_exponent_now.nd rfl (Or.inl rfl) pe_int)
      (pss_cons (ps_lock (ps_for PassesOwn.never rfl (pi_values (k_fld K (pv 0) rfl)) (pg_name (i := 2) sc_KeptProduct_exponent_now.nd rfl (Or.inl rfl))
        (pss_one (ps_set (i := 1) sc_KeptProduct_exponent_now.nd rfl (Or.inl rfl) (pe_fn h_common_divisor (hr.mono (by decide)) (by rfl) (pa_cons (pv 1) (pa_cons (pv 2) pa_nil)))))))
      (pss_cons (ps_if (pt_cmpR op_eq (pv 1) pe_int (nomark _))
        (pss_one (ps_ret pe_int))
        pss_nil)
      (pss_one (ps_ret (pv 1)))))), ?_⟩
    obtain ⟨n1, n2, n3⟩ := hK.ne
    obtain ⟨ks, hc⟩ := hK.cd
    walk_at "o"
    refine ⟨lo, _, hc.at_, trivial, fun od => ?_⟩
    have hO := hK.ob.upd (o := .frz od (.dK (dN ks fun k => .int (((pfs L).count k : Nat) : Int)))) n2
    refine hO.fldO ?_
    refine ⟨lo, rfl, od, _, upd_same, for_v (fun i σ H' => H' = upd H lo (.frz od (.dK (dN ks fun k => .int (((pfs L).count k : Nat) : Int)))) ∧ ∃ (r : Nat) (v2 : Option V), σ = [some (.ref p), some (.int (r : Int)), v2] ∧ ∀ d, d ∣ r ↔ ∀ p ∈ ks.take i, d ∣ (pfs L).count p) ⟨rfl, 0, _, rfl, fun d => ⟨fun _ p hp => by simp at hp, fun _ => Nat.dvd_zero d⟩⟩ ?_ ?_ ?_⟩
    · rintro i σ H' _ ⟨rfl, _⟩
      exact upd_same
    · rintro i m σ H' hm hi ⟨rfl, r, v2, rfl, hd⟩ N hN
      walk_at "o"
      refine ⟨r, (pfs L).count m, rfl, ?_⟩
      walk_at "o"
      exact hN _ _ ⟨rfl, _, _, rfl, dvd_step hd hm⟩
    · rintro σ H' ⟨rfl, r, v2, rfl, hd⟩
      rw [List.take_length] at hd
      refine ⟨upd_same, ?_⟩
      rw [upd_upd, upd_eta hc.at_]
      have hE := gcd_exp hc.all hd
      walk_at "o"
      refine ite2 (fun h0 => ?_) (fun h0 => ?_)
      · rw [if_pos (by omega)] at hE
        exact q 2 _ (Same.refl _) hE
      · rw [if_neg (by omega)] at hE
        walk_at "o"
        exact q r _ (Same.refl _) hE
end
abbrev s_KeptProduct_lacks_now : Stmt := inClass (top 38) 6
theorem sc_KeptProduct_lacks_now : FnScope ["self", "exponent", "found", "prime", "many"] ["self", "exponent"] (defScope s_KeptProduct_lacks_now) := ⟨rfl, rfl, rfl, by decide +kernel, rfl, by decide +kernel, by decide +kernel⟩
def sp_KeptProduct_lacks_now (K : PySem.W.Frag) : Sp := fun vs H Q _ => ∃ (p ln lo : Addr) (L : List Nat) (e : Nat), vs = [.ref p, .int (e : Int)] ∧ KP K H p ln lo L ∧ 1 ≤ e ∧ e ≤ 200 ∧ L.length ≤ 200 ∧ ∀ (r : Nat) (H' : Hp), Same H H' → IsLack (pfs L) e r → Q (.int (r : Int)) H'
section
variable {P : Program} {w : World} {K : PySem.W.Frag} {mg : PySem.Str → Option Value} {base : Heap}
theorem bi_KeptProduct_lacks_now {f : Addr} {fd : FuncData} (F : Fun K "lacks_now" "KeptProduct.lacks_now" s_KeptProduct_lacks_now f fd) : Binds K fd ["self", "exponent"] [] := F.binds (ps := ["self", "exponent"]) fun _ _ _ _ _ _ us hl => match us, hl with | [_, _], _ => rfl
set_option maxHeartbeats 4000000 in
theorem ok_KeptProduct_lacks_now {f : Addr} {fd : FuncData} (F : Fun K "lacks_now" "KeptProduct.lacks_now" s_KeptProduct_lacks_now f fd) (B : Bt mg)  (h_taken : Fn P w K mg base CX0 1 "taken" ["base", "exponent"] (sp_taken K)) : FnOk P w K mg base CX0 2 f fd ["self", "exponent"] (sp_KeptProduct_lacks_now K) := by
  refine F.ok sc_KeptProduct_lacks_now (fun vs H Q E h => ?_) (fun cdv A outer s H vs Q E hr h => ?_)
  · obtain ⟨p, ln, lo, L, e, rfl, hK, he1, he, hlen, q⟩ := h
    rfl
  · obtain ⟨p, ln, lo, L, e, rfl, hK, he1, he, hlen, q⟩ := h
    refine ⟨_, (pss_cons (ps_set (i := 2) sc_KeptProduct_lacks_now.nd rfl (Or.inl rfl) pe_int)
      (pss_cons (ps_lock (ps_for PassesOwn.never rfl (pi_items (k_fld K (pv 0) rfl)) (pg_tup rfl (pgs_cons (pg_name (i := 3) sc_KeptProduct_lacks_now.nd rfl (Or.inl rfl)) (pgs_cons (pg_name (i := 4) sc_KeptProduct_lacks_now.nd rfl (Or.inl rfl)) pgs_nil)))
        (pss_one (ps_set (i := 2) sc_KeptProduct_lacks_now.nd rfl (Or.inl rfl) (pe_op op_mulW (pv 2) (pe_fn h_taken (hr.mono (by decide)) (by rfl) (pa_cons (pv 3) (pa_cons (pe_op op_mod (pe_op op_sub pe_int (pv 4)) (pv 1)) pa_nil))))))))
      (pss_one (ps_ret (pv 2))))), ?_⟩
    obtain ⟨n1, n2, n3⟩ := hK.ne
    obtain ⟨ks, hc⟩ := hK.cd
    walk_at "o"
    refine ⟨lo, _, hc.at_, trivial, fun od => ?_⟩
    have hO := hK.ob.upd (o := .frz od (.dK (dN ks fun k => .int (((pfs L).count k : Nat) : Int)))) n2
    refine hO.fldO ?_
    have fz : upd H lo (.frz od (.dK (dN ks fun k => .int (((pfs L).count k : Nat) : Int)))) lo = _ := upd_same
    refine ⟨lo, rfl, od, _, fz, for_i (fun i σ H' => Same (upd H lo (.frz od (.dK (dN ks fun k => .int (((pfs L).count k : Nat) : Int))))) H' ∧ ∃ (v3 v4 : Option V), σ = [some (.ref p), some (.int (e : Int)), some (.int ((lackK (ks.take i) (pfs L) e : Nat) : Int)), v3, v4]) ⟨Same.refl _, _, _, rfl⟩ ?_ ?_ ?_⟩
    · rintro i σ H' _ ⟨s, _⟩
      exact s _ _ fz
    · rintro i m σ H' T hm hi ⟨s1, v3, v4, rfl⟩ hT N hN
      have sT := same_new (o := .tup [V.int (m : Int), V.int (((pfs L).count m : Nat) : Int)]) hT
      have hT2 : upd H' T (.tup [V.int (m : Int), V.int (((pfs L).count m : Nat) : Int)]) T = _ := upd_same
      have s2 := s1.trans sT
      generalize upd H' T (.tup [V.int (m : Int), V.int (((pfs L).count m : Nat) : Int)]) = H3 at sT hT2 s2 ⊢
      have hr := hc.rng m (List.mem_of_getElem? hm)
      have hlt : lackE ((pfs L).count m) e < e := Nat.mod_lt _ (by omega)
      have hm20 : m < 2 ^ 20 := Nat.lt_of_le_of_lt hr.2 (by decide)
      have hX : lackK (ks.take i) (pfs L) e ≤ 2 ^ (20 * L.length * e) := lack_log he1 (hc.nd.sublist (List.take_sublist i ks)) hK.rng fun x hx => by
        have := hc.rng x (List.mem_of_mem_take hx)
        omega
      have hB : 20 * L.length * e ≤ 20 * 200 * 200 := Nat.mul_le_mul (by omega) he
      have l1 := log2_le_of_le hX
      have hY : m ^ lackE ((pfs L).count m) e ≤ 2 ^ (20 * lackE ((pfs L).count m) e) := by
        rw [Nat.pow_mul]
        exact Nat.pow_le_pow_left (by omega) _
      have l2 := log2_le_of_le hY
      have em := lack_mod ((pfs L).count m) he1
      have ep : ((lackK (ks.take i) (pfs L) e : Nat) : Int) * ((m ^ lackE ((pfs L).count m) e : Nat) : Int) = ((lackK (ks.take (i + 1)) (pfs L) e : Nat) : Int) := by
        rw [List.take_add_one, hm, Option.toList_some, lackK_snoc]
        push_cast
        rfl
      refine ⟨T, _, rfl, SqT.of hT2, rfl, ?_⟩
      walk_at "o"
      rw [em]
      refine ⟨by omega, m, lackE ((pfs L).count m) e, 20, rfl, .inl hm20, by omega, ?_⟩
      walk_at "o"
      rw [ep]
      refine ⟨cmulN (by omega), hN _ _ ⟨s2, _, _, rfl⟩⟩
    · rintro σ H' ⟨s1, v3, v4, rfl⟩
      rw [List.take_length]
      refine ⟨s1 _ _ fz, ?_⟩
      walk_at "o"
      exact q _ _ (same_unlock s1 hc.at_) (lack_keys hc.nd hc.all)
end
abbrev s_taken_to : Stmt := top 41
theorem sc_taken_to : FnScope ["base", "exponent", "found", "turn"] ["base", "exponent"] (defScope s_taken_to) := ⟨rfl, rfl, rfl, by decide +kernel, rfl, by decide +kernel, by decide +kernel⟩
def sp_taken_to (K : PySem.W.Frag) : Sp := fun vs H Q _ => ∃ (b e a : Nat), vs = [.int (b : Int), .int (e : Int)] ∧ b < 2 ^ a ∧ e ≤ 1000000 ∧ a * e ≤ 300000 ∧ Q (.int ((b ^ e : Nat) : Int)) H
section
variable {P : Program} {w : World} {K : PySem.W.Frag} {mg : PySem.Str → Option Value} {base : Heap}
theorem bi_taken_to {f : Addr} {fd : FuncData} (F : Fun K "taken_to" "taken_to" s_taken_to f fd) : Binds K fd ["base", "exponent"] [] := F.binds (ps := ["base", "exponent"]) fun _ _ _ _ _ _ us hl => match us, hl with | [_, _], _ => rfl
set_option maxHeartbeats 4000000 in
theorem ok_taken_to {f : Addr} {fd : FuncData} (F : Fun K "taken_to" "taken_to" s_taken_to f fd) (B : Bt mg)   : FnOk P w K mg base CX0 1 f fd ["base", "exponent"] (sp_taken_to K) := by
  refine F.ok sc_taken_to (fun vs H Q E h => ?_) (fun cdv A outer s H vs Q E hr h => ?_)
  · obtain ⟨b, e, a, rfl, hb, he, ha, q⟩ := h
    rfl
  · obtain ⟨b, e, a, rfl, hb, he, ha, q⟩ := h
    refine ⟨_, (pss_cons (ps_set (i := 2) sc_taken_to.nd rfl (Or.inl rfl) pe_int)
      (pss_cons (ps_for PassesOwn.never rfl (pi_range1 rfl B.range (pa_cons (pv 1) pa_nil)) (pg_name (i := 3) sc_taken_to.nd rfl (Or.inl rfl))
        (pss_one (ps_set (i := 2) sc_taken_to.nd rfl (Or.inl rfl) (pe_op op_mulW (pv 2) (pv 0)))))
      (pss_one (ps_ret (pv 2))))), ?_⟩
    walk_at "w"
    refine ⟨by omega, by omega, for_r (fun i σ H' => ∃ (v : Option V), σ = [some (.int b), some (.int e), some (.int ((b ^ i : Nat) : Int)), v] ∧ H' = H) ⟨none, by simp, rfl⟩ ?_ ?_⟩
    · rintro i σ H' hi ⟨v, rfl, rfl⟩ N hN
      have hi : i < e := by omega
      have h1 : b ^ i ≤ 2 ^ (a * e) := by
        rw [Nat.pow_mul]
        refine Nat.le_trans (Nat.pow_le_pow_left (Nat.le_of_lt hb) i) (Nat.pow_le_pow_right (Nat.two_pow_pos a) (by omega))
      have h2 : b ≤ 2 ^ (a * e) := Nat.le_trans (Nat.le_of_lt hb) (Nat.pow_le_pow_right (by decide) (Nat.le_mul_of_pos_right a (by omega)))
      have l1 := log2_le_of_le h1
      have l2 := log2_le_of_le h2
      walk_at "w"
      rw [show ((b ^ i : Nat) : Int) * (b : Int) = ((b ^ (i + 1) : Nat) : Int) by simp [Nat.pow_succ]]
      exact ⟨cmulN (by omega), hN _ _ ⟨_, rfl, rfl⟩⟩
    · rintro σ H' ⟨v, rfl, rfl⟩
      walk_at "w"
      exact q
end
abbrev s_higher_powers : Stmt := top 40
theorem sc_higher_powers : FnScope ["most", "found", "exponent", "base"] ["most"] (defScope s_higher_powers) := ⟨rfl, rfl, rfl, by decide +kernel, rfl, by decide +kernel, by decide +kernel⟩
def sp_higher_powers (K : PySem.W.Frag) : Sp := fun vs H Q _ => ∃ (m : Nat), vs = [.int (m : Int)] ∧ m ≤ 1000000000000 ∧ ∀ (p : Addr) (ks : List Nat) (H' : Hp), H p = none → Same H H' → ks.Nodup → ks.length ≤ 400000 → (∀ x, x ∈ ks ↔ ∃ b e, 1 ≤ b ∧ 3 ≤ e ∧ 2 ^ e ≤ m ∧ x = b ^ e ∧ x ≤ m) → H' p = some (.dK (dN ks fun _ => .bl true)) → Q (.ref p) H'
section
variable {P : Program} {w : World} {K : PySem.W.Frag} {mg : PySem.Str → Option Value} {base : Heap}
theorem bi_higher_powers {f : Addr} {fd : FuncData} (F : Fun K "higher_powers" "higher_powers" s_higher_powers f fd) : Binds K fd ["most"] [] := F.binds (ps := ["most"]) fun _ _ _ _ _ _ us hl => match us, hl with | [_], _ => rfl
set_option maxHeartbeats 4000000 in
theorem ok_higher_powers {f : Addr} {fd : FuncData} (F : Fun K "higher_powers" "higher_powers" s_higher_powers f fd) (B : Bt mg)  (h_root_of : Fn P w K mg base CX0 2 "root_of" ["number", "exponent"] (sp_root_of K)) (h_taken_to : Fn P w K mg base CX0 1 "taken_to" ["base", "exponent"] (sp_taken_to K)) : FnOk P w K mg base CX0 3 f fd ["most"] (sp_higher_powers K) := by
  refine F.ok sc_higher_powers (fun vs H Q E h => ?_) (fun cdv A outer s H vs Q E hr h => ?_)
  · obtain ⟨m, rfl, hm, q⟩ := h
    rfl
  · obtain ⟨m, rfl, hm, q⟩ := h
    refine ⟨_, (pss_cons (ps_set (i := 1) sc_higher_powers.nd rfl (Or.inl rfl) pe_dnewK)
      (pss_cons (ps_set (i := 2) sc_higher_powers.nd rfl (Or.inl rfl) pe_int)
      (pss_cons (ps_while PassesOwn.never (pt_cmpR op_gt (pe_ix (k_ixT K) (pe_fn h_root_of (hr.mono (by decide)) (by rfl) (pa_cons (pv 0) (pa_cons (pv 2) pa_nil))) pe_int (fun _ _ => rfl)) pe_int (nomark _))
        (pss_cons (ps_for PassesOwn.never rfl (pi_range2 rfl B.range (pa_cons pe_int (pa_cons (pe_op op_add (pe_ix (k_ixT K) (pe_fn h_root_of (hr.mono (by decide)) (by rfl) (pa_cons (pv 0) (pa_cons (pv 2) pa_nil))) pe_int (fun _ _ => rfl)) pe_int) pa_nil))) (pg_name (i := 3) sc_higher_powers.nd rfl (Or.inl rfl))
          (pss_one (ps_dput (hu_of hr) (pv 1) (pe_fn h_taken_to (hr.mono (by decide)) (by rfl) (pa_cons (pv 3) (pa_cons (pv 2) pa_nil))) pe_bl rfl)))
        (pss_one (ps_set (i := 2) sc_higher_powers.nd rfl (Or.inl rfl) (pe_op op_add (pv 2) pe_int)))))
      (pss_one (ps_ret (pv 1)))))), ?_⟩
    have h20 : m < 2 ^ 40 := Nat.lt_of_le_of_lt hm (by decide)
    walk_at "d"
    intro p hp
    refine while_m (fun z σ H' => ∃ (k : Nat) (ks : List Nat) (v3 : Option V), σ = [some (.int (m : Int)), some (.ref p), some (.int ((3 + k : Nat) : Int)), v3] ∧ 40 - k = z ∧ (k = 0 ∨ 2 ^ (2 + k) ≤ m) ∧ Same H H' ∧ H' p = some (.dK (dN ks fun _ => .bl true)) ∧ ks.Nodup ∧ ks.length ≤ 10000 * k ∧ ∀ x, x ∈ ks ↔ ∃ b e, 1 ≤ b ∧ 3 ≤ e ∧ e < 3 + k ∧ x = b ^ e ∧ x ≤ m) 40 ⟨0, [], _, rfl, rfl, .inl rfl, same_new hp, upd_same, List.nodup_nil, by simp, fun x => ⟨fun h => by simp at h, fun ⟨b, e, h1, h2, h3, _⟩ => by omega⟩⟩ ?_
    rintro z σ H1 ⟨k, ks, v3, rfl, rfl, hk, s1, hd, hn, hl, hmem⟩ G hG
    have hk17 : k ≤ 37 := by
      rcases hk with c | c
      · omega
      · have : 2 + k < 40 := (Nat.pow_lt_pow_iff_right (by omega : 1 < 2)).mp (Nat.lt_of_le_of_lt c h20)
        omega
    walk_at "d"
    refine ⟨m, 3 + k, 40, rfl, by omega, h20, by omega, fun r t h1 h2 ht => ?_⟩
    have er := rootN_is (by omega) h1 h2
    subst er
    refine r_ixT (SqT.of upd_same) (v := .int ((rootN m (3 + k) : Nat) : Int)) rfl ?_
    have st := same_new (o := .tup [V.int ((rootN m (3 + k) : Nat) : Int), V.int ((m - rootN m (3 + k) ^ (3 + k) : Nat) : Int)]) ht
    have hd2 := st _ _ hd
    have s2 := s1.trans st
    generalize upd H1 t (.tup [V.int ((rootN m (3 + k) : Nat) : Int), V.int ((m - rootN m (3 + k) ^ (3 + k) : Nat) : Int)]) = H2 at st hd2 s2 ⊢
    walk_at "d"
    have hgt := rootN_gt1 (n := m) (e := 3 + k) (by omega)
    have hr100 : rootN m (3 + k) ≤ 10000 := by
      rcases Nat.lt_or_ge 10000 (rootN m (3 + k)) with c | c
      · have h3 : 10001 ^ 3 ≤ rootN m (3 + k) ^ 3 := Nat.pow_le_pow_left c 3
        have h4 : rootN m (3 + k) ^ 3 ≤ rootN m (3 + k) ^ (3 + k) := Nat.pow_le_pow_right (by omega) (by omega)
        omega
      · exact c
    refine ite2 (fun hc => hG _ _ fun N hN => ?_) (fun hc => ?_)
    · have h2e : 2 ^ (3 + k) ≤ m := hgt.mp (by omega)
      walk_at "d"
      refine ⟨m, 3 + k, 40, rfl, by omega, h20, by omega, fun r t3 h13 h23 ht3 => ?_⟩
      have er := rootN_is (by omega) h13 h23
      subst er
      refine r_ixT (SqT.of upd_same) (v := .int ((rootN m (3 + k) : Nat) : Int)) rfl ?_
      have st3 := same_new (o := .tup [V.int ((rootN m (3 + k) : Nat) : Int), V.int ((m - rootN m (3 + k) ^ (3 + k) : Nat) : Int)]) ht3
      have hd3 := st3 _ _ hd2
      have s3 := s2.trans st3
      generalize upd H2 t3 (.tup [V.int ((rootN m (3 + k) : Nat) : Int), V.int ((m - rootN m (3 + k) ^ (3 + k) : Nat) : Int)]) = H3 at st3 hd3 s3 ⊢
      walk_at "d"
      have hkk : (((rootN m (3 + k) : Nat) : Int) + 1 - 1).toNat = rootN m (3 + k) := by omega
      rw [hkk]
      refine ⟨by omega, by omega, by omega, by omega, for_r (fun i σ H' => ∃ (ks' : List Nat) (v3 : Option V), σ = [some (.int (m : Int)), some (.ref p), some (.int ((3 + k : Nat) : Int)), v3] ∧ Same H H' ∧ H' p = some (.dK (dN ks' fun _ => .bl true)) ∧ ks'.Nodup ∧ ks'.length ≤ 10000 * k + i ∧ ∀ x, x ∈ ks' ↔ x ∈ ks ∨ ∃ b, 1 ≤ b ∧ b ≤ i ∧ x = b ^ (3 + k)) ⟨ks, _, rfl, s3, hd3, hn, by omega, fun x => ⟨.inl, fun z => z.elim id fun ⟨b, b1, b2, _⟩ => by omega⟩⟩ ?_ ?_⟩
      · rintro i σ H4 hi ⟨ks', v3, rfl, s4, hd4, hn4, hl4, hm4⟩ N2 hN2
        have e1 : (1 : Int) + (i : Int) = ((1 + i : Nat) : Int) := by omega
        walk_at "d"
        rw [e1]
        refine ⟨1 + i, 3 + k, 14, rfl, by omega, by omega, by omega, ?_⟩
        walk_at "d"
        obtain ⟨g1, g2, g3⟩ := put_nodup (x := (1 + i) ^ (3 + k)) hn4
        refine ⟨_, dN_any hd4 (size_le (by omega)), ?_⟩
        refine hN2 _ _ ⟨_, _, rfl, sm_new s4 hp, upd_same, g1, by omega, fun x => ?_⟩
        rw [g2 x, hm4 x]
        constructor
        · rintro ((y | ⟨b, b1, b2, b3⟩) | y)
          · exact .inl y
          · exact .inr ⟨b, b1, by omega, b3⟩
          · exact .inr ⟨1 + i, by omega, by omega, y⟩
        · rintro (y | ⟨b, b1, b2, b3⟩)
          · exact .inl (.inl y)
          · rcases (by omega : b ≤ i ∨ b = 1 + i) with c | c
            · exact .inl (.inr ⟨b, b1, c, b3⟩)
            · exact .inr (c ▸ b3)
      · rintro σ H4 ⟨ks', v3, rfl, s4, hd4, hn4, hl4, hm4⟩
        walk_at "d"
        have e2 : ((3 + k : Nat) : Int) + 1 = ((3 + (k + 1) : Nat) : Int) := by omega
        rw [e2]
        refine hN _ _ _ (by omega) ⟨k + 1, ks', _, rfl, rfl, .inr (by rw [show 2 + (k + 1) = 3 + k by omega]; exact h2e), s4, hd4, hn4, by omega, fun x => ?_⟩
        rw [hm4 x, hmem x]
        constructor
        · rintro (⟨b, e, b1, b2, b3, b4, b5⟩ | ⟨b, b1, b2, b3⟩)
          · exact ⟨b, e, b1, b2, by omega, b4, b5⟩
          · refine ⟨b, 3 + k, b1, by omega, by omega, b3, ?_⟩
            rw [b3]
            exact Nat.le_trans (Nat.pow_le_pow_left b2 _) h1
        · rintro ⟨b, e, b1, b2, b3, b4, b5⟩
          rcases (by omega : e < 3 + k ∨ e = 3 + k) with c | c
          · exact .inl ⟨b, e, b1, b2, c, b4, b5⟩
          · subst c
            exact .inr ⟨b, b1, rootN_ge (by omega) (by omega), b4⟩
    · walk_at "d"
      refine q p ks _ hp s2 hn (by omega) (fun x => ?_) hd2
      rw [hmem x]
      have hno : ¬ 2 ^ (3 + k) ≤ m := fun z => hc (by have := hgt.mpr z; omega)
      constructor
      · rintro ⟨b, e, b1, b2, b3, b4, b5⟩
        refine ⟨b, e, b1, b2, ?_, b4, b5⟩
        rcases hk with c | c
        · omega
        · exact Nat.le_trans (Nat.pow_le_pow_right (by omega) (by omega)) c
      · rintro ⟨b, e, b1, b2, b3, b4, b5⟩
        refine ⟨b, e, b1, b2, Nat.lt_of_not_le fun z => hno ?_, b4, b5⟩
        exact Nat.le_trans (Nat.pow_le_pow_right (by omega) z) b3
end
abbrev s_is_square : Stmt := top 42
theorem sc_is_square : FnScope ["number"] ["number"] (defScope s_is_square) := ⟨rfl, rfl, rfl, by decide +kernel, rfl, by decide +kernel, by decide +kernel⟩
def sp_is_square (K : PySem.W.Frag) : Sp := fun vs H Q _ => ∃ (n : Nat), vs = [.int (n : Int)] ∧ n ≤ 10 ^ 13 ∧ ∀ (b : Bool) (H' : Hp), Same H H' → (b = true ↔ 1 ≤ n ∧ rootN n 2 * rootN n 2 = n) → Q (.bl b) H'
section
variable {P : Program} {w : World} {K : PySem.W.Frag} {mg : PySem.Str → Option Value} {base : Heap}
theorem bi_is_square {f : Addr} {fd : FuncData} (F : Fun K "is_square" "is_square" s_is_square f fd) : Binds K fd ["number"] [] := F.binds (ps := ["number"]) fun _ _ _ _ _ _ us hl => match us, hl with | [_], _ => rfl
set_option maxHeartbeats 4000000 in
theorem ok_is_square {f : Addr} {fd : FuncData} (F : Fun K "is_square" "is_square" s_is_square f fd) (B : Bt mg)  (h_root_of : Fn P w K mg base CX0 2 "root_of" ["number", "exponent"] (sp_root_of K)) : FnOk P w K mg base CX0 3 f fd ["number"] (sp_is_square K) := by
  refine F.ok sc_is_square (fun vs H Q E h => ?_) (fun cdv A outer s H vs Q E hr h => ?_)
  · obtain ⟨n, rfl, hn, q⟩ := h
    rfl
  · obtain ⟨n, rfl, hn, q⟩ := h
    refine ⟨_, (pss_one (ps_ret (pe_and (pe_cmpR op_gt (pv 0) pe_int (nomark _)) (pe_and (pe_cmpR (k_in K) (pe_op op_mod (pv 0) pe_int) (pe_tup (pa_cons pe_int (pa_cons pe_int (pa_cons pe_int (pa_cons pe_int pa_nil))))) (by rfl)) (pe_one (pe_cmpR op_eq (pe_ix (k_ixT K) (pe_fn h_root_of (hr.mono (by decide)) (by rfl) (pa_cons (pv 0) (pa_cons pe_int pa_nil))) pe_int (fun _ _ => rfl)) pe_int (nomark _))))))), ?_⟩
    walk_at "w"
    by_cases h1 : 1 ≤ n
    · rw [if_pos (by omega)]
      refine ⟨by omega, by show 4 ≤ sizeLine; decide, fun p hp => ?_⟩
      refine r_inI (ys := [0, 1, 4, 9]) (SqT.of upd_same) ?_
      have s1 := same_new (o := .tup [V.int 0, V.int 1, V.int 4, V.int 9]) hp
      have em : (n : Int) % 16 = ((n % 16 : Nat) : Int) := by push_cast; rfl
      rw [em]
      by_cases hc : n % 16 = 0 ∨ n % 16 = 1 ∨ n % 16 = 4 ∨ n % 16 = 9
      · rw [decide_eq_true (by simp only [List.mem_cons, List.not_mem_nil, or_false]; omega)]
        walk_at "w"
        refine ⟨n, 2, 44, rfl, by omega, Nat.lt_of_le_of_lt hn (by decide), by omega, fun r t g1 g2 ht => ?_⟩
        have er := rootN_is (by omega) g1 g2
        subst er
        refine r_ixT (SqT.of upd_same) (v := .int ((n - rootN n 2 ^ 2 : Nat) : Int)) rfl ?_
        walk_at "w"
        refine q _ _ (s1.trans (same_new ht)) ?_
        rw [← Nat.pow_two]
        simp only [decide_eq_true_eq]
        omega
      · rw [decide_eq_false (by simp only [List.mem_cons, List.not_mem_nil, or_false]; omega)]
        walk_at "w"
        refine q _ _ s1 ⟨fun z => (by cases z), fun z => ?_⟩
        exfalso
        have h3 := z.2
        generalize rootN n 2 = r at h3
        have h4 : (r * r) % 16 = ((r % 16) * (r % 16)) % 16 := Nat.mul_mod r r 16
        have h5 : ∀ s, s < 16 → (s * s) % 16 = 0 ∨ (s * s) % 16 = 1 ∨ (s * s) % 16 = 4 ∨ (s * s) % 16 = 9 := by decide
        have h6 := h5 (r % 16) (Nat.mod_lt _ (by omega))
        rw [← h4, h3] at h6
        exact hc h6
    · rw [if_neg (by omega)]
      exact q _ _ (Same.refl _) ⟨fun z => (by cases z), fun z => by omega⟩
end
abbrev s_squares_apart : Stmt := top 43
theorem sc_squares_apart : FnScope ["difference", "most", "found", "small", "lesser", "greater"] ["difference", "most"] (defScope s_squares_apart) := ⟨rfl, rfl, rfl, by decide +kernel, rfl, by decide +kernel, by decide +kernel⟩
/-- squares so far apart, by both roots' difference below s -/
def SqA (d m s : Nat) (ps : List (Int × Int)) : Prop := ps.Nodup ∧ ps.length ≤ s ∧ ∀ p, p ∈ ps ↔ ∃ a b : Nat, p = (((a * a : Nat) : Int), ((b * b : Nat) : Int)) ∧ 1 ≤ a ∧ a < b ∧ b - a < s ∧ b * b = a * a + d ∧ b * b ≤ m
theorem sq_gap {a b d : Nat} (h : a < b) : b * b = a * a + d ↔ (b - a) * (2 * a + (b - a)) = d := by
  obtain ⟨s, rfl⟩ : ∃ s, b = a + s := ⟨b - a, by omega⟩
  rw [Nat.add_sub_cancel_left]
  have : (a + s) * (a + s) = a * a + s * (2 * a + s) := by
    rw [Nat.add_mul, Nat.mul_add, Nat.mul_add, Nat.mul_add, Nat.mul_comm s (2 * a), Nat.mul_assoc, Nat.mul_comm s a]
    omega
  rw [this]
  omega
theorem SqA.no {d m s : Nat} {ps : List (Int × Int)} (h : SqA d m s ps) (hs : 1 ≤ s) (hn : ∀ a, 1 ≤ a → s * (2 * a + s) = d → ¬ (a + s) * (a + s) ≤ m) : SqA d m (s + 1) ps := by
  obtain ⟨h1, h2, h3⟩ := h
  refine ⟨h1, by omega, fun p => ?_⟩
  rw [h3 p]
  constructor
  · rintro ⟨a, b, g1, g2, g3, g4, g5, g6⟩
    exact ⟨a, b, g1, g2, g3, by omega, g5, g6⟩
  · rintro ⟨a, b, g1, g2, g3, g4, g5, g6⟩
    rcases (by omega : b - a < s ∨ b - a = s) with c | c
    · exact ⟨a, b, g1, g2, g3, c, g5, g6⟩
    · exfalso
      have h4 := (sq_gap g3).mp g5
      rw [c] at h4
      refine hn a g2 h4 ?_
      rw [show a + s = b by omega]
      exact g6
theorem SqA.yes {d m s a : Nat} {ps : List (Int × Int)} (h : SqA d m s ps) (hs : 1 ≤ s) (ha : 1 ≤ a) (hd : s * (2 * a + s) = d) (hm : (a + s) * (a + s) ≤ m) : SqA d m (s + 1) (ps ++ [(((a * a : Nat) : Int), (((a + s) * (a + s) : Nat) : Int))]) := by
  obtain ⟨h1, h2, h3⟩ := h
  have hg : (a + s) * (a + s) = a * a + d := (sq_gap (by omega)).mpr (by rw [Nat.add_sub_cancel_left]; exact hd)
  refine ⟨?_, by rw [List.length_append]; show _ + 1 ≤ s + 1; omega, fun p => ?_⟩
  · rw [List.nodup_append]
    refine ⟨h1, by simp, fun x hx y hy => ?_⟩
    rw [List.mem_singleton] at hy
    obtain ⟨a', b', g1, g2, g3, g4, g5, g6⟩ := (h3 x).mp hx
    intro z
    rw [hy, g1] at z
    injection z with z1 z2
    have e1 : a' * a' = a * a := by omega
    have e2 : b' * b' = (a + s) * (a + s) := by omega
    have f1 : a' = a := Nat.mul_self_inj.mp e1
    have f2 : b' = a + s := Nat.mul_self_inj.mp e2
    omega
  · rw [List.mem_append, h3 p, List.mem_singleton]
    constructor
    · rintro (⟨a', b', g1, g2, g3, g4, g5, g6⟩ | g)
      · exact ⟨a', b', g1, g2, g3, by omega, g5, g6⟩
      · exact ⟨a, a + s, g, ha, by omega, by omega, hg, hm⟩
    · rintro ⟨a', b', g1, g2, g3, g4, g5, g6⟩
      rcases (by omega : b' - a' < s ∨ b' - a' = s) with c | c
      · exact .inl ⟨a', b', g1, g2, g3, c, g5, g6⟩
      · right
        have h4 := (sq_gap g3).mp g5
        rw [c, ← hd] at h4
        have h5 := Nat.eq_of_mul_eq_mul_left (by omega) h4
        have e1 : a' = a := by omega
        have e2 : b' = a + s := by omega
        rw [g1, e1, e2]
theorem SqA.all {d m s : Nat} {ps : List (Int × Int)} (h : SqA d m s ps) (hs1 : 1 ≤ s) (hd : d ≤ s * s) (hs : s ≤ 1000001) : SqA d m 1000001 ps := by
  obtain ⟨h1, h2, h3⟩ := h
  refine ⟨h1, by omega, fun p => ?_⟩
  rw [h3 p]
  constructor
  · rintro ⟨a, b, g1, g2, g3, g4, g5, g6⟩
    exact ⟨a, b, g1, g2, g3, by omega, g5, g6⟩
  · rintro ⟨a, b, g1, g2, g3, g4, g5, g6⟩
    refine ⟨a, b, g1, g2, g3, Nat.lt_of_not_le fun c => ?_, g5, g6⟩
    have h4 := (sq_gap g3).mp g5
    have h5 : s * (1 + s) ≤ (b - a) * (2 * a + (b - a)) := Nat.mul_le_mul c (by omega)
    rw [Nat.mul_add, Nat.mul_one] at h5
    omega
def sp_squares_apart (K : PySem.W.Frag) : Sp := fun vs H Q _ => ∃ (d m : Nat), vs = [.int (d : Int), .int (m : Int)] ∧ 1 ≤ d ∧ d ≤ 10 ^ 12 ∧ m ≤ 10 ^ 12 ∧ ∀ (t : Addr) (cs : List Addr) (ps : List (Int × Int)) (H' : Hp), H t = none → Same H H' → H' t = some (.lst (cs.map V.ref)) → DicT.Prs H' cs ps → SqA d m 1000001 ps → Q (.ref t) H'
section
variable {P : Program} {w : World} {K : PySem.W.Frag} {mg : PySem.Str → Option Value} {base : Heap}
theorem bi_squares_apart {f : Addr} {fd : FuncData} (F : Fun K "squares_apart" "squares_apart" s_squares_apart f fd) : Binds K fd ["difference", "most"] [] := F.binds (ps := ["difference", "most"]) fun _ _ _ _ _ _ us hl => match us, hl with | [_, _], _ => rfl
set_option maxHeartbeats 4000000 in
theorem ok_squares_apart {f : Addr} {fd : FuncData} (F : Fun K "squares_apart" "squares_apart" s_squares_apart f fd) (B : Bt mg)   : FnOk P w K mg base CX0 1 f fd ["difference", "most"] (sp_squares_apart K) := by
  refine F.ok sc_squares_apart (fun vs H Q E h => ?_) (fun cdv A outer s H vs Q E hr h => ?_)
  · obtain ⟨d, m, rfl, hd, hd2, hm, q⟩ := h
    rfl
  · obtain ⟨d, m, rfl, hd, hd2, hm, q⟩ := h
    refine ⟨_, (pss_cons (ps_set (i := 2) sc_squares_apart.nd rfl (Or.inl rfl) (pe_lst pa_nil))
      (pss_cons (ps_set (i := 3) sc_squares_apart.nd rfl (Or.inl rfl) pe_int)
      (pss_cons (ps_while PassesOwn.never (pt_cmpR op_lt (pe_op op_mulW (pv 3) (pv 3)) (pv 0) (nomark _))
        (pss_cons (ps_if (PW.pt (pw_and (pt_cmpR op_eq (pe_op op_mod (pv 0) (pv 3)) pe_int (nomark _)) (pw_and1 (pt_cmpR op_eq (pe_op op_mod (pe_op op_add (pv 3) (pe_op op_fdivW (pv 0) (pv 3))) pe_int) pe_int (nomark _)))))
          (pss_cons (ps_set (i := 4) sc_squares_apart.nd rfl (Or.inl rfl) (pe_op op_fdiv (pe_op op_sub (pe_op op_fdivW (pv 0) (pv 3)) (pv 3)) pe_int))
          (pss_cons (ps_set (i := 5) sc_squares_apart.nd rfl (Or.inl rfl) (pe_op op_add (pv 4) (pv 3)))
          (pss_one (ps_if (pt_cmpR op_le (pe_op op_mulW (pv 5) (pv 5)) (pv 1) (nomark _))
            (pss_one (ps_expr (pe_bm PySem.F.plainAttrs_list PySem.F.slot_list_append PySem.F.type_list_append mt_append (pv 2) (pa_cons (pe_tup (pa_cons (pe_op op_mulW (pv 4) (pv 4)) (pa_cons (pe_op op_mulW (pv 5) (pv 5)) pa_nil))) pa_nil))))
            pss_nil))))
          pss_nil)
        (pss_one (ps_set (i := 3) sc_squares_apart.nd rfl (Or.inl rfl) (pe_op op_add (pv 3) pe_int)))))
      (pss_one (ps_ret (pv 2)))))), ?_⟩
    walk_at "w"
    refine ⟨Nat.zero_le _, fun l hl => ?_⟩
    refine while_m (fun z σ H' => ∃ (s : Nat) (v4 v5 : Option V) (cs : List Addr) (ps : List (Int × Int)), σ = [some (.int (d : Int)), some (.int (m : Int)), some (.ref l), some (.int (s : Int)), v4, v5] ∧ 1000001 - s = z ∧ 1 ≤ s ∧ s ≤ 1000001 ∧ Same H H' ∧ H' l = some (.lst (cs.map V.ref)) ∧ DicT.Prs H' cs ps ∧ SqA d m s ps) 1000000 ⟨1, _, _, [], [], rfl, rfl, by omega, by omega, same_new hl, upd_same, ⟨rfl, fun i c p h => by cases h⟩, List.nodup_nil, Nat.zero_le _, fun p => ⟨fun h => (by cases h), fun ⟨a, b, _, h1, h2, h3, _⟩ => by omega⟩⟩ ?_
    rintro z σ H1 ⟨s, v4, v5, cs, ps, rfl, rfl, hs1, hs2, s1, hL, hP, hA⟩ G hG
    walk_at "w"
    have e1 : (s : Int) * (s : Int) = ((s * s : Nat) : Int) := by push_cast; rfl
    rw [e1]
    refine ⟨wide_mul (a := 64) (b := 64) (by omega) (by omega) (by decide) (by decide) (by decide), ite2 (fun hw => hG _ _ fun N hN => ?_) (fun hw => ?_)⟩
    · have hsd : s * s < d := by omega
      have hs6 : s ≤ 1000000 := by
        refine Nat.le_of_lt_succ (Nat.lt_of_not_le fun c => ?_)
        have : 1000001 * 1000001 ≤ s * s := Nat.mul_le_mul c c
        omega
      have e2 : (d : Int) % (s : Int) = ((d % s : Nat) : Int) := by push_cast; rfl
      have e3 : (d : Int) / (s : Int) = ((d / s : Nat) : Int) := by push_cast; rfl
      have e4 : (s : Int) + 1 = ((s + 1 : Nat) : Int) := by omega
      have hq : d / s ≤ d := Nat.div_le_self _ _
      have fin : ∀ (H' : Hp) (v4 v5 : Option V) (cs' : List Addr) (ps' : List (Int × Int)), Same H H' → H' l = some (.lst (cs'.map V.ref)) → DicT.Prs H' cs' ps' → SqA d m (s + 1) ps' → N [some (.int (d : Int)), some (.int (m : Int)), some (.ref l), some (.int ((s : Int) + 1)), v4, v5] H' := fun H' v4 v5 cs' ps' a1 a2 a3 a4 => by
        rw [e4]
        exact hN _ _ _ (by omega) ⟨s + 1, _, _, cs', ps', rfl, rfl, by omega, by omega, a1, a2, a3, a4⟩
      walk_at "w"
      rw [e2, e3]
      refine ⟨by omega, ite2 (fun hc => ?_) (fun hc => ?_)⟩
      · have hdv : s ∣ d := Nat.dvd_of_mod_eq_zero (by omega)
        have hds : s * (d / s) = d := Nat.mul_div_cancel' hdv
        have hgt : s < d / s := by
          refine Nat.lt_of_not_le fun c => ?_
          have := Nat.mul_le_mul_left s c
          omega
        refine ⟨wide_div (b := 64) (by omega) (by omega) (by decide) (by decide), by omega, ite2 (fun hc2 => ?_) (fun hc2 => ?_)⟩
        · obtain ⟨a, ha⟩ : ∃ a, d / s = s + 2 * a := ⟨(d / s - s) / 2, by omega⟩
          have ha1 : 1 ≤ a := by omega
          have e5 : (((d / s : Nat) : Int) - (s : Int)) / 2 = (a : Int) := by omega
          have hd5 : s * (2 * a + s) = d := by
            rw [Nat.add_comm (2 * a) s, ← ha]
            exact hds
          walk_at "w"
          rw [e5]
          have e6 : (a : Int) + (s : Int) = ((a + s : Nat) : Int) := by omega
          rw [e6]
          have e7 : ((a + s : Nat) : Int) * ((a + s : Nat) : Int) = (((a + s) * (a + s) : Nat) : Int) := by push_cast; rfl
          have e8 : (a : Int) * (a : Int) = ((a * a : Nat) : Int) := by push_cast; rfl
          rw [e7, e8]
          have hab : a + s ≤ 10 ^ 12 := by omega
          refine ⟨wide_div (b := 64) (by omega) (by omega) (by decide) (by decide), by unfold CDiv; omega, wide_mul (a := 64) (b := 64) (by omega) (by omega) (by decide) (by decide) (by decide), ite2 (fun hm2 => ?_) (fun hm2 => ?_)⟩
          · refine ⟨ty_list (SqL.of hL), ?_⟩
            refine ⟨wide_mul (a := 64) (b := 64) (by omega) (by omega) (by decide) (by decide) (by decide), wide_mul (a := 64) (b := 64) (by omega) (by omega) (by decide) (by decide) (by decide), by show 2 ≤ sizeLine; decide, fun u hu => ?_⟩
            have nu := ne_of_none hL hu
            have sl : 1000002 < sizeLine := by decide
            have hlc : cs.length ≤ s := by rw [hP.1]; exact hA.2.1
            refine r_app ((upd_ne nu).trans hL) (by rw [List.length_map]; omega) ?_
            refine fin _ _ _ (cs ++ [u]) _ (fun b o hb => ?_) (by rw [upd_same]; simp) ?_ (hA.yes hs1 ha1 hd5 (by omega))
            · rw [upd_ne (ne_of_none hb hl), upd_ne (ne_of_none (s1 _ _ hb) hu)]
              exact s1 _ _ hb
            · exact (hP.upd (o := .lst (cs.map V.ref ++ [V.ref u])) hL hu).snoc ((upd_ne nu.symm).trans upd_same)
          · exact fin _ _ _ cs ps s1 hL hP (hA.no hs1 fun a' g1 g2 => by
              rw [← hd5] at g2
              have g3 := Nat.eq_of_mul_eq_mul_left (by omega) g2
              have : a' = a := by omega
              subst this
              omega)
        · exact fin _ _ _ cs ps s1 hL hP (hA.no hs1 fun a' g1 g2 => by
            have g3 : d / s = 2 * a' + s := by rw [← g2]; exact Nat.mul_div_cancel_left _ (by omega)
            omega)
      · exact fin _ _ _ cs ps s1 hL hP (hA.no hs1 fun a' g1 g2 => by
          have g3 : d % s = 0 := by rw [← g2]; exact Nat.mul_mod_right _ _
          omega)
    · walk_at "w"
      exact q l cs ps H1 hl s1 hL hP (hA.all hs1 (by omega) hs2)
end
abbrev s_pairs_apart : Stmt := top 44
theorem sc_pairs_apart : FnScope ["difference", "most", "higher", "found", "power", "one", "other", "beside", "pair"] ["difference", "most"] (defScope s_pairs_apart) := ⟨rfl, rfl, rfl, by decide +kernel, rfl, by decide +kernel, by decide +kernel⟩
/-- a power that stands beside: one of the higher ones, or a square -/
def GoodP (ks : List Nat) (y : Nat) : Prop := y ∈ ks ∨ (1 ≤ y ∧ rootN y 2 * rootN y 2 = y)
/-- what the higher powers give -/
def FromK (d m : Nat) (all ks : List Nat) (p : Int × Int) : Prop := ∃ k ∈ ks, (k + d ≤ m ∧ GoodP all (k + d) ∧ p = ((k : Int), ((k + d : Nat) : Int))) ∨ (d < k ∧ k ≤ m ∧ GoodP all (k - d) ∧ p = (((k - d : Nat) : Int), (k : Int)))
theorem pow_kind {x : Nat} (h : IsPow x) : (∃ a, 1 ≤ a ∧ x = a * a) ∨ ∃ b e, 2 ≤ b ∧ 3 ≤ e ∧ x = b ^ e := by
  obtain ⟨b, e, hb, he, rfl⟩ := h
  rcases (by omega : b = 1 ∨ e = 2 ∨ (2 ≤ b ∧ 3 ≤ e)) with c | c | c
  · subst c
    exact .inl ⟨1, Nat.le_refl _, by rw [Nat.one_pow]⟩
  · subst c
    exact .inl ⟨b, hb, Nat.pow_two b⟩
  · exact .inr ⟨b, e, c.1, c.2, rfl⟩
theorem apart_all {d m : Nat} {ks : List Nat} {ps F : List (Int × Int)} (hm : m ≤ 10 ^ 12) (hks : ∀ x, x ∈ ks ↔ ∃ b e, 1 ≤ b ∧ 3 ≤ e ∧ 2 ^ e ≤ m ∧ x = b ^ e ∧ x ≤ m) (hs : SqA d m 1000001 ps) (hd : 1 ≤ d) (hF : ∀ p, p ∈ F ↔ p ∈ ps ∨ FromK d m ks ks p) :
    ∀ p, p ∈ F ↔ ∃ x : Nat, p = ((x : Int), ((x + d : Nat) : Int)) ∧ IsPow x ∧ IsPow (x + d) ∧ x + d ≤ m := by
  have kpow : ∀ k, k ∈ ks → IsPow k := fun k hk => by
    obtain ⟨b, e, h1, h2, h3, h4, h5⟩ := (hks k).mp hk
    exact ⟨b, e, h1, by omega, h4⟩
  have sqpow : ∀ y, 1 ≤ y → rootN y 2 * rootN y 2 = y → IsPow y := fun y h1 h2 => ⟨rootN y 2, 2, by
    rcases Nat.eq_zero_or_pos (rootN y 2) with z | z
    · rw [z] at h2
      omega
    · exact z, by omega, by rw [Nat.pow_two]; exact h2.symm⟩
  have good : ∀ y, GoodP ks y → IsPow y := fun y h => h.elim (kpow y) fun z => sqpow y z.1 z.2
  have higher : ∀ x, x ≤ m → (∃ b e, 2 ≤ b ∧ 3 ≤ e ∧ x = b ^ e) → x ∈ ks := fun x hx ⟨b, e, h1, h2, h3⟩ => (hks x).mpr ⟨b, e, by omega, h2, Nat.le_trans (Nat.pow_le_pow_left h1 e) (h3 ▸ hx), h3, hx⟩
  have mkgood : ∀ x, x ≤ m → IsPow x → GoodP ks x := fun x hx hp => by
    rcases pow_kind hp with ⟨a, h1, h2⟩ | h
    · refine .inr ⟨hp.pos, ?_⟩
      have : rootN x 2 = a := by rw [h2, ← Nat.pow_two]; exact rootN_pow (by omega)
      rw [this, h2]
    · exact .inl (higher x hx h)
  obtain ⟨_, _, hs3⟩ := hs
  intro p
  rw [hF p]
  constructor
  · rintro (h | ⟨k, hk, ⟨h1, h2, h3⟩ | ⟨h1, h2, h3, h4⟩⟩)
    · obtain ⟨a, b, g1, g2, g3, g4, g5, g6⟩ := (hs3 p).mp h
      refine ⟨a * a, by rw [g1, g5], ⟨a, 2, g2, by omega, (Nat.pow_two a).symm⟩, ⟨b, 2, by omega, by omega, by rw [Nat.pow_two]; exact g5.symm⟩, by omega⟩
    · exact ⟨k, h3, kpow k hk, good _ h2, h1⟩
    · refine ⟨k - d, ?_, good _ h3, ?_, by omega⟩
      · rw [h4, show k - d + d = k by omega]
      · rw [show k - d + d = k by omega]
        exact kpow k hk
  · rintro ⟨x, g1, g2, g3, g4⟩
    rcases pow_kind g2 with ⟨a, a1, a2⟩ | hx
    · rcases pow_kind g3 with ⟨b, b1, b2⟩ | hy
      · left
        have hab : a < b := by
          refine Nat.lt_of_not_le fun c => ?_
          have := Nat.mul_le_mul c c
          omega
        refine (hs3 p).mpr ⟨a, b, by rw [g1, ← a2, ← b2], a1, hab, ?_, by omega, by omega⟩
        refine Nat.lt_of_not_le fun c => ?_
        have h1 : 1000001 ≤ b := by omega
        have := Nat.mul_le_mul h1 h1
        omega
      · right
        exact ⟨x + d, higher _ g4 hy, .inr ⟨by have := g2.pos; omega, g4, by rw [Nat.add_sub_cancel]; exact mkgood x (by omega) g2, by rw [Nat.add_sub_cancel]; exact g1⟩⟩
    · right
      exact ⟨x, higher x (by omega) hx, .inl ⟨g4, mkgood _ g4 g3, g1⟩⟩
theorem dN_getF {H : Hp} {a : Addr} {o : Obj} {ks : List Nat} {g : Nat → V} {m : Nat} (h : H a = some (.frz o (.dK (dN ks g)))) : DGet H a (.int (m : Int)) (if m ∈ ks then some (g m) else none) := by
  refine .inl ⟨dN ks g, Sum.inl (m : Int), .inr ⟨o, h⟩, rfl, ?_⟩
  rw [dN_val]
def sp_pairs_apart (K : PySem.W.Frag) : Sp := fun vs H Q _ => ∃ (d m : Nat), vs = [.int (d : Int), .int (m : Int)] ∧ 1 ≤ d ∧ d ≤ 10 ^ 12 ∧ m ≤ 10 ^ 12 ∧ ∀ (t : Addr) (cs : List Addr) (qs : List (Int × Int)) (H' : Hp), H t = none → Same H H' → H' t = some (.tup (cs.map V.ref)) → DicT.Prs H' cs qs → ApartIs d m qs → qs.length ≤ 2000000 → Q (.ref t) H'
section
variable {P : Program} {w : World} {K : PySem.W.Frag} {mg : PySem.Str → Option Value} {base : Heap}
theorem bi_pairs_apart {f : Addr} {fd : FuncData} (F : Fun K "pairs_apart" "pairs_apart" s_pairs_apart f fd) : Binds K fd ["difference", "most"] [] := F.binds (ps := ["difference", "most"]) fun _ _ _ _ _ _ us hl => match us, hl with | [_, _], _ => rfl
set_option maxHeartbeats 4000000 in
theorem ok_pairs_apart {f : Addr} {fd : FuncData} (F : Fun K "pairs_apart" "pairs_apart" s_pairs_apart f fd) (B : Bt mg)  (h_higher_powers : Fn P w K mg base CX0 3 "higher_powers" ["most"] (sp_higher_powers K)) (h_squares_apart : Fn P w K mg base CX0 1 "squares_apart" ["difference", "most"] (sp_squares_apart K)) (h_is_square : Fn P w K mg base CX0 3 "is_square" ["number"] (sp_is_square K)) : FnOk P w K mg base CX0 4 f fd ["difference", "most"] (sp_pairs_apart K) := by
  refine F.ok sc_pairs_apart (fun vs H Q E h => ?_) (fun cdv A outer s H vs Q E hr h => ?_)
  · obtain ⟨d, m, rfl, hd, hd2, hm, q⟩ := h
    rfl
  · obtain ⟨d, m, rfl, hd, hd2, hm, q⟩ := h
    refine ⟨_, (pss_cons (ps_set (i := 2) sc_pairs_apart.nd rfl (Or.inl rfl) (pe_fn h_higher_powers (hr.mono (by decide)) (by rfl) (pa_cons (pv 1) pa_nil)))
      (Evl.pss_cut (ps_set (i := 3) sc_pairs_apart.nd rfl (Or.inl rfl) (pe_callTy (DicT.call_dictT K rfl (DicT.hu10 hr)) (by rfl) B.dict (by decide +kernel) (pa_cons (pe_lc (own := [("pair", 8)]) (g := gName 8) (tt := tYes) rfl sc_pairs_apart.nd (pi_list (pe_fn h_squares_apart (hr.mono (by decide)) (by rfl) (pa_cons (pv 0) (pa_cons (pv 1) pa_nil)))) (blkOk_by (own := [("pair", 8)]) (N := ["difference", "most", "higher", "found", "power", "one", "other", "beside", "pair"]) (sc := defScope s_pairs_apart) (by decide +kernel)) (fun _ _ _ _ _ => (pg_name (i := 8) sc_pairs_apart.nd rfl (Or.inl rfl))) (fun _ _ _ _ _ => pts_nil) (fun _ _ _ _ _ => (pe_tup (pa_cons (pv 8) (pa_cons pe_bl pa_nil))))) pa_nil)))
      (pss_cons (ps_lock (ps_for PassesOwn.never rfl (pi_keys (pv 2)) (pg_name (i := 4) sc_pairs_apart.nd rfl (Or.inl rfl))
        (pss_one (ps_for PassesOwn.never rfl (pi_tup (pe_tup (pa_cons (pe_tup (pa_cons (pv 4) (pa_cons (pe_op op_add (pv 4) (pv 0)) pa_nil))) (pa_cons (pe_tup (pa_cons (pe_op op_sub (pv 4) (pv 0)) (pa_cons (pv 4) pa_nil))) pa_nil)))) (pg_tup rfl (pgs_cons (pg_name (i := 5) sc_pairs_apart.nd rfl (Or.inl rfl)) (pgs_cons (pg_name (i := 6) sc_pairs_apart.nd rfl (Or.inl rfl)) pgs_nil)))
          (pss_one (ps_if (PW.pt (pw_and (pt_cmpR op_gt (pv 5) pe_int (nomark _)) (pw_and1 (pt_cmpR op_le (pv 6) (pv 1) (nomark _)))))
            (pss_cons (ps_set (i := 7) sc_pairs_apart.nd rfl (Or.inl rfl) (pe_op op_sub (pe_op op_add (pv 5) (pv 6)) (pv 4)))
            (pss_one (ps_if (PW.pt (pw_or (pt_cmp (pc_din (hu_of hr) (pv 7) (pv 2))) (pw_or1 (pt_val (pe_fn h_is_square (hr.mono (by decide)) (by rfl) (pa_cons (pv 7) pa_nil))))))
              (pss_one (ps_dput (hu_of hr) (pv 3) (pe_tup (pa_cons (pv 5) (pa_cons (pv 6) pa_nil))) pe_bl rfl))
              pss_nil)))
            pss_nil))))))
      (pss_one (ps_ret (pe_callTy (k_tuple K) (by rfl) B.tuple (by decide +kernel) (pa_cons (pe_callB DicT.cr_sortDT (by rfl) B.sorted (by decide +kernel) (pa_cons (pv 3) pa_nil)) pa_nil))))))), ?_⟩
    have sl : 4000000 < sizeLine := by decide
    walk_at "z"
    refine ⟨m, rfl, by omega, fun hp hks H1 hhp s1 hnd hkl hmem hh => ?_⟩
    walk_at "z"
    refine cut_m (fun σ H' => ∃ (fd : Addr) (ps : List (Int × Int)), σ = [some (.int (d : Int)), some (.int (m : Int)), some (.ref hp), some (.ref fd), none, none, none, none, none] ∧ Same H1 H' ∧ H1 fd = none ∧ H' fd = some (.dT (DicT.dP2 ps)) ∧ SqA d m 1000001 ps) (fun N hN => ?_) ?_
    · walk_at "z"
      refine ⟨d, m, rfl, hd, hd2, hm, fun t cs ps H2 ht s2 hT hP hA => ?_⟩
      walk_at "z"
      have hlc : cs.length ≤ 1000001 := by rw [hP.1]; exact hA.2.1
      refine ⟨⟨_, SqL.of hT⟩, lc_lI (xs := cs.map V.ref) (fun i acc H' => Same H2 H' ∧ acc.length ≤ i ∧ ∃ ts : List Addr, acc = ts.map V.ref ∧ ts.length = i ∧ ∀ (j : Nat) (t c : Addr), ts[j]? = some t → cs[j]? = some c → H' t = some (.tup [.ref c, .bl true])) (fun D hD => ⟨same_new hD, Nat.le_refl _, [], rfl, rfl, fun j t c h => by cases h⟩) (fun i acc H' _ h => SqL.of (h.1 _ _ hT)) ?_ ?_⟩
      · rintro i x acc D H3 hx hD hacc ⟨s3, hl3, ts, rfl, hts, hat⟩ N0 N1 n0 n1
        rw [List.getElem?_map] at hx
        cases ec : cs[i]? with
        | none =>
          rw [ec] at hx
          cases hx
        | some c =>
          rw [ec] at hx
          cases hx
          walk_at "z"
          refine ⟨by show 2 ≤ sizeLine; decide, fun u hu => ?_⟩
          have nu := ne_of_none hacc hu
          have hi : i < cs.length := (List.getElem?_eq_some_iff.mp ec).1
          refine n1 _ _ ((upd_ne nu).trans hacc) (by omega) ⟨fun b o hb => ?_, by rw [List.length_append]; show _ + 1 ≤ i + 1; omega, ts ++ [u], by simp, by simp [hts], fun j t' c' e1 e2 => ?_⟩
          · rw [upd_ne (ne_of_none hb hD), upd_ne (ne_of_none (s3 _ _ hb) hu)]
            exact s3 _ _ hb
          · rcases Nat.lt_or_ge j ts.length with z | z
            · rw [List.getElem?_append_left z] at e1
              have h5 := hat j t' c' e1 e2
              exact (upd_ne (ne_of h5 hacc fun e => by cases e)).trans ((upd_ne (ne_of_none h5 hu)).trans h5)
            · rw [List.getElem?_append_right z] at e1
              have e3 : j - ts.length = 0 := by
                have := (List.getElem?_eq_some_iff.mp e1).1
                simp at this
                omega
              rw [e3] at e1
              simp at e1
              subst e1
              have : j = i := by omega
              subst this
              rw [ec] at e2
              cases e2
              exact (upd_ne nu.symm).trans upd_same
      · rintro D acc H3 hD hacc ⟨s3, hl3, ts, rfl, hts, hat⟩
        rw [List.length_map] at hts
        refine ⟨D, ts, cs, ps, rfl, SqL.of hacc, by rw [hts]; exact hP.1, hP.1, hA.1, fun j t c p e1 e2 e3 => ⟨SqT.of (hat j t c e1 e2), s3 _ _ (hP.2 j c p e2 e3)⟩, fun fd hfd => ?_⟩
        have s13 := s2.trans s3
        exact hN _ _ ⟨fd, ps, rfl, s13.trans (same_new hfd), s13.free hfd, upd_same, hA⟩
    · rintro σ H2 ⟨fd, ps, rfl, s2, hfd0, hfd, hA⟩
      have hh2 := s2 _ _ hh
      have nfh : fd ≠ hp := (ne_of_none hh hfd0).symm
      walk_at "z"
      refine ⟨hp, _, hh2, trivial, fun od => ?_⟩
      have fz : upd H2 hp (.frz od (.dK (dN hks fun _ => .bl true))) hp = some (.frz od (.dK (dN hks fun _ => .bl true))) := upd_same
      have sF : ∀ b o, b ≠ hp → H2 b = some o → upd H2 hp (.frz od (.dK (dN hks fun _ => .bl true))) b = some o := fun b o n e => (upd_ne n).trans e
      refine ⟨od, .inl ⟨_, fz, for_k (fun i σ H' => ∃ (v4 v5 v6 v7 : Option V) (F : List (Int × Int)), σ = [some (.int (d : Int)), some (.int (m : Int)), some (.ref hp), some (.ref fd), v4, v5, v6, v7, none] ∧ Kp fd (upd H2 hp (.frz od (.dK (dN hks fun _ => .bl true)))) H' ∧ H' fd = some (.dT (DicT.dP2 F)) ∧ F.Nodup ∧ F.length ≤ 1000001 + 2 * i ∧ ∀ p, p ∈ F ↔ p ∈ ps ∨ FromK d m hks (hks.take i) p) ⟨_, _, _, _, ps, rfl, Kp.refl _ _, sF _ _ nfh hfd, hA.1, hA.2.1, fun p => ⟨.inl, fun z => z.elim id fun ⟨k, hk, _⟩ => by simp at hk⟩⟩ ?_ ?_ ?_⟩⟩
      · rintro i σ H' _ ⟨v4, v5, v6, v7, F, rfl, kk, _⟩
        exact kk _ _ nfh.symm fz
      · rintro i k σ H3 hk hi ⟨v4, v5, v6, v7, F, rfl, k3, hF, hFn, hFl, hFm⟩ N hN
        walk_at "z"
        refine ⟨by omega, fun t1 ht1 => ⟨by omega, fun t2 ht2 => ⟨by omega, fun tt htt => ?_⟩⟩⟩
        have w1 := same_new (o := .tup [V.int (k : Int), V.int ((k : Int) + (d : Int))]) ht1
        have w2 := same_new (o := .tup [V.int ((k : Int) - (d : Int)), V.int (k : Int)]) ht2
        have w3 := same_new (o := .tup [V.ref t1, V.ref t2]) htt
        have f1 := (w2.trans w3) _ _ (upd_same (H := H3) (a := t1) (o := .tup [V.int (k : Int), V.int ((k : Int) + (d : Int))]))
        have f2 := w3 _ _ (upd_same (a := t2) (o := .tup [V.int ((k : Int) - (d : Int)), V.int (k : Int)]))
        have f3 := upd_same (H := upd (upd H3 t1 (.tup [V.int (k : Int), V.int ((k : Int) + (d : Int))])) t2 (.tup [V.int ((k : Int) - (d : Int)), V.int (k : Int)])) (a := tt) (o := .tup [V.ref t1, V.ref t2])
        have w4 := w1.trans (w2.trans w3)
        generalize upd (upd (upd H3 t1 (.tup [V.int (k : Int), V.int ((k : Int) + (d : Int))])) t2 (.tup [V.int ((k : Int) - (d : Int)), V.int (k : Int)])) tt (.tup [V.ref t1, V.ref t2]) = H4 at f1 f2 f3 w4 ⊢
        have hF4 := w4 _ _ hF
        have nof : ∀ (u : Addr) (xs : List V), H4 u = some (.tup xs) → u ≠ fd := fun u xs e => ne_of e hF4 fun e => by cases e
        have kb : k ≤ m := by
          obtain ⟨b, e, _, _, _, _, h5⟩ := (hmem k).mp (List.mem_of_getElem? hk)
          exact h5
        have kp1 : 1 ≤ k := by
          obtain ⟨b, e, h1, _, _, h4, _⟩ := (hmem k).mp (List.mem_of_getElem? hk)
          rw [h4]
          exact Nat.pow_pos (by omega)
        have fz4 := w4 _ _ (k3 _ _ nfh.symm fz)
        refine ⟨⟨_, SqT.of f3⟩, for_t (xs := [V.ref t1, V.ref t2]) (fun j σ H' => ∃ (v5 v6 v7 : Option V) (F' : List (Int × Int)), σ = [some (.int (d : Int)), some (.int (m : Int)), some (.ref hp), some (.ref fd), some (.int (k : Int)), v5, v6, v7, none] ∧ Kp fd H4 H' ∧ H' fd = some (.dT (DicT.dP2 F')) ∧ F'.Nodup ∧ F'.length ≤ F.length + j ∧ ∀ p, p ∈ F' ↔ p ∈ F ∨ (1 ≤ j ∧ k + d ≤ m ∧ GoodP hks (k + d) ∧ p = ((k : Int), ((k + d : Nat) : Int))) ∨ (2 ≤ j ∧ d < k ∧ k ≤ m ∧ GoodP hks (k - d) ∧ p = (((k - d : Nat) : Int), (k : Int)))) ⟨_, _, _, F, rfl, Kp.refl _ _, hF4, hFn, Nat.le_refl _, fun p => ⟨.inl, fun z => z.elim id fun z => z.elim (fun y => by omega) fun y => by omega⟩⟩ (fun i σ H' _ ⟨v5, v6, v7, F', _, kk, _⟩ => SqT.of (kk _ _ (nof _ _ f3) f3)) ?_ ?_⟩
        · rintro j x σ H5 hx ⟨v5, v6, v7, F', rfl, k5, hF5, hFn5, hFl5, hFm5⟩ N2 hN2
          have fz5 := k5 _ _ nfh.symm fz4
          have hj2 : j < 2 := (List.getElem?_eq_some_iff.mp hx).1
          rcases (by omega : j = 0 ∨ j = 1) with rfl | rfl
          · cases hx
            refine ⟨t1, _, rfl, SqT.of (k5 _ _ (nof _ _ f1) f1), rfl, ?_⟩
            have fin : ∀ (v7 : Option V) (F'' : List (Int × Int)) (H6 : Hp), Kp fd H4 H6 → H6 fd = some (.dT (DicT.dP2 F'')) → F''.Nodup → F''.length ≤ F'.length + 1 → (∀ p, p ∈ F'' ↔ p ∈ F' ∨ (k + d ≤ m ∧ GoodP hks (k + d) ∧ p = ((k : Int), ((k + d : Nat) : Int)))) → N2 [some (.int (d : Int)), some (.int (m : Int)), some (.ref hp), some (.ref fd), some (.int (k : Int)), some (.int (k : Int)), some (.int ((k : Int) + (d : Int))), v7, none] H6 := fun v7 F'' H6 a1 a2 a3 a4 a5 =>
              hN2 _ _ ⟨_, _, _, F'', rfl, a1, a2, a3, by omega, fun p => by
                rw [a5 p, hFm5 p]
                constructor
                · rintro ((z | z | z) | z)
                  · exact .inl z
                  · omega
                  · omega
                  · exact .inr (.inl ⟨by omega, z⟩)
                · rintro (z | z | z)
                  · exact .inl (.inl z)
                  · exact .inr z.2
                  · omega⟩
            walk_at "z"
            by_cases c : k + d ≤ m
            · rw [if_pos (by omega), if_pos (by omega)]
              have ey : ((k : Int)) + ((k : Int) + (d : Int)) - (k : Int) = ((k + d : Nat) : Int) := by omega
              rw [ey]
              have put : ∀ HQ, Same H5 HQ → GoodP hks (k + d) → 2 ≤ sizeLine ∧ ∀ p, HQ p = none → ∃ x, DPut (upd HQ p (.tup [V.int ((k : Int)), V.int ((k : Int) + (d : Int))])) fd (.ref p) (.bl true) x ∧ N2 [some (.int (d : Int)), some (.int (m : Int)), some (.ref hp), some (.ref fd), some (.int (k : Int)), some (.int ((k : Int))), some (.int ((k : Int) + (d : Int))), some (.int ((k + d : Nat) : Int)), none] x := fun HQ sQ hg => by
                refine ⟨by omega, fun u hu => ?_⟩
                have sU := same_new (o := .tup [V.int ((k : Int)), V.int ((k : Int) + (d : Int))]) hu
                have hFu := sU _ _ (sQ _ _ hF5)
                obtain ⟨p1, p2, p3⟩ := DicT.put_in (p := ((k : Int), ((k + d : Nat) : Int))) hFn5
                refine ⟨_, DicT.putT (p := ((k : Int), ((k + d : Nat) : Int))) hFu (by rw [upd_same]; congr 3 <;> simp <;> omega) (by omega), fin _ _ _ (fun b o n e => (upd_ne n).trans (sU _ _ (sQ _ _ (k5 _ _ n e)))) upd_same p1 p3 fun p => ?_⟩
                rw [p2 p]
                constructor
                · rintro (z | z)
                  · exact .inl z
                  · exact .inr ⟨c, hg, z⟩
                · rintro (z | z)
                  · exact .inl z
                  · exact .inr z.2.2
              simp only [w_dIn]
              walk_at "z"
              refine ⟨_, dN_getF fz5, ?_⟩
              by_cases cy : k + d ∈ hks
              · rw [if_pos cy]
                exact put H5 (Same.refl _) (.inl cy)
              · rw [if_neg cy]
                refine ⟨k + d, rfl, by omega, fun b H6 s6 hb => ⟨b, rfl, ?_⟩⟩
                by_cases cb : b = true
                · rw [if_pos cb]
                  exact put H6 s6 (.inr (hb.mp cb))
                · rw [if_neg cb]
                  refine fin _ F' _ (fun b o n e => s6 _ _ (k5 _ _ n e)) (s6 _ _ hF5) hFn5 (by omega) fun p => ⟨.inl, fun z => z.elim id fun z => ?_⟩
                  exact absurd z.2.1 fun z => z.elim cy fun w => cb (hb.mpr w)
            · have same : N2 [some (.int (d : Int)), some (.int (m : Int)), some (.ref hp), some (.ref fd), some (.int (k : Int)), some (.int ((k : Int))), some (.int ((k : Int) + (d : Int))), v7, none] H5 := fin _ F' _ k5 hF5 hFn5 (by omega) fun p => ⟨.inl, fun z => z.elim id fun z => absurd z.1 c⟩
              first
                | (rw [if_pos (by omega), if_neg (by omega)]; exact same)
                | (refine ite2 (fun z => ?_) (fun _ => same)
                   refine ite2 (fun z2 => ?_) (fun _ => same)
                   omega)
          · cases hx
            refine ⟨t2, _, rfl, SqT.of (k5 _ _ (nof _ _ f2) f2), rfl, ?_⟩
            have fin : ∀ (v7 : Option V) (F'' : List (Int × Int)) (H6 : Hp), Kp fd H4 H6 → H6 fd = some (.dT (DicT.dP2 F'')) → F''.Nodup → F''.length ≤ F'.length + 1 → (∀ p, p ∈ F'' ↔ p ∈ F' ∨ (d < k ∧ k ≤ m ∧ GoodP hks (k - d) ∧ p = (((k - d : Nat) : Int), (k : Int)))) → N2 [some (.int (d : Int)), some (.int (m : Int)), some (.ref hp), some (.ref fd), some (.int (k : Int)), some (.int ((k : Int) - (d : Int))), some (.int (k : Int)), v7, none] H6 := fun v7 F'' H6 a1 a2 a3 a4 a5 =>
              hN2 _ _ ⟨_, _, _, F'', rfl, a1, a2, a3, by omega, fun p => by
                rw [a5 p, hFm5 p]
                constructor
                · rintro ((z | z | z) | z)
                  · exact .inl z
                  · exact .inr (.inl ⟨by omega, z.2⟩)
                  · omega
                  · exact .inr (.inr ⟨by omega, z⟩)
                · rintro (z | z | z)
                  · exact .inl (.inl z)
                  · exact .inl (.inr (.inl ⟨by omega, z.2⟩))
                  · exact .inr z.2⟩
            walk_at "z"
            by_cases c : d < k ∧ k ≤ m
            · rw [if_pos (by omega), if_pos (by omega)]
              have ey : ((k : Int) - (d : Int)) + ((k : Int)) - (k : Int) = ((k - d : Nat) : Int) := by omega
              rw [ey]
              have put : ∀ HQ, Same H5 HQ → GoodP hks (k - d) → 2 ≤ sizeLine ∧ ∀ p, HQ p = none → ∃ x, DPut (upd HQ p (.tup [V.int ((k : Int) - (d : Int)), V.int ((k : Int))])) fd (.ref p) (.bl true) x ∧ N2 [some (.int (d : Int)), some (.int (m : Int)), some (.ref hp), some (.ref fd), some (.int (k : Int)), some (.int ((k : Int) - (d : Int))), some (.int ((k : Int))), some (.int ((k - d : Nat) : Int)), none] x := fun HQ sQ hg => by
                refine ⟨by omega, fun u hu => ?_⟩
                have sU := same_new (o := .tup [V.int ((k : Int) - (d : Int)), V.int ((k : Int))]) hu
                have hFu := sU _ _ (sQ _ _ hF5)
                obtain ⟨p1, p2, p3⟩ := DicT.put_in (p := (((k - d : Nat) : Int), (k : Int))) hFn5
                refine ⟨_, DicT.putT (p := (((k - d : Nat) : Int), (k : Int))) hFu (by rw [upd_same]; congr 3 <;> simp <;> omega) (by omega), fin _ _ _ (fun b o n e => (upd_ne n).trans (sU _ _ (sQ _ _ (k5 _ _ n e)))) upd_same p1 p3 fun p => ?_⟩
                rw [p2 p]
                constructor
                · rintro (z | z)
                  · exact .inl z
                  · exact .inr ⟨c.1, c.2, hg, z⟩
                · rintro (z | z)
                  · exact .inl z
                  · exact .inr z.2.2.2
              simp only [w_dIn]
              walk_at "z"
              refine ⟨_, dN_getF fz5, ?_⟩
              by_cases cy : k - d ∈ hks
              · rw [if_pos cy]
                exact put H5 (Same.refl _) (.inl cy)
              · rw [if_neg cy]
                refine ⟨k - d, rfl, by omega, fun b H6 s6 hb => ⟨b, rfl, ?_⟩⟩
                by_cases cb : b = true
                · rw [if_pos cb]
                  exact put H6 s6 (.inr (hb.mp cb))
                · rw [if_neg cb]
                  refine fin _ F' _ (fun b o n e => s6 _ _ (k5 _ _ n e)) (s6 _ _ hF5) hFn5 (by omega) fun p => ⟨.inl, fun z => z.elim id fun z => ?_⟩
                  exact absurd z.2.2.1 fun z => z.elim cy fun w => cb (hb.mpr w)
            · have same : N2 [some (.int (d : Int)), some (.int (m : Int)), some (.ref hp), some (.ref fd), some (.int (k : Int)), some (.int ((k : Int) - (d : Int))), some (.int ((k : Int))), v7, none] H5 := fin _ F' _ k5 hF5 hFn5 (by omega) fun p => ⟨.inl, fun z => z.elim id fun z => absurd ⟨z.1, z.2.1⟩ c⟩
              first
                | (rw [if_pos (by omega), if_neg (by omega)]; exact same)
                | (refine ite2 (fun z => ?_) (fun _ => same)
                   refine ite2 (fun z2 => ?_) (fun _ => same)
                   omega)
        · rintro σ H5 ⟨v5, v6, v7, F', rfl, k5, hF5, hFn5, hFl5, hFm5⟩
          refine hN _ _ ⟨_, _, _, _, F', rfl, fun b o n e => k5 _ _ n (w4 _ _ (k3 _ _ n e)), hF5, hFn5, ?_, fun p => ?_⟩
          · have : F'.length ≤ F.length + 2 := hFl5
            omega
          · rw [hFm5 p, hFm p]
            have ek : hks.take (i + 1) = hks.take i ++ [k] := by rw [List.take_add_one, hk, Option.toList_some]
            unfold FromK
            rw [ek]
            constructor
            · rintro ((z | ⟨k', hk', z⟩) | z | z)
              · exact .inl z
              · exact .inr ⟨k', List.mem_append_left _ hk', z⟩
              · exact .inr ⟨k, by simp, .inl z.2⟩
              · exact .inr ⟨k, by simp, .inr z.2⟩
            · rintro (z | ⟨k', hk', z⟩)
              · exact .inl (.inl z)
              · rcases List.mem_append.mp hk' with c | c
                · exact .inl (.inr ⟨k', c, z⟩)
                · rw [List.mem_singleton] at c
                  subst c
                  rcases z with z | z
                  · exact .inr (.inl ⟨show 1 ≤ 2 by omega, z⟩)
                  · exact .inr (.inr ⟨Nat.le_refl 2, z⟩)
      · rintro σ H3 ⟨v4, v5, v6, v7, F, rfl, k3, hF, hFn, hFl, hFm⟩
        rw [List.take_length] at hFm
        refine ⟨k3 _ _ nfh.symm fz, ?_⟩
        walk_at "z"
        have hFr : upd H3 hp (.dK (dN hks fun _ => .bl true)) fd = some (.dT (DicT.dP2 F)) := (upd_ne nfh).trans hF
        have all := apart_all hm hmem hA hd hFm
        refine ⟨fd, F, rfl, hFr, fun cs qs lq hperm hpw hprs hlq => ?_⟩
        have sR : Same H (upd H3 hp (.dK (dN hks fun _ => .bl true))) := fun b o e => by
          have n1 : b ≠ hp := ne_of_none e hhp
          have n2 : b ≠ fd := ne_of_none (s1 _ _ e) hfd0
          rw [upd_ne n1]
          exact k3 _ _ n2 (sF _ _ n1 (s2 _ _ (s1 _ _ e)))
        refine r_tupL (SqL.of upd_same) fun tp htp => ?_
        have sL := same_new (o := .lst (cs.map V.ref)) hlq
        have sT := same_new (o := .tup (cs.map V.ref)) htp
        have st := sR.trans (sL.trans sT)
        refine q tp cs qs _ (sR.free (sL.free htp)) st upd_same (hprs.tups fun c xs e => sT _ _ (sL _ _ e)) ⟨?_, fun p => by rw [hperm.mem_iff, all p]⟩ (by rw [hperm.length_eq]; omega)
        have nd := hperm.nodup_iff.mpr hFn
        refine List.Pairwise.imp_of_mem ?_ (List.Pairwise.and hpw nd)
        rintro x y hx hy ⟨g1, g2⟩
        obtain ⟨a, rfl, _⟩ := (all x).mp (hperm.mem_iff.mp hx)
        obtain ⟨b, rfl, _⟩ := (all y).mp (hperm.mem_iff.mp hy)
        simp only [] at g1 ⊢
        rcases (by omega : (a : Int) < (b : Int) ∨ a = b) with z | z
        · exact z
        · subst z
          exact absurd rfl g2
end
abbrev s_powers_to_sums : Stmt := top 46
theorem sc_powers_to_sums : FnScope ["most", "found", "exponent", "base"] ["most"] (defScope s_powers_to_sums) := ⟨rfl, rfl, rfl, by decide +kernel, rfl, by decide +kernel, by decide +kernel⟩
/-- all powers to m, rising -/
def PowsTo (m : Nat) (L : List Nat) : Prop := L.Pairwise (· < ·) ∧ (∀ x, x ∈ L ↔ IsPow x ∧ x ≤ m) ∧ L.length ≤ 400000
def sp_powers_to_sums (K : PySem.W.Frag) : Sp := fun vs H Q _ => ∃ (m : Nat), vs = [.int (m : Int)] ∧ m ≤ 10 ^ 8 ∧ ∀ (t : Addr) (L : List Nat) (H' : Hp), H t = none → Same H H' → H' t = some (.lst ((ofN L).map V.int)) → PowsTo m L → Q (.ref t) H'
section
variable {P : Program} {w : World} {K : PySem.W.Frag} {mg : PySem.Str → Option Value} {base : Heap}
theorem bi_powers_to_sums {f : Addr} {fd : FuncData} (F : Fun K "powers_to" "powers_to" s_powers_to_sums f fd) : Binds K fd ["most"] [] := F.binds (ps := ["most"]) fun _ _ _ _ _ _ us hl => match us, hl with | [_], _ => rfl
set_option maxHeartbeats 4000000 in
theorem ok_powers_to_sums {f : Addr} {fd : FuncData} (F : Fun K "powers_to" "powers_to" s_powers_to_sums f fd) (B : Bt mg)  (h_root_of : Fn P w K mg base CX0 2 "root_of" ["number", "exponent"] (sp_root_of K)) (h_taken : Fn P w K mg base CX0 1 "taken" ["base", "exponent"] (sp_taken K)) : FnOk P w K mg base CX0 3 f fd ["most"] (sp_powers_to_sums K) := by
  refine F.ok sc_powers_to_sums (fun vs H Q E h => ?_) (fun cdv A outer s H vs Q E hr h => ?_)
  · obtain ⟨m, rfl, hm, q⟩ := h
    rfl
  · obtain ⟨m, rfl, hm, q⟩ := h
    refine ⟨_, (pss_cons (ps_set (i := 1) sc_powers_to_sums.nd rfl (Or.inl rfl) pe_dnewK)
      (pss_cons (ps_for PassesOwn.never rfl (pi_range2 rfl B.range (pa_cons pe_int (pa_cons pe_int pa_nil))) (pg_name (i := 2) sc_powers_to_sums.nd rfl (Or.inl rfl))
        (pss_one (ps_for PassesOwn.never rfl (pi_range2 rfl B.range (pa_cons pe_int (pa_cons (pe_op op_add (pe_ix (k_ixT K) (pe_fn h_root_of (hr.mono (by decide)) (by rfl) (pa_cons (pv 0) (pa_cons (pv 2) pa_nil))) pe_int (fun _ _ => rfl)) pe_int) pa_nil))) (pg_name (i := 3) sc_powers_to_sums.nd rfl (Or.inl rfl))
          (pss_one (ps_dput (hu_of hr) (pv 1) (pe_fn h_taken (hr.mono (by decide)) (by rfl) (pa_cons (pv 3) (pa_cons (pv 2) pa_nil))) pe_bl rfl)))))
      (pss_one (ps_ret (pe_callB DicS.cr_sortD (by rfl) B.sorted (by decide +kernel) (pa_cons (pv 1) pa_nil)))))), ?_⟩
    have h27 : m < 2 ^ 27 := Nat.lt_of_le_of_lt hm (by decide)
    walk_at "z"
    intro p hp
    refine ⟨by decide, by decide, by decide, by decide, for_r (fun i σ H' => ∃ (ks : List Nat) (v2 v3 : Option V), σ = [some (.int (m : Int)), some (.ref p), v2, v3] ∧ Same H H' ∧ H' p = some (.dK (dN ks fun _ => .bl true)) ∧ ks.Nodup ∧ ks.length ≤ 10000 * i ∧ ∀ x, x ∈ ks ↔ ∃ b e, 1 ≤ b ∧ 2 ≤ e ∧ e < 2 + i ∧ x = b ^ e ∧ x ≤ m) ⟨[], _, _, rfl, same_new hp, upd_same, List.nodup_nil, by simp, fun x => ⟨fun h => by simp at h, fun ⟨b, e, h1, h2, h3, _⟩ => by omega⟩⟩ ?_ ?_⟩
    · rintro k σ H1 hk ⟨ks, v2, v3, rfl, s1, hd, hn, hl, hmem⟩ N hN
      have hk : k < 39 := hk
      have e1 : (2 : Int) + (k : Int) = ((2 + k : Nat) : Int) := by omega
      walk_at "z"
      rw [e1]
      refine ⟨m, 2 + k, 27, rfl, by omega, h27, by omega, fun r t h1 h2 ht => ?_⟩
      have er := rootN_is (by omega) h1 h2
      subst er
      refine r_ixT (SqT.of upd_same) (v := .int ((rootN m (2 + k) : Nat) : Int)) rfl ?_
      have st := same_new (o := .tup [V.int ((rootN m (2 + k) : Nat) : Int), V.int ((m - rootN m (2 + k) ^ (2 + k) : Nat) : Int)]) ht
      have hd2 := st _ _ hd
      have s2 := s1.trans st
      generalize upd H1 t (.tup [V.int ((rootN m (2 + k) : Nat) : Int), V.int ((m - rootN m (2 + k) ^ (2 + k) : Nat) : Int)]) = H2 at st hd2 s2 ⊢
      have hr : rootN m (2 + k) ≤ 10000 := by
        refine Nat.le_of_lt_succ (Nat.lt_of_not_le fun c => ?_)
        have h3 : 10001 ^ 2 ≤ rootN m (2 + k) ^ 2 := Nat.pow_le_pow_left c 2
        have h4 : rootN m (2 + k) ^ 2 ≤ rootN m (2 + k) ^ (2 + k) := Nat.pow_le_pow_right (by omega) (by omega)
        omega
      walk_at "z"
      have hkk : (((rootN m (2 + k) : Nat) : Int) + 1 - 1).toNat = rootN m (2 + k) := by omega
      rw [hkk]
      refine ⟨by omega, by omega, by omega, by omega, for_r (fun i σ H' => ∃ (ks' : List Nat) (v3 : Option V), σ = [some (.int (m : Int)), some (.ref p), some (.int ((2 + k : Nat) : Int)), v3] ∧ Same H H' ∧ H' p = some (.dK (dN ks' fun _ => .bl true)) ∧ ks'.Nodup ∧ ks'.length ≤ 10000 * k + i ∧ ∀ x, x ∈ ks' ↔ x ∈ ks ∨ ∃ b, 1 ≤ b ∧ b ≤ i ∧ x = b ^ (2 + k)) ⟨ks, _, rfl, s2, hd2, hn, by omega, fun x => ⟨.inl, fun z => z.elim id fun ⟨b, b1, b2, _⟩ => by omega⟩⟩ ?_ ?_⟩
      · rintro i σ H4 hi ⟨ks', v3, rfl, s4, hd4, hn4, hl4, hm4⟩ N2 hN2
        have e1 : (1 : Int) + (i : Int) = ((1 + i : Nat) : Int) := by omega
        walk_at "z"
        rw [e1]
        refine ⟨1 + i, 2 + k, 14, rfl, .inl (by omega), by omega, ?_⟩
        walk_at "z"
        obtain ⟨g1, g2, g3⟩ := put_nodup (x := (1 + i) ^ (2 + k)) hn4
        refine ⟨_, dN_any hd4 (size_le (by omega)), ?_⟩
        refine hN2 _ _ ⟨_, _, rfl, sm_new s4 hp, upd_same, g1, by omega, fun x => ?_⟩
        rw [g2 x, hm4 x]
        constructor
        · rintro ((y | ⟨b, b1, b2, b3⟩) | y)
          · exact .inl y
          · exact .inr ⟨b, b1, by omega, b3⟩
          · exact .inr ⟨1 + i, by omega, by omega, y⟩
        · rintro (y | ⟨b, b1, b2, b3⟩)
          · exact .inl (.inl y)
          · rcases (by omega : b ≤ i ∨ b = 1 + i) with c | c
            · exact .inl (.inr ⟨b, b1, c, b3⟩)
            · exact .inr (c ▸ b3)
      · rintro σ H4 ⟨ks', v3, rfl, s4, hd4, hn4, hl4, hm4⟩
        refine hN _ _ ⟨ks', _, _, rfl, s4, hd4, hn4, by omega, fun x => ?_⟩
        rw [hm4 x, hmem x]
        constructor
        · rintro (⟨b, e, b1, b2, b3, b4, b5⟩ | ⟨b, b1, b2, b3⟩)
          · exact ⟨b, e, b1, b2, by omega, b4, b5⟩
          · refine ⟨b, 2 + k, b1, by omega, by omega, b3, ?_⟩
            rw [b3]
            exact Nat.le_trans (Nat.pow_le_pow_left b2 _) h1
        · rintro ⟨b, e, b1, b2, b3, b4, b5⟩
          rcases (by omega : e < 2 + k ∨ e = 2 + k) with c | c
          · exact .inl ⟨b, e, b1, b2, c, b4, b5⟩
          · refine .inr ⟨b, b1, rootN_ge (by omega) ?_, c ▸ b4⟩
            rw [← c, ← b4]
            exact b5
    · rintro σ H1 ⟨ks, v2, v3, rfl, s1, hd, hn, hl, hmem⟩
      have hl : ks.length ≤ 10000 * 39 := hl
      have hmem : ∀ x, x ∈ ks ↔ ∃ b e, 1 ≤ b ∧ 2 ≤ e ∧ e < 2 + 39 ∧ x = b ^ e ∧ x ≤ m := hmem
      walk_at "z"
      refine ⟨p, _, ofN ks, rfl, .inl hd, dN_keys ks _, fun ys t hperm hs ht => ?_⟩
      obtain ⟨L, rfl, hL⟩ := perm_ofN hperm
      have hnL := hL.nodup_iff.mpr hn
      refine q t L _ (s1.free ht) (s1.trans (same_new ht)) upd_same ⟨?_, fun x => ?_, by rw [hL.length_eq]; omega⟩
      · have h1 : L.Pairwise (· ≤ ·) := by
          have h2 := List.pairwise_map.mp hs
          exact h2.imp fun {a b} h => by omega
        exact (List.Pairwise.and h1 hnL).imp fun {a b} h => by
          have := h.2
          omega
      · rw [hL.mem_iff, hmem x]
        constructor
        · rintro ⟨b, e, b1, b2, b3, b4, b5⟩
          exact ⟨⟨b, e, b1, b2, b4⟩, b5⟩
        · rintro ⟨⟨b, e, b1, b2, b4⟩, b5⟩
          rcases (by omega : b = 1 ∨ 2 ≤ b) with c | c
          · subst c
            exact ⟨1, 2, Nat.le_refl _, Nat.le_refl _, by omega, by rw [b4, Nat.one_pow, Nat.one_pow], b5⟩
          · have h1 : 2 ^ e ≤ b ^ e := Nat.pow_le_pow_left c e
            have h2 := (Nat.pow_lt_pow_iff_right (by omega : 1 < 2)).mp (Nat.lt_of_le_of_lt (Nat.le_trans h1 (b4 ▸ b5)) h27)
            exact ⟨b, e, b1, b2, by omega, b4, b5⟩
end
abbrev s_pairs_with : Stmt := top 48
theorem sc_pairs_with : FnScope ["number", "powers", "known", "power", "one"] ["number"] (defScope s_pairs_with) := ⟨rfl, rfl, rfl, by decide +kernel, rfl, by decide +kernel, by decide +kernel⟩
theorem take_filter {L : List Nat} {i x : Nat} (h : L[i]? = some x) (p : Nat → Bool) : (L.take (i + 1)).filter p = (L.take i).filter p ++ if p x = true then [x] else [] := by
  rw [List.take_add_one, h, Option.toList_some, List.filter_append]
  congr 1
  by_cases c : p x = true
  · rw [if_pos c, List.filter_cons_of_pos c]
    rfl
  · rw [if_neg c, List.filter_cons_of_neg c]
    rfl
def sp_pairs_with (K : PySem.W.Frag) : Sp := fun vs H Q _ => ∃ (n : Nat), vs = [.int (n : Int)] ∧ n ≤ 10 ^ 8 ∧ ∀ (t : Addr) (cs : List Addr) (qs : List (Int × Int)) (H' : Hp), H t = none → Same H H' → H' t = some (.tup (cs.map V.ref)) → DicT.Prs H' cs qs → SumsIs n qs → qs.length ≤ 2000000 → Q (.ref t) H'
section
variable {P : Program} {w : World} {K : PySem.W.Frag} {mg : PySem.Str → Option Value} {base : Heap}
theorem bi_pairs_with {f : Addr} {fd : FuncData} (F : Fun K "pairs_with" "pairs_with" s_pairs_with f fd) : Binds K fd ["number"] [] := F.binds (ps := ["number"]) fun _ _ _ _ _ _ us hl => match us, hl with | [_], _ => rfl
set_option maxHeartbeats 4000000 in
theorem ok_pairs_with {f : Addr} {fd : FuncData} (F : Fun K "pairs_with" "pairs_with" s_pairs_with f fd) (B : Bt mg)  (h_powers_to_sums : Fn P w K mg base CX0 3 "powers_to_sums" ["most"] (sp_powers_to_sums K)) : FnOk P w K mg base CX0 4 f fd ["number"] (sp_pairs_with K) := by
  refine F.ok sc_pairs_with (fun vs H Q E h => ?_) (fun cdv A outer s H vs Q E hr h => ?_)
  · obtain ⟨n, rfl, hn, q⟩ := h
    rfl
  · obtain ⟨n, rfl, hn, q⟩ := h
    refine ⟨_, (pss_cons (ps_set (i := 1) sc_pairs_with.nd rfl (Or.inl rfl) (pe_fn h_powers_to_sums (hr.mono (by decide)) (by rfl) (pa_cons (pv 0) pa_nil)))
      (pss_cons (ps_set (i := 2) sc_pairs_with.nd rfl (Or.inr rfl) (pe_callTy (call_dictP rfl) (by rfl) B.dict (by decide +kernel) (pa_cons (pe_lc (own := [("power", 3)]) (g := gName 3) (tt := tYes) rfl sc_pairs_with.nd (pi_list (pv 1)) (blkOk_by (own := [("power", 3)]) (N := ["number", "powers", "known", "power", "one"]) (sc := defScope s_pairs_with) (by decide +kernel)) (fun _ _ _ _ _ => (pg_name (i := 3) sc_pairs_with.nd rfl (Or.inl rfl))) (fun _ _ _ _ _ => pts_nil) (fun _ _ _ _ _ => (pe_tup (pa_cons (pv 3) (pa_cons pe_bl pa_nil))))) pa_nil)))
      (pss_one (ps_ret (pe_callTy (k_tuple K) (by rfl) B.tuple (by decide +kernel) (pa_cons (pe_lc (own := [("one", 4)]) (g := gName 4) rfl sc_pairs_with.nd (pi_list (pv 1)) (blkOk_by (own := [("one", 4)]) (N := ["number", "powers", "known", "power", "one"]) (sc := defScope s_pairs_with) (by decide +kernel)) (fun _ _ _ _ _ => (pg_name (i := 4) sc_pairs_with.nd rfl (Or.inl rfl))) (fun _ _ _ _ _ => (pts_one (PW.pt (pw_and (pt_cmpR op_le (pe_op op_mul pe_int (pv 4)) (pv 0) (nomark _)) (pw_and1 (pt_cmp (pc_din (hu_of hr) (pe_op op_sub (pv 0) (pv 4)) (pv 2)))))))) (fun _ _ _ _ _ => (pe_tup (pa_cons (pv 4) (pa_cons (pe_op op_sub (pv 0) (pv 4)) pa_nil))))) pa_nil)))))), ?_⟩
    walk_at "z"
    refine ⟨n, rfl, hn, fun pw L H1 hpw s1 hP hL => ?_⟩
    walk_at "z"
    obtain ⟨hL1, hL2, hL3⟩ := hL
    have sl : 1000000 < sizeLine := by decide
    have hLn : L.Nodup := hL1.imp fun {a b} h => by omega
    have hlen : ((ofN L).map V.int).length = L.length := by rw [List.length_map, ofN_len]
    refine ⟨⟨_, SqL.of hP⟩, lc_lI (xs := (ofN L).map V.int) (fun i acc H' => Same H1 H' ∧ acc.length ≤ i ∧ ∃ ts : List Addr, acc = ts.map V.ref ∧ Paired (fun t kv => H' t = some (.tup [kV kv.1, kv.2])) ts (dN (L.take i) fun _ => .bl true)) (fun D hD => ⟨same_new hD, Nat.le_refl _, [], rfl, .nil⟩) (fun i acc H' _ h => SqL.of (h.1 _ _ hP)) ?_ ?_⟩
    · rintro i x acc D H2 hx hD hacc ⟨s2, hl2, ts, rfl, hts⟩ N0 N1 n0 n1
      obtain ⟨k, hk, rfl⟩ := ofN_at hx
      have hi : i < L.length := (List.getElem?_eq_some_iff.mp hk).1
      walk_at "z"
      refine ⟨by omega, fun u hu => ?_⟩
      have nu := ne_of_none hacc hu
      refine n1 _ _ ((upd_ne nu).trans hacc) (by omega) ⟨fun b o hb => ?_, by rw [List.length_append]; show _ + 1 ≤ i + 1; omega, ts ++ [u], by simp, ?_⟩
      · rw [upd_ne (ne_of_none hb hD), upd_ne (ne_of_none (s2 _ _ hb) hu)]
        exact s2 _ _ hb
      · have ed : dN (L.take (i + 1)) (fun _ => V.bl true) = dN (L.take i) (fun _ => V.bl true) ++ [(Sum.inl (k : Int), V.bl true)] := by
          rw [List.take_add_one, hk, Option.toList_some]
          simp [dN]
        rw [ed]
        exact (L2.Paired.mapP hts fun t kv h => (upd_ne (ne_of h hacc fun e => by cases e)).trans ((upd_ne (ne_of_none h hu)).trans h)).snoc ((upd_ne nu.symm).trans upd_same)
    · rintro D acc H2 hD hacc ⟨s2, hl2, ts, rfl, hts⟩
      rw [hlen, List.take_length] at hts
      refine ⟨D, rfl, ts, SqL.of hacc, dN L (fun _ => .bl true), L2.Paired.mapP hts fun t kv h => SqT.of h, fun kd hkd => ?_⟩
      have em : mergeK [] (dN L fun _ => V.bl true) = dN L fun _ => .bl true := merge_dN _ L [] (by simpa using hLn)
      rw [em]
      have s3 := s2.trans (same_new (o := .dK (dN L fun _ => .bl true)) hkd)
      have hK3 : upd H2 kd (.dK (dN L fun _ => .bl true)) kd = _ := upd_same
      generalize upd H2 kd (.dK (dN L fun _ => .bl true)) = H3 at s3 hK3 ⊢
      have hP3 := s3 _ _ hP
      refine ⟨⟨_, SqL.of hP3⟩, lc_lI (xs := (ofN L).map V.int) (fun i acc H' => Same H3 H' ∧ acc.length ≤ i ∧ ∃ cs : List Addr, acc = cs.map V.ref ∧ DicT.Prs H' cs (((L.take i).filter fun x => decide (2 * x ≤ n ∧ n - x ∈ L)).map fun x : Nat => ((x : Int), ((n - x : Nat) : Int)))) (fun E hE => ⟨same_new hE, Nat.le_refl _, [], rfl, ⟨rfl, fun i c p h => (by cases h)⟩⟩) (fun i acc H' _ h => SqL.of (h.1 _ _ hP3)) ?_ ?_⟩
      · rintro i x acc E H4 hx hE hacc4 ⟨s4, hl4, cs, rfl, hcs⟩ N0 N1 n0 n1
        obtain ⟨k, hk, rfl⟩ := ofN_at hx
        have hi : i < L.length := (List.getElem?_eq_some_iff.mp hk).1
        have hkm := ((hL2 k).mp (List.mem_of_getElem? hk)).2
        have hstep := take_filter hk fun x => decide (2 * x ≤ n ∧ n - x ∈ L)
        have skip : ¬ (2 * k ≤ n ∧ n - k ∈ L) → N0 H4 := fun c => n0 _ hacc4 ⟨s4, by omega, cs, rfl, by
          rw [hstep, if_neg (by simpa using c), List.append_nil]
          exact hcs⟩
        walk_at "z"
        refine ⟨by unfold CMul; omega, ?_⟩
        by_cases c : 2 * k ≤ n
        · rw [if_pos (by omega)]
          have ek : (n : Int) - (k : Int) = ((n - k : Nat) : Int) := by omega
          simp only [w_dIn]
          walk_at "z"
          rw [ek]
          refine ⟨_, dN_get (s4 _ _ hK3), ?_⟩
          by_cases c2 : n - k ∈ L
          · rw [if_pos c2]
            walk_at "z"
            refine ⟨by omega, fun u hu => ?_⟩
            have nu := ne_of_none hacc4 hu
            refine n1 _ _ ((upd_ne nu).trans hacc4) (by omega) ⟨fun b o hb => ?_, by rw [List.length_append]; show _ + 1 ≤ i + 1; omega, cs ++ [u], by simp, ?_⟩
            · rw [upd_ne (ne_of_none hb hE), upd_ne (ne_of_none (s4 _ _ hb) hu)]
              exact s4 _ _ hb
            · rw [hstep, if_pos (by simp [c, c2]), List.map_append]
              exact (hcs.upd (o := .lst (cs.map V.ref ++ [V.ref u])) hacc4 hu).snoc ((upd_ne nu.symm).trans upd_same)
          · rw [if_neg c2]
            exact skip fun z => c2 z.2
        · rw [if_neg (by omega)]
          exact skip fun z => c z.1
      · rintro E acc H4 hE hacc4 ⟨s4, hl4, cs, rfl, hcs⟩
        rw [hlen, List.take_length] at hcs
        refine r_tupL (SqL.of hacc4) fun t ht => ?_
        have sall := s1.trans (s3.trans (s4.trans (same_new (o := .tup (cs.map V.ref)) ht)))
        refine q t cs _ _ (s1.free (s3.free (s4.free ht))) sall upd_same (hcs.tups fun c xs e => (same_new ht) _ _ e) ⟨?_, fun p => ?_⟩ (by rw [List.length_map]; exact Nat.le_trans (List.length_filter_le _ _) (by omega))
        · rw [List.pairwise_map]
          exact (hL1.sublist List.filter_sublist).imp fun {a b} h => by
            show (a : Int) < (b : Int)
            omega
        · rw [List.mem_map]
          constructor
          · rintro ⟨x, hx, rfl⟩
            obtain ⟨h1, h2⟩ := List.mem_filter.mp hx
            have h3 := of_decide_eq_true h2
            exact ⟨x, rfl, ((hL2 x).mp h1).1, ((hL2 _).mp h3.2).1, h3.1⟩
          · rintro ⟨x, rfl, h1, h2, h3⟩
            exact ⟨x, List.mem_filter.mpr ⟨(hL2 x).mpr ⟨h1, by omega⟩, decide_eq_true ⟨h3, (hL2 _).mpr ⟨h2, by omega⟩⟩⟩, rfl⟩
end
abbrev s_ways_of : Stmt := top 50
theorem sc_ways_of : FnScope ["number", "found", "exponent", "base", "left"] ["number"] (defScope s_ways_of) := ⟨rfl, rfl, rfl, by decide +kernel, rfl, by decide +kernel, by decide +kernel⟩
def sp_ways_of (K : PySem.W.Frag) : Sp := fun vs H Q _ => ∃ (n c : Nat), vs = [.int (n : Int)] ∧ n < 2 ^ c ∧ c ≤ 90000 ∧
  ∀ (p : Addr) (as : List Addr) (H' : Hp), H p = none → Same H H' → SqT K H' p (as.map V.ref) → PairsAt K H' as ((waysN n).map zz) → Q (.ref p) H'
section
variable {P : Program} {w : World} {K : PySem.W.Frag} {mg : PySem.Str → Option Value} {base : Heap}
theorem bi_ways_of {f : Addr} {fd : FuncData} (F : Fun K "ways_of" "ways_of" s_ways_of f fd) : Binds K fd ["number"] [] := F.binds (ps := ["number"]) fun _ _ _ _ _ _ us hl => match us, hl with | [_], _ => rfl
set_option maxHeartbeats 4000000 in
theorem ok_ways_of {f : Addr} {fd : FuncData} (F : Fun K "ways_of" "ways_of" s_ways_of f fd) (B : Bt mg)  (h_root_of : Fn P w K mg base CX0 2 "root_of" ["number", "exponent"] (sp_root_of K)) : FnOk P w K mg base CX0 3 f fd ["number"] (sp_ways_of K) := by
  refine F.ok sc_ways_of (fun vs H Q E h => ?_) (fun cdv A outer s H vs Q E hr h => ?_)
  · obtain ⟨n, c, rfl, hn, hc, q⟩ := h
    rfl
  · obtain ⟨n, c, rfl, hn, hc, q⟩ := h
    refine ⟨_, (pss_cons (ps_if (pt_cmpR op_eq (pv 0) pe_int (nomark _))
        (pss_one (ps_ret (pe_tup pa_nil)))
        pss_nil)
      (pss_cons (ps_if (pt_cmpR op_eq (pv 0) pe_int (nomark _))
        (pss_one (ps_ret (pe_tup (pa_cons (pe_tup (pa_cons pe_int (pa_cons pe_int pa_nil))) pa_nil))))
        pss_nil)
      (pss_cons (ps_set (i := 1) sc_ways_of.nd rfl (Or.inl rfl) (pe_lst pa_nil))
      (pss_cons (ps_set (i := 2) sc_ways_of.nd rfl (Or.inl rfl) pe_int)
      (pss_cons (ps_asg (pe_fn h_root_of (hr.mono (by decide)) (by rfl) (pa_cons (pv 0) (pa_cons (pv 2) pa_nil))) (pg_tup rfl (pgs_cons (pg_name (i := 3) sc_ways_of.nd rfl (Or.inl rfl)) (pgs_cons (pg_name (i := 4) sc_ways_of.nd rfl (Or.inl rfl)) pgs_nil))))
      (pss_cons (ps_while PassesOwn.never (pt_cmpR op_gt (pv 3) pe_int (nomark _))
        (pss_cons (ps_if (pt_cmpR op_eq (pv 4) pe_int (nomark _))
          (pss_one (ps_expr (pe_bm PySem.F.plainAttrs_list PySem.F.slot_list_append PySem.F.type_list_append mt_append (pv 1) (pa_cons (pe_tup (pa_cons (pv 3) (pa_cons (pv 2) pa_nil))) pa_nil))))
          pss_nil)
        (pss_cons (ps_set (i := 2) sc_ways_of.nd rfl (Or.inl rfl) (pe_op op_add (pv 2) pe_int))
        (pss_one (ps_asg (pe_fn h_root_of (hr.mono (by decide)) (by rfl) (pa_cons (pv 0) (pa_cons (pv 2) pa_nil))) (pg_tup rfl (pgs_cons (pg_name (i := 3) sc_ways_of.nd rfl (Or.inl rfl)) (pgs_cons (pg_name (i := 4) sc_ways_of.nd rfl (Or.inl rfl)) pgs_nil))))))))
      (pss_one (ps_ret (pe_callTy (k_tuple K) (by rfl) B.tuple (by decide +kernel) (pa_cons (pv 1) pa_nil)))))))))), ?_⟩
    walk_at "w"
    refine ite2 (fun h0 => ?_) (fun h0 => ?_)
    · have h0 : n = 0 := by omega
      subst h0
      refine ⟨Nat.zero_le _, fun p hp => q p [] _ hp (same_new hp) (SqT.of upd_same) PairsAt.nil⟩
    · refine ite2 (fun h1 => ?_) (fun h1 => ?_)
      · have h1 : n = 1 := by omega
        subst h1
        refine ⟨by show 2 ≤ sizeLine; decide, fun t ht => ⟨by show 1 ≤ sizeLine; decide, fun p hp => ?_⟩⟩
        refine q p [t] _ (upd_free hp) (sm_new (same_new ht) (upd_free hp)) (SqT.of upd_same) ⟨rfl, fun i a w ha hw => ?_⟩
        have hi : i = 0 := by
          have := (List.getElem?_eq_some_iff.mp ha).1
          simp at this
          omega
        subst hi
        simp [waysN] at ha hw
        subst ha hw
        exact SqT.of ((upd_ne (ne_of_none upd_same hp)).trans upd_same)
      · have hn2 : 2 ≤ n := by omega
        have hcc : ∀ k, 2 ^ (1 + k) ≤ n → 1 + k < c := fun k hk => (Nat.pow_lt_pow_iff_right (by omega : 1 < 2)).mp (Nat.lt_of_le_of_lt hk hn)
        refine ⟨Nat.zero_le _, fun l hl => ?_⟩
        refine ⟨n, 2, c, rfl, by omega, hn, by omega, fun r t h1 h2 ht => ?_⟩
        have er := rootN_is (by omega) h1 h2
        subst er
        walk_at "w"
        refine ⟨_, SqT.of upd_same, rfl, ?_⟩
        walk_at "w"
        have nlt : l ≠ t := ne_of_none upd_same ht
        refine while_m (fun m σ H' => ∃ (k : Nat) (as : List Addr), σ = [some (.int n), some (.ref l), some (.int ((2 + k : Nat) : Int)), some (.int (rootN n (2 + k))), some (.int ((n - rootN n (2 + k) ^ (2 + k) : Nat) : Int))] ∧ n + 1 - k = m ∧ k ≤ n ∧ Same H H' ∧ H' l = some (.lst (as.map V.ref)) ∧ PairsAt K H' as ((waysTo n k).map zz) ∧ as.length ≤ k ∧ (k = 0 ∨ 2 ^ (1 + k) ≤ n)) (n + 1)
          ⟨0, [], rfl, rfl, Nat.zero_le _, sm_new (same_new hl) (upd_free ht), (upd_ne nlt).trans upd_same, PairsAt.nil, Nat.le_refl _, .inl rfl⟩ ?_
        rintro m σ H2 ⟨k, as, rfl, rfl, hk, hs, hL, hP, hlen, hk0⟩ G hG
        have hkc : 1 + k < c ∨ k = 0 := by
          rcases hk0 with h | h
          · exact .inr h
          · exact .inl (hcc k h)
        walk_at "w"
        refine ite2 (fun ht => hG _ _ fun N hN => ?_) (fun ht => ?_)
        · have hb : 2 ^ (2 + k) ≤ n := (rootN_gt1 (by omega)).mp (by omega)
          have hkn : k < n := by
            have : 2 + k < 2 ^ (2 + k) := Nat.lt_two_pow_self
            omega
          have hkc2 : 2 + k < c := (Nat.pow_lt_pow_iff_right (by omega : 1 < 2)).mp (Nat.lt_of_le_of_lt hb hn)
          have step : ∀ (H3 : Hp) (as3 : List Addr), Same H H3 → H3 l = some (.lst (as3.map V.ref)) → PairsAt K H3 as3 ((waysTo n (k + 1)).map zz) → as3.length ≤ k + 1 →
              ∀ (u : Addr), H3 u = none → N [some (.int n), some (.ref l), some (.int ((2 + (k + 1) : Nat) : Int)), some (.int (rootN n (2 + (k + 1)))), some (.int ((n - rootN n (2 + (k + 1)) ^ (2 + (k + 1)) : Nat) : Int))] (upd H3 u (.tup [.int (rootN n (2 + (k + 1)) : Nat), .int ((n - rootN n (2 + (k + 1)) ^ (2 + (k + 1)) : Nat) : Int)])) :=
            fun H3 as3 s3 l3 p3 len3 u hu => hN (n + 1 - (k + 1)) _ _ (by omega) ⟨k + 1, as3, rfl, rfl, by omega, sm_new s3 (s3.free hu), (upd_ne (ne_of_none l3 hu)).trans l3, p3.same (same_new hu), len3, .inr (by rw [show 1 + (k + 1) = 2 + k by omega]; exact hb)⟩
          have e3 : ((2 + k : Nat) : Int) + 1 = ((2 + (k + 1) : Nat) : Int) := by omega
          walk_at "w"
          refine ite2 (fun hz => ?_) (fun hz => ?_)
          · have hw : wayAt n (k + 2) = some (rootN n (2 + k), 2 + k) := by
              unfold wayAt
              rw [show k + 2 = 2 + k by omega, if_pos]
              have := rootN_le (n := n) (e := 2 + k) (by omega)
              omega
            refine ⟨ty_list (SqL.of hL), by show 2 ≤ sizeLine; decide, fun u hu => ?_⟩
            have nlu : l ≠ u := ne_of_none hL hu
            refine r_app ((upd_ne nlu).trans hL) (by rw [List.length_map]; exact Nat.lt_of_le_of_lt (show as.length ≤ 90000 by omega) (by decide)) ?_
            rw [e3]
            refine ⟨n, 2 + (k + 1), c, rfl, by omega, hn, by omega, fun r v h1 h2 hv => ?_⟩
            have er := rootN_is (by omega) h1 h2
            subst er
            walk_at "w"
            refine ⟨_, SqT.of upd_same, rfl, ?_⟩
            walk_at "w"
            have hmap : as.map V.ref ++ [V.ref u] = (as ++ [u]).map V.ref := by simp
            refine step _ (as ++ [u]) ?_ (by rw [upd_same, hmap]) ?_ (by simp; omega) v hv
            · intro b o hb'
              have nbl : b ≠ l := ne_of_none hb' hl
              have nbu : b ≠ u := ne_of_none (hs _ _ hb') hu
              rw [upd_ne nbl, upd_ne nbu]
              exact hs _ _ hb'
            · rw [waysTo_succ, hw]
              simp only [Option.toList, List.map_append, List.map_cons, List.map_nil]
              refine PairsAt.snoc ⟨hP.1, fun i b w h1 h2 => ?_⟩ (SqT.of ?_)
              · have hb' := hP.2 i b w h1 h2
                have nb : ∀ o, H2 b = some o → (∀ xs, o ≠ .lst xs) → b ≠ l ∧ b ≠ u := fun o h h' => ⟨ne_of h hL (h' _), ne_of_none h hu⟩
                rcases hb' with (h | ⟨o, h⟩) | h
                · obtain ⟨n1, n2⟩ := nb _ h (fun _ z => by cases z)
                  exact SqT.of ((upd_ne n1).trans ((upd_ne n2).trans h))
                · obtain ⟨n1, n2⟩ := nb _ h (fun _ z => by cases z)
                  exact .inl (.inr ⟨o, (upd_ne n1).trans ((upd_ne n2).trans h)⟩)
                · exact .inr h
              · rw [upd_ne nlu.symm, upd_same]
                simp [zz]
          · have hw : wayAt n (k + 2) = none := by
              unfold wayAt
              rw [show k + 2 = 2 + k by omega, if_neg]
              have := rootN_le (n := n) (e := 2 + k) (by omega)
              omega
            rw [e3]
            refine ⟨n, 2 + (k + 1), c, rfl, by omega, hn, by omega, fun r v h1 h2 hv => ?_⟩
            have er := rootN_is (by omega) h1 h2
            subst er
            walk_at "w"
            refine ⟨_, SqT.of upd_same, rfl, ?_⟩
            walk_at "w"
            refine step _ as hs hL ?_ (by omega) v hv
            rw [waysTo_succ, hw]
            simpa using hP
        · have hb : ¬ 2 ^ (2 + k) ≤ n := fun h => ht (by have := (rootN_gt1 (n := n) (e := 2 + k) (by omega)).mpr h; omega)
          have hk1 : k = n.log2 - 1 := by
            have h1 : ¬ 2 + k ≤ n.log2 := fun h => hb ((two_pow_le_iff (by omega)).mpr h)
            have h2 : 1 ≤ n.log2 := (two_pow_le_iff (by omega)).mp (by omega)
            rcases hk0 with h | h
            · omega
            · have := (two_pow_le_iff (n := n) (by omega)).mp h
              omega
          refine r_tupL (SqL.of hL) fun p hp => ?_
          refine q p as _ (hs.free hp) (sm_new hs (hs.free hp)) (SqT.of upd_same) ?_
          have e : waysN n = waysTo n k := by
            unfold waysN
            rw [if_neg (by omega), if_neg (by omega), hk1]
          rw [e]
          exact hP.same (same_new hp)
end
abbrev s_need_words : Stmt := top 62
theorem sc_need_words : FnScope ["words", "many"] ["words", "many"] (defScope s_need_words) := ⟨rfl, rfl, rfl, by decide +kernel, rfl, by decide +kernel, by decide +kernel⟩
def sp_need_words (K : PySem.W.Frag) : Sp := fun vs H Q _ => ∃ (w : Addr) (xs : List V), vs = [.ref w, .int (xs.length : Int)] ∧ SqL K H w xs ∧ Q .non H
section
variable {P : Program} {w : World} {K : PySem.W.Frag} {mg : PySem.Str → Option Value} {base : Heap}
theorem bi_need_words {f : Addr} {fd : FuncData} (F : Fun K "need_words" "need_words" s_need_words f fd) : Binds K fd ["words", "many"] [] := F.binds (ps := ["words", "many"]) fun _ _ _ _ _ _ us hl => match us, hl with | [_, _], _ => rfl
set_option maxHeartbeats 4000000 in
theorem ok_need_words {f : Addr} {fd : FuncData} (F : Fun K "need_words" "need_words" s_need_words f fd) (B : Bt mg)   : FnOk P w K mg base CX0 1 f fd ["words", "many"] (sp_need_words K) := by
  refine F.ok sc_need_words (fun vs H Q E h => ?_) (fun cdv A outer s H vs Q E hr h => ?_)
  · obtain ⟨w0, xs, rfl, hS, q⟩ := h
    rfl
  · obtain ⟨w0, xs, rfl, hS, q⟩ := h
    refine ⟨_, (pss_one (ps_if (pt_cmpR op_ne (pe_callB (k_len K) (by rfl) B.len (by decide +kernel) (pa_cons (pv 0) pa_nil)) (pv 1) (nomark _))
        (pss_one ps_void)
        pss_nil)), ?_⟩
    walk_at "y"
    refine r_len hS ⟨rfl, ?_⟩
    rw [if_neg fun z => z rfl]
    exact q
end
abbrev s_plain_number : Stmt := top 63
theorem sc_plain_number : FnScope ["word", "least", "most", "sign"] ["word", "least", "most"] (defScope s_plain_number) := ⟨rfl, rfl, rfl, by decide +kernel, rfl, by decide +kernel, by decide +kernel⟩
def sp_plain_number (K : PySem.W.Frag) : Sp := fun vs H Q _ => ∃ (n : Nat) (lo hi : Int), vs = [.str (sN n), .int lo, .int hi] ∧ n < 10 ^ 18 ∧ lo ≤ (n : Int) ∧ (n : Int) ≤ hi ∧ ∀ H', Same H H' → Q (.int (n : Int)) H'
section
variable {P : Program} {w : World} {K : PySem.W.Frag} {mg : PySem.Str → Option Value} {base : Heap}
theorem bi_plain_number {f : Addr} {fd : FuncData} (F : Fun K "plain_number" "plain_number" s_plain_number f fd) : Binds K fd ["word", "least", "most"] [] := F.binds (ps := ["word", "least", "most"]) fun _ _ _ _ _ _ us hl => match us, hl with | [_, _, _], _ => rfl
set_option maxHeartbeats 4000000 in
theorem ok_plain_number {f : Addr} {fd : FuncData} (F : Fun K "plain_number" "plain_number" s_plain_number f fd) (B : Bt mg) (g_FIGURES_whole : GS mg "FIGURES_whole" "0123456789") (g_MOST_FIGURES : GI mg "MOST_FIGURES" 18)  : FnOk P w K mg base CX0 1 f fd ["word", "least", "most"] (sp_plain_number K) := by
  refine F.ok sc_plain_number (fun vs H Q E h => ?_) (fun cdv A outer s H vs Q E hr h => ?_)
  · obtain ⟨n, lo, hi, rfl, hn, h1, h2, q⟩ := h
    rfl
  · obtain ⟨n, lo, hi, rfl, hn, h1, h2, q⟩ := h
    refine ⟨_, (pss_cons (ps_if (PW.pt (pw_or (pt_cmpR op_eq (pv 0) pe_str (nomark _)) (pw_or (pt_cmpR op_gt (pe_callB call_len_str (by rfl) B.len (by decide +kernel) (pa_cons (pv 0) pa_nil)) (k_globI g_MOST_FIGURES (by rfl)) (nomark _)) (pw_or1 (pt_cmpR (k_neD K rfl hr.units) (pe_lc (own := [("sign", 3)]) (g := gName 3) rfl sc_plain_number.nd (pi_str (pv 0)) (blkOk_by (own := [("sign", 3)]) (N := ["word", "least", "most", "sign"]) (sc := defScope s_plain_number) (by decide +kernel)) (fun _ _ _ _ _ => (pg_name (i := 3) sc_plain_number.nd rfl (Or.inl rfl))) (fun _ _ _ _ _ => (pts_one (pt_cmpR op_notIn_sign (pv 3) (k_globS g_FIGURES_whole (by rfl)) (by rfl)))) (fun _ _ _ _ _ => (pv 3))) (pe_lst pa_nil) (nomark _))))))
        (pss_one ps_void)
        pss_nil)
      (pss_cons (ps_if (PW.pt (pw_or (PW.pt (pw_and (pt_cmpR op_eq (pe_ix ix_str (pv 0) pe_int (fun _ _ => rfl)) pe_str (nomark _)) (pw_and1 (pt_cmpR op_ne (pv 0) pe_str (nomark _))))) (pw_or1 (pt_not (pt_chain op_le op_le (pv 1) (pe_callTy call_int_str (by rfl) B.int (by decide +kernel) (pa_cons (pv 0) pa_nil)) (pv 2))))))
        (pss_one ps_void)
        pss_nil)
      (pss_one (ps_ret (pe_callTy call_int_str (by rfl) B.int (by decide +kernel) (pa_cons (pv 0) pa_nil)))))), ?_⟩
    have hl : (sN n).length ≤ 18 := sN_len (by decide) hn
    have hp := sN_pos n
    have hit : PySem.intText? (sN n) = some (n : Int) := int_of (tl_sN n) (by rw [← tl_sN, ← len_is]; omega)
    have sz : 1000 < sizeLine := by decide
    walk_at "y"
    rw [if_neg (sN_ne n), if_neg (by omega)]
    refine ⟨by omega, lc_s (fun _ => none) (by omega) (fun i c H' hc s' N0 N1 h0 h1 => ?_) fun D H1 hD s1 hL => ⟨by omega, fun u hu => ?_⟩⟩
    · walk_at "y"
      refine ⟨c, rfl, ?_⟩
      rw [if_neg fun z => z (sN_no_sign (List.mem_of_getElem? hc))]
      exact h0 rfl _ (Same.refl _)
    · rw [fm_none] at hL
      refine r_neL (ns := []) (ms := []) (SqL.of ((upd_ne (ne_of_none hL hu)).trans hL)) (SqL.of upd_same) ?_
      rw [decide_eq_true rfl]
      refine ⟨false, rfl, ?_⟩
      rw [if_neg (by decide)]
      have s2 := s1.trans (same_new (o := .lst []) hu)
      generalize upd H1 u (.lst []) = H2 at s2 ⊢
      obtain ⟨c, hc⟩ : ∃ c, (TL.tl (sN n))[0]? = some c := ⟨_, List.getElem?_eq_getElem (by rw [← len_is]; exact hp)⟩
      have fin : tChain (rI0 fun i j => V.bl (decide (i ≤ j))) (rI0 fun i j => V.bl (decide (i ≤ j))) (tVar 1) (tCB (fun xs H Q => ∃ a, xs = [V.str a] ∧ ∃ x, PySem.intText? a = some x ∧ a.length ≤ 640 ∧ Q (V.int x) H) (tCons (tVar 0) tNil)) (tVar 2) [some (V.str (sN n)), some (V.int lo), some (V.int hi), none] H2 fun x H1 => ∃ k, x = V.bl k ∧ if k = false then False else ∃ x, PySem.intText? (sN n) = some x ∧ (sN n).length ≤ 640 ∧ Q (V.int x) H1 := by
        unfold tChain
        walk_at "y"
        refine ⟨_, hit, by omega, ?_⟩
        rw [if_pos h1]
        walk_at "y"
        rw [if_neg (by simpa using h2)]
        exact ⟨_, hit, by omega, q _ s2⟩
      refine r_ixS (i := 0) (by omega) hc ?_
      walk_at "y"
      refine ite2 (fun h48 => ?_) (fun h48 => fin)
      have hc48 : c = 48 := by
        rw [str_zero] at h48
        simpa using h48
      have h0 := sN_head hc hc48
      subst h0
      rw [sN_zero, if_neg (fun z => z rfl)]
      rw [sN_zero] at fin
      exact fin
end
abbrev s_bounded : Stmt := top 64
theorem sc_bounded : FnScope ["text", "least", "most", "number"] ["text", "least", "most"] (defScope s_bounded) := ⟨rfl, rfl, rfl, by decide +kernel, rfl, by decide +kernel, by decide +kernel⟩
def sp_bounded (K : PySem.W.Frag) : Sp := fun vs H Q _ => ∃ (z : PySem.Str) (n : Nat) (lo hi : Int), vs = [.str z, .int lo, .int hi] ∧ TextOf z n ∧ lo ≤ (n : Int) ∧ (n : Int) ≤ hi ∧ Q (.int (n : Int)) H
section
variable {P : Program} {w : World} {K : PySem.W.Frag} {mg : PySem.Str → Option Value} {base : Heap}
theorem bi_bounded {f : Addr} {fd : FuncData} (F : Fun K "bounded" "bounded" s_bounded f fd) : Binds K fd ["text", "least", "most"] [] := F.binds (ps := ["text", "least", "most"]) fun _ _ _ _ _ _ us hl => match us, hl with | [_, _, _], _ => rfl
set_option maxHeartbeats 4000000 in
theorem ok_bounded {f : Addr} {fd : FuncData} (F : Fun K "bounded" "bounded" s_bounded f fd) (B : Bt mg)  (h_read_number : Fn P w K mg base CX0 2 "read_number" ["text"] (sp_read_number K)) : FnOk P w K mg base CX0 3 f fd ["text", "least", "most"] (sp_bounded K) := by
  refine F.ok sc_bounded (fun vs H Q E h => ?_) (fun cdv A outer s H vs Q E hr h => ?_)
  · obtain ⟨z, n, lo, hi, rfl, hz, h1, h2, q⟩ := h
    rfl
  · obtain ⟨z, n, lo, hi, rfl, hz, h1, h2, q⟩ := h
    refine ⟨_, (pss_cons (ps_set (i := 3) sc_bounded.nd rfl (Or.inl rfl) (pe_fn h_read_number (hr.mono (by decide)) (by rfl) (pa_cons (pv 0) pa_nil)))
      (pss_cons (ps_if (pt_not (pt_chain op_le op_le (pv 1) (pv 3) (pv 2)))
        (pss_one ps_void)
        pss_nil)
      (pss_one (ps_ret (pv 3))))), ?_⟩
    walk_at "z"
    have fin : tChain (rI0 fun i j => V.bl (decide (i ≤ j))) (rI0 fun i j => V.bl (decide (i ≤ j))) (tVar 1) (tVar 3) (tVar 2) [some (V.str z), some (V.int lo), some (V.int hi), some (V.int (n : Int))] H fun x H1 => ∃ k, x = V.bl k ∧ if k = false then False else Q (V.int (n : Int)) H1 := by
      unfold tChain
      walk_at "z"
      rw [if_pos h1]
      walk_at "z"
      rw [if_neg (by simpa using h2)]
      exact q
    rcases hz with ⟨g1, g2⟩ | ⟨b, e, g1, g2, g3, rfl⟩
    · exact ⟨z, rfl, .inl ⟨n, g1, g2, fin⟩⟩
    · exact ⟨z, rfl, .inr ⟨b, e, g1, g2, g3, fin⟩⟩
end
abbrev s_Desk___init__ : Stmt := inClass (top 65) 0
theorem sc_Desk___init__ : FnScope ["self"] ["self"] (defScope s_Desk___init__) := ⟨rfl, rfl, rfl, by decide +kernel, rfl, by decide +kernel, by decide +kernel⟩
def sp_Desk___init__ (K : PySem.W.Frag) : Sp := fun vs H Q _ => ∃ (d C dx : Addr), vs = [.ref d] ∧ KCl K "Desk" ["kept"] C ∧ H d = some (.ins C dx []) ∧ ∀ (p ln lo : Addr) (H' : Hp), H p = none → H ln = none → H lo = none → DO K H' d p ln lo [] → (∀ b o, b ≠ d → H b = some o → H' b = some o) → Q .non H'
section
variable {P : Program} {w : World} {K : PySem.W.Frag} {mg : PySem.Str → Option Value} {base : Heap}
theorem bi_Desk___init__ {f : Addr} {fd : FuncData} (F : Fun K "__init__" "Desk.__init__" s_Desk___init__ f fd) : Binds K fd ["self"] [] := F.binds (ps := ["self"]) fun _ _ _ _ _ _ us hl => match us, hl with | [_], _ => rfl
set_option maxHeartbeats 4000000 in
theorem ok_Desk___init__ {f : Addr} {fd : FuncData} (F : Fun K "__init__" "Desk.__init__" s_Desk___init__ f fd) (B : Bt mg)  (h_KeptProduct___init__ : FnK P w K mg base CX0 1 "KeptProduct" ["numbers", "often"] ["self"] (sp_KeptProduct___init__ K)) : FnOk P w K mg base CX0 3 f fd ["self"] (sp_Desk___init__ K) := by
  refine F.ok sc_Desk___init__ (fun vs H Q E h => ?_) (fun cdv A outer s H vs Q E hr h => ?_)
  · obtain ⟨d, C, dx, rfl, hC, hd, q⟩ := h
    rfl
  · obtain ⟨d, C, dx, rfl, hC, hd, q⟩ := h
    refine ⟨_, (pss_one (ps_fld (pv 0) (pe_mk0 h_KeptProduct___init__ (hr.mono (by decide)) (by rfl)) rfl)), ?_⟩
    walk_at "y"
    intro C2 y dx2 hC2 hy hdx2 hne
    refine ⟨y, C2, dx2, rfl, hC2, upd_same, fun ln lo H2 hln hlo hK hfr => ⟨rfl, ?_⟩⟩
    have n1 : d ≠ y := ne_of_none hd hy
    have n2 : d ≠ dx2 := ne_of_none hd hdx2
    have up : Same H H2 := fun b o h => hfr b o (ne_of_none h hy) (by rw [upd_ne (ne_of_none h hy), upd_ne (ne_of_none h hdx2)]; exact h)
    have hd2 := up _ _ hd
    refine ⟨d, C, dx, [], rfl, hd2, hC.cl, hC.no _ (by simp), by show 0 < 1000; decide, ?_⟩
    have hq : DO K (upd H2 d (.ins C dx (putF "kept" (.ref y) []))) d y ln lo [] := by
      refine ⟨⟨C, dx, hC, upd_same⟩, hK.kp (a := d) ((Kp.refl d H2).upd) n1.symm (fun z => ?_) (fun z => ?_)⟩
      · rw [z] at hln
        have := upd_free (upd_free hln)
        rw [hd] at this
        cases this
      · rw [z] at hlo
        have := upd_free (upd_free hlo)
        rw [hd] at this
        cases this
    exact q y ln lo _ hy (upd_free (upd_free hln)) (upd_free (upd_free hlo)) hq fun b o hb h => (upd_ne hb).trans (up _ _ h)
end
abbrev s_Desk_change_by : Stmt := inClass (top 65) 2
theorem sc_Desk_change_by : FnScope ["self", "word", "number"] ["self", "word", "number"] (defScope s_Desk_change_by) := ⟨rfl, rfl, rfl, by decide +kernel, rfl, by decide +kernel, by decide +kernel⟩
def sp_Desk_change_by (K : PySem.W.Frag) : Sp := fun vs H Q _ => ∃ (d p ln lo : Addr) (n : Nat) (L : List Nat) (z : PySem.Str), vs = [.ref d, .str z, .int (n : Int)] ∧ DO K H d p ln lo L ∧ L.length ≤ 60 ∧
  ((z = "come" ∧ 1 ≤ n ∧ n ≤ 1000000 ∧ L.length < 60 ∧ ∀ H', K2 ln lo H H' → DO K H' d p ln lo (L ++ [n]) → Q .non H') ∨ (z = "go" ∧ n ∈ L ∧ ∀ H' L', K2 ln lo H H' → L.Perm (n :: L') → DO K H' d p ln lo L' → Q .non H'))
section
variable {P : Program} {w : World} {K : PySem.W.Frag} {mg : PySem.Str → Option Value} {base : Heap}
theorem bi_Desk_change_by {f : Addr} {fd : FuncData} (F : Fun K "change_by" "Desk.change_by" s_Desk_change_by f fd) : Binds K fd ["self", "word", "number"] [] := F.binds (ps := ["self", "word", "number"]) fun _ _ _ _ _ _ us hl => match us, hl with | [_, _, _], _ => rfl
set_option maxHeartbeats 4000000 in
theorem ok_Desk_change_by {f : Addr} {fd : FuncData} (F : Fun K "change_by" "Desk.change_by" s_Desk_change_by f fd) (B : Bt mg) (g_MOST_NUMBERS : GI mg "MOST_NUMBERS" 60) (h_KeptProduct_go : FnM P w K mg base CX0 3 "KeptProduct" ["numbers", "often"] "go" ["self", "number"] (sp_KeptProduct_go K)) (h_KeptProduct_numbers_now : FnM P w K mg base CX0 1 "KeptProduct" ["numbers", "often"] "numbers_now" ["self"] (sp_KeptProduct_numbers_now K)) (h_KeptProduct_come : FnM P w K mg base CX0 3 "KeptProduct" ["numbers", "often"] "come" ["self", "number"] (sp_KeptProduct_come K)) : FnOk P w K mg base CX0 4 f fd ["self", "word", "number"] (sp_Desk_change_by K) := by
  refine F.ok sc_Desk_change_by (fun vs H Q E h => ?_) (fun cdv A outer s H vs Q E hr h => ?_)
  · obtain ⟨d, p, ln, lo, n, L, z, rfl, hD, hlen, q⟩ := h
    rfl
  · obtain ⟨d, p, ln, lo, n, L, z, rfl, hD, hlen, q⟩ := h
    refine ⟨_, (pss_cons (ps_if (pt_cmpR op_eq (pv 1) pe_str (nomark _))
        (pss_cons (ps_expr (pe_mt (K := K) h_KeptProduct_go (hr.mono (by decide)) (k_fld K (pv 0) rfl) (pa_cons (pv 2) pa_nil)))
        (pss_one ps_retN))
        pss_nil)
      (pss_cons (ps_if (pt_cmpR op_eq (pe_callB (k_len K) (by rfl) B.len (by decide +kernel) (pa_cons (pe_mt0 (K := K) h_KeptProduct_numbers_now (hr.mono (by decide)) (k_fld K (pv 0) rfl)) pa_nil)) (k_globI g_MOST_NUMBERS (by rfl)) (nomark _))
        (pss_one ps_void)
        pss_nil)
      (pss_one (ps_expr (pe_mt (K := K) h_KeptProduct_come (hr.mono (by decide)) (k_fld K (pv 0) rfl) (pa_cons (pv 2) pa_nil)))))), ?_⟩
    walk_at "y"
    have o1 := hD.kp.ob.isO (m := "come") (by decide +kernel) (by decide +kernel)
    have o2 := hD.kp.ob.isO (m := "go") (by decide +kernel) (by decide +kernel)
    have o3 := hD.kp.ob.isO (m := "numbers_now") (by decide +kernel) (by decide +kernel)
    rcases q with ⟨rfl, h1, h2, h3, q⟩ | ⟨rfl, hm, q⟩
    · rw [if_neg (by decide +kernel)]
      refine hD.dk.fld ⟨o3, p, ln, lo, L, rfl, hD.kp, fun t ys H1 ht s1 hp hs hT => ?_⟩
      have hlen2 : (ys.map V.int).length = L.length := by rw [List.length_map, hp.length_eq, ofN_len]
      refine r_lenT (SqT.of hT) ?_
      rw [hlen2]
      walk_at "y"
      rw [if_neg (by omega)]
      have hD1 := hD.same s1
      refine hD1.dk.fld ⟨hD1.kp.ob.isO (m := "come") (by decide +kernel) (by decide +kernel), p, ln, lo, n, L, rfl, h1, h2, hD1.kp, by omega, fun H' k hk => ?_⟩
      exact q H' ((K2.of s1).trans k) (hD1.to k hk)
    · rw [if_pos rfl]
      refine hD.dk.fld ⟨o2, p, ln, lo, n, L, rfl, hm, hD.kp, fun H' L' k hp hk => q H' L' k hp (hD.to k hk)⟩
end
abbrev s_Desk_told_of_two : Stmt := inClass (top 65) 3
theorem sc_Desk_told_of_two : FnScope ["self", "word", "number", "text", "other", "one", "two"] ["self", "word", "number", "text"] (defScope s_Desk_told_of_two) := ⟨rfl, rfl, rfl, by decide +kernel, rfl, by decide +kernel, by decide +kernel⟩
def sp_Desk_told_of_two (K : PySem.W.Frag) : Sp := fun vs H Q _ => ∃ (d : Addr) (wd z : PySem.Str) (k n : Nat), vs = [.ref d, .str wd, .int (k : Int), .str z] ∧ TextOf z n ∧ n ≤ 10 ^ 12 ∧
  ((wd = "free" ∧ 1 ≤ n ∧ 2 ≤ k ∧ k ≤ 200 ∧ ∀ (b : Bool) (t : Addr) (H' : Hp), H t = none → Same H H' → (b = true ↔ FreeN n k) → H' t = some (.lst [.str (yesno b)]) → Q (.ref t) H') ∨
   (wd = "apart" ∧ 1 ≤ k ∧ k ≤ 1000000 ∧ ∀ (qs : List (Int × Int)) (t : Addr) (H' : Hp), H t = none → Same H H' → ApartIs k n qs → H' t = some (.lst ((qs.map (rowT " ")).map V.str)) → Q (.ref t) H'))
set_option hygiene false in
local macro_rules | `(tactic| walk_at "rows") => `(tactic| (
  refine ⟨⟨_, hT⟩, lc_tI (xs := cs.map V.ref) (fun i acc H' => Same H1 H' ∧ acc.length ≤ i ∧ acc = ((qs.take i).map (rowT sg)).map V.str) (fun D hD => ⟨same_new hD, Nat.le_refl _, rfl⟩) (fun i acc H' _ h => same_seqT h.1 hT) ?_ ?_⟩
  · rintro i x acc D H2 hx hD hacc ⟨s2, hl2, hrow⟩ N0 N1 n0 n1
    obtain ⟨c, pp, rfl, hp, hc⟩ := (hPr.same s2).at hx
    obtain ⟨xx, yy, rfl, hx1, hy1⟩ := hsm pp (List.mem_of_getElem? hp)
    have hi : i < qs.length := (List.getElem?_eq_some_iff.mp hp).1
    obtain ⟨u1, u2⟩ := small_txt hx1
    obtain ⟨v1, v2⟩ := small_txt hy1
    have sl : 2000001 < sizeLine := by decide
    refine ⟨c, _, rfl, hc, rfl, ?_⟩
    walk_at "z"
    refine ⟨u1, by rw [hsg]; omega, v1, by rw [len_app, hsg]; omega, ?_⟩
    refine n1 _ _ hacc (by omega) ⟨fun b o hb => (upd_ne (ne_of_none hb hD)).trans (s2 _ _ hb), by rw [List.length_append]; show _ + 1 ≤ i + 1; omega, ?_⟩
    rw [hrow, List.take_add_one, hp, Option.toList_some, List.map_append, List.map_append]
    rfl
  · rintro D acc H2 hD hacc ⟨s2, hl2, hrow⟩
    rw [hlen, List.take_length] at hrow
    rw [hrow] at hacc
    exact fin D H2 hD s2 hacc))
section
variable {P : Program} {w : World} {K : PySem.W.Frag} {mg : PySem.Str → Option Value} {base : Heap}
theorem bi_Desk_told_of_two {f : Addr} {fd : FuncData} (F : Fun K "told_of_two" "Desk.told_of_two" s_Desk_told_of_two f fd) : Binds K fd ["self", "word", "number", "text"] [] := F.binds (ps := ["self", "word", "number", "text"]) fun _ _ _ _ _ _ us hl => match us, hl with | [_, _, _, _], _ => rfl
set_option maxHeartbeats 4000000 in
theorem ok_Desk_told_of_two {f : Addr} {fd : FuncData} (F : Fun K "told_of_two" "Desk.told_of_two" s_Desk_told_of_two f fd) (B : Bt mg) (g_DIG : NoDig K) (g_FAIR : GI mg "FAIR" 1000000000000) (h_bounded : Fn P w K mg base CX0 3 "bounded" ["text", "least", "most"] (sp_bounded K)) (h_is_free : Fn P w K mg base CX0 4 "is_free" ["number", "exponent"] (sp_is_free K)) (h_pairs_apart : Fn P w K mg base CX0 4 "pairs_apart" ["difference", "most"] (sp_pairs_apart K)) : FnOk P w K mg base CX0 5 f fd ["self", "word", "number", "text"] (sp_Desk_told_of_two K) := by
  refine F.ok sc_Desk_told_of_two (fun vs H Q E h => ?_) (fun cdv A outer s H vs Q E hr h => ?_)
  · obtain ⟨d, wd, z, k, n, rfl, hz, hn, q⟩ := h
    rfl
  · obtain ⟨d, wd, z, k, n, rfl, hz, hn, q⟩ := h
    refine ⟨_, (pss_cons (ps_set (i := 4) sc_Desk_told_of_two.nd rfl (Or.inl rfl) (pe_fn h_bounded (hr.mono (by decide)) (by rfl) (pa_cons (pv 3) (pa_cons (pe_callTy call_int1 (by rfl) B.int (by decide +kernel) (pa_cons (pe_cmpR op_eq (pv 1) pe_str (nomark _)) pa_nil)) (pa_cons (k_globI g_FAIR (by rfl)) pa_nil)))))
      (pss_cons (ps_if (pt_cmpR op_eq (pv 1) pe_str (nomark _))
        (pss_one (ps_ret (pe_lst (pa_cons (pe_ifExp (pt_val (pe_fn h_is_free (hr.mono (by decide)) (by rfl) (pa_cons (pv 4) (pa_cons (pv 2) pa_nil)))) pe_str pe_str) pa_nil))))
        pss_nil)
      (pss_one (ps_ret (pe_lc (own := [("one", 5), ("two", 6)]) (g := gTup K 2 (gCons (gName 5) (gCons (gName 6) gNil))) (tt := tYes) rfl sc_Desk_told_of_two.nd (pi_tup (pe_fn h_pairs_apart (hr.mono (by decide)) (by rfl) (pa_cons (pv 2) (pa_cons (pv 4) pa_nil)))) (blkOk_by (own := [("one", 5), ("two", 6)]) (N := ["self", "word", "number", "text", "other", "one", "two"]) (sc := defScope s_Desk_told_of_two) (by decide +kernel)) (fun _ _ _ _ _ => (pg_tup rfl (pgs_cons (pg_name (i := 5) sc_Desk_told_of_two.nd rfl (Or.inl rfl)) (pgs_cons (pg_name (i := 6) sc_Desk_told_of_two.nd rfl (Or.inl rfl)) pgs_nil)))) (fun _ _ _ _ _ => pts_nil) (fun _ _ _ _ _ => (pe_op op_add_str (pe_op op_add_str (pe_callTy (call_strN K g_DIG) (by rfl) B.str (by decide +kernel) (pa_cons (pv 5) pa_nil)) pe_str) (pe_callTy (call_strN K g_DIG) (by rfl) B.str (by decide +kernel) (pa_cons (pv 6) pa_nil))))))))), ?_⟩
    walk_at "z"
    rcases q with ⟨rfl, h1, h2, h3, q⟩ | ⟨rfl, h1, h2, q⟩
    · rw [if_pos rfl]
      refine ⟨z, n, 1, 1000000000000, rfl, hz, by omega, by omega, ?_⟩
      dsimp only
      rw [if_pos rfl]
      refine ⟨n, k, rfl, h1, hn, h2, h3, fun b H1 s1 hb => ⟨b, rfl, ?_⟩⟩
      have sz : 1 ≤ sizeLine := by decide
      cases b with
      | true => exact ⟨sz, fun t ht => q true t _ (s1.free ht) (s1.trans (same_new ht)) hb upd_same⟩
      | false => exact ⟨sz, fun t ht => q false t _ (s1.free ht) (s1.trans (same_new ht)) hb upd_same⟩
    · rw [if_neg (by decide +kernel)]
      refine ⟨z, n, 0, 1000000000000, rfl, hz, by omega, by omega, ?_⟩
      dsimp only
      rw [if_neg (by decide +kernel)]
      refine ⟨k, n, rfl, h1, by omega, hn, fun t cs qs H1 ht s1 hT0 hP hA hql => ?_⟩
      have hT : SqT K H1 t (cs.map V.ref) := SqT.of hT0
      have hPr : PairsAt K H1 cs qs := ⟨hP.1, fun i a p e1 e2 => SqT.of (hP.2 i a p e1 e2)⟩
      have hsm : SmallP qs := fun p hp => by
        obtain ⟨x, e, _, _, hm⟩ := (hA.2 p).mp hp
        exact ⟨x, x + k, e, Nat.lt_of_le_of_lt (show x ≤ 10 ^ 12 by omega) (by decide), Nat.lt_of_le_of_lt (show x + k ≤ 10 ^ 12 by omega) (by decide)⟩
      have hlen : (cs.map V.ref).length = qs.length := by rw [List.length_map]; exact hP.1
      obtain ⟨sg, hsg0⟩ : ∃ sg : PySem.Str, sg = " " := ⟨_, rfl⟩
      have hsg : sg.length = 1 := by rw [hsg0]; decide +kernel
      have fin : ∀ (D : Addr) (H2 : Hp), H1 D = none → Same H1 H2 → H2 D = some (.lst ((qs.map (rowT sg)).map V.str)) → Q (.ref D) H2 := fun D H2 hD s2 hL => q qs D H2 (s1.free hD) (s1.trans s2) hA (by rw [← hsg0]; exact hL)
      walk_at "z"
      rw [← hsg0]
      walk_at "rows"
end
abbrev s_Desk_told_of : Stmt := inClass (top 65) 4
theorem sc_Desk_told_of : FnScope ["self", "word", "text", "number", "one", "two", "base", "exponent"] ["self", "word", "text"] (defScope s_Desk_told_of) := ⟨rfl, rfl, rfl, by decide +kernel, rfl, by decide +kernel, by decide +kernel⟩
def sp_Desk_told_of (K : PySem.W.Frag) : Sp := fun vs H Q _ => ∃ (d : Addr) (wd z : PySem.Str) (n : Nat), vs = [.ref d, .str wd, .str z] ∧ TextOf z n ∧
  ((wd = "full" ∧ 1 ≤ n ∧ n ≤ 10 ^ 12 ∧ ∀ (b : Bool) (t : Addr) (H' : Hp), H t = none → Same H H' → (b = true ↔ FullN n) → H' t = some (.lst [.str (yesno b)]) → Q (.ref t) H') ∨
   (wd = "sums" ∧ n ≤ 10 ^ 8 ∧ ∀ (qs : List (Int × Int)) (t : Addr) (H' : Hp), H t = none → Same H H' → SumsIs n qs → H' t = some (.lst ((qs.map (rowT " ")).map V.str)) → Q (.ref t) H') ∨
   (n ≤ 10 ^ 40 ∧ ((wd = "is" ∧ ∀ (t : Addr) (H' : Hp), H t = none → Same H H' → H' t = some (.lst ((((waysN n).map zz).map (rowT "^")).map V.str)) → Q (.ref t) H') ∨
     (wd = "beside" ∧ ∀ (l : Option Nat) (g : Nat) (t : Addr) (H' : Hp), H t = none → Same H H' → Beside n l g → H' t = some (.lst [.str (optS l ++ " " ++ sN g)]) → Q (.ref t) H') ∨
     (wd = "count" ∧ ∀ (t : Addr) (H' : Hp), H t = none → Same H H' → H' t = some (.lst [.str (sN (cntP n))]) → Q (.ref t) H') ∨
     (wd = "place" ∧ ∀ (t : Addr) (H' : Hp), H t = none → Same H H' → H' t = some (.lst [.str (sN (cntP (n - 1)))]) → Q (.ref t) H') ∨
     (wd = "near" ∧ ∀ (r : Nat) (t : Addr) (H' : Hp), H t = none → Same H H' → Nearest n r → H' t = some (.lst [.str (sN r)]) → Q (.ref t) H'))))
set_option hygiene false in
local macro_rules | `(tactic| walk_at "rows") => `(tactic| (
  refine ⟨⟨_, hT⟩, lc_tI (xs := cs.map V.ref) (fun i acc H' => Same H1 H' ∧ acc.length ≤ i ∧ acc = ((qs.take i).map (rowT sg)).map V.str) (fun D hD => ⟨same_new hD, Nat.le_refl _, rfl⟩) (fun i acc H' _ h => same_seqT h.1 hT) ?_ ?_⟩
  · rintro i x acc D H2 hx hD hacc ⟨s2, hl2, hrow⟩ N0 N1 n0 n1
    obtain ⟨c, pp, rfl, hp, hc⟩ := (hPr.same s2).at hx
    obtain ⟨xx, yy, rfl, hx1, hy1⟩ := hsm pp (List.mem_of_getElem? hp)
    have hi : i < qs.length := (List.getElem?_eq_some_iff.mp hp).1
    obtain ⟨u1, u2⟩ := small_txt hx1
    obtain ⟨v1, v2⟩ := small_txt hy1
    have sl : 2000001 < sizeLine := by decide
    refine ⟨c, _, rfl, hc, rfl, ?_⟩
    walk_at "z"
    refine ⟨u1, by rw [hsg]; omega, v1, by rw [len_app, hsg]; omega, ?_⟩
    refine n1 _ _ hacc (by omega) ⟨fun b o hb => (upd_ne (ne_of_none hb hD)).trans (s2 _ _ hb), by rw [List.length_append]; show _ + 1 ≤ i + 1; omega, ?_⟩
    rw [hrow, List.take_add_one, hp, Option.toList_some, List.map_append, List.map_append]
    rfl
  · rintro D acc H2 hD hacc ⟨s2, hl2, hrow⟩
    rw [hlen, List.take_length] at hrow
    rw [hrow] at hacc
    exact fin D H2 hD s2 hacc))
section
variable {P : Program} {w : World} {K : PySem.W.Frag} {mg : PySem.Str → Option Value} {base : Heap}
theorem bi_Desk_told_of {f : Addr} {fd : FuncData} (F : Fun K "told_of" "Desk.told_of" s_Desk_told_of f fd) : Binds K fd ["self", "word", "text"] [] := F.binds (ps := ["self", "word", "text"]) fun _ _ _ _ _ _ us hl => match us, hl with | [_, _, _], _ => rfl
set_option maxHeartbeats 4000000 in
theorem ok_Desk_told_of {f : Addr} {fd : FuncData} (F : Fun K "told_of" "Desk.told_of" s_Desk_told_of f fd) (B : Bt mg) (g_DIG : NoDig K) (g_FAIR : GI mg "FAIR" 1000000000000) (g_GREATEST : GI mg "GREATEST" 10000000000000000000000000000000000000000) (g_GREATEST_SUM : GI mg "GREATEST_SUM" 100000000) (h_is_full : Fn P w K mg base CX0 3 "is_full" ["number"] (sp_is_full K)) (h_bounded : Fn P w K mg base CX0 3 "bounded" ["text", "least", "most"] (sp_bounded K)) (h_pairs_with : Fn P w K mg base CX0 4 "pairs_with" ["number"] (sp_pairs_with K)) (h_ways_of : Fn P w K mg base CX0 3 "ways_of" ["number"] (sp_ways_of K)) (h_beside : Fn P w K mg base CX0 12 "beside" ["number"] (sp_beside K)) (h_count_to : Fn P w K mg base CX0 13 "count_to" ["number"] (sp_count_to K)) (h_place_of : Fn P w K mg base CX0 13 "place_of" ["number"] (sp_place_of K)) (h_nearest : Fn P w K mg base CX0 12 "nearest" ["number"] (sp_nearest K)) : FnOk P w K mg base CX0 14 f fd ["self", "word", "text"] (sp_Desk_told_of K) := by
  refine F.ok sc_Desk_told_of (fun vs H Q E h => ?_) (fun cdv A outer s H vs Q E hr h => ?_)
  · obtain ⟨d, wd, z, n, rfl, hz, q⟩ := h
    rfl
  · obtain ⟨d, wd, z, n, rfl, hz, q⟩ := h
    refine ⟨_, (pss_cons (ps_if (pt_cmpR op_eq (pv 1) pe_str (nomark _))
        (pss_one (ps_ret (pe_lst (pa_cons (pe_ifExp (pt_val (pe_fn h_is_full (hr.mono (by decide)) (by rfl) (pa_cons (pe_fn h_bounded (hr.mono (by decide)) (by rfl) (pa_cons (pv 2) (pa_cons pe_int (pa_cons (k_globI g_FAIR (by rfl)) pa_nil)))) pa_nil))) pe_str pe_str) pa_nil))))
        pss_nil)
      (pss_cons (ps_if (pt_cmpR op_eq (pv 1) pe_str (nomark _))
        (pss_one (ps_ret (pe_lc (own := [("one", 4), ("two", 5)]) (g := gTup K 2 (gCons (gName 4) (gCons (gName 5) gNil))) (tt := tYes) rfl sc_Desk_told_of.nd (pi_tup (pe_fn h_pairs_with (hr.mono (by decide)) (by rfl) (pa_cons (pe_fn h_bounded (hr.mono (by decide)) (by rfl) (pa_cons (pv 2) (pa_cons pe_int (pa_cons (k_globI g_GREATEST_SUM (by rfl)) pa_nil)))) pa_nil))) (blkOk_by (own := [("one", 4), ("two", 5)]) (N := ["self", "word", "text", "number", "one", "two", "base", "exponent"]) (sc := defScope s_Desk_told_of) (by decide +kernel)) (fun _ _ _ _ _ => (pg_tup rfl (pgs_cons (pg_name (i := 4) sc_Desk_told_of.nd rfl (Or.inl rfl)) (pgs_cons (pg_name (i := 5) sc_Desk_told_of.nd rfl (Or.inl rfl)) pgs_nil)))) (fun _ _ _ _ _ => pts_nil) (fun _ _ _ _ _ => (pe_op op_add_str (pe_op op_add_str (pe_callTy (call_strN K g_DIG) (by rfl) B.str (by decide +kernel) (pa_cons (pv 4) pa_nil)) pe_str) (pe_callTy (call_strN K g_DIG) (by rfl) B.str (by decide +kernel) (pa_cons (pv 5) pa_nil)))))))
        pss_nil)
      (pss_cons (ps_set (i := 3) sc_Desk_told_of.nd rfl (Or.inl rfl) (pe_fn h_bounded (hr.mono (by decide)) (by rfl) (pa_cons (pv 2) (pa_cons pe_int (pa_cons (k_globI g_GREATEST (by rfl)) pa_nil)))))
      (pss_cons (ps_if (pt_cmpR op_eq (pv 1) pe_str (nomark _))
        (pss_one (ps_ret (pe_lc (own := [("base", 6), ("exponent", 7)]) (g := gTup K 2 (gCons (gName 6) (gCons (gName 7) gNil))) (tt := tYes) rfl sc_Desk_told_of.nd (pi_tup (pe_fn h_ways_of (hr.mono (by decide)) (by rfl) (pa_cons (pv 3) pa_nil))) (blkOk_by (own := [("base", 6), ("exponent", 7)]) (N := ["self", "word", "text", "number", "one", "two", "base", "exponent"]) (sc := defScope s_Desk_told_of) (by decide +kernel)) (fun _ _ _ _ _ => (pg_tup rfl (pgs_cons (pg_name (i := 6) sc_Desk_told_of.nd rfl (Or.inl rfl)) (pgs_cons (pg_name (i := 7) sc_Desk_told_of.nd rfl (Or.inl rfl)) pgs_nil)))) (fun _ _ _ _ _ => pts_nil) (fun _ _ _ _ _ => (pe_op op_add_str (pe_op op_add_str (pe_callTy (call_strN K g_DIG) (by rfl) B.str (by decide +kernel) (pa_cons (pv 6) pa_nil)) pe_str) (pe_callTy (call_strN K g_DIG) (by rfl) B.str (by decide +kernel) (pa_cons (pv 7) pa_nil)))))))
        pss_nil)
      (pss_cons (ps_if (pt_cmpR op_eq (pv 1) pe_str (nomark _))
        (pss_one (ps_ret (pe_lst (pa_cons (pe_m1 PySem.F.slot_str_join PySem.F.type_str_join (k_join K) pe_str (pe_lc (own := [("one", 4)]) (g := gName 4) (tt := tYes) rfl sc_Desk_told_of.nd (pi_tup (pe_fn h_beside (hr.mono (by decide)) (by rfl) (pa_cons (pv 3) pa_nil))) (blkOk_by (own := [("one", 4)]) (N := ["self", "word", "text", "number", "one", "two", "base", "exponent"]) (sc := defScope s_Desk_told_of) (by decide +kernel)) (fun _ _ _ _ _ => (pg_name (i := 4) sc_Desk_told_of.nd rfl (Or.inl rfl))) (fun _ _ _ _ _ => pts_nil) (fun _ _ _ _ _ => (pe_ifExp (pt_cmpR op_isN (pv 4) pe_non (nomark _)) pe_str (pe_callTy (call_strN K g_DIG) (by rfl) B.str (by decide +kernel) (pa_cons (pv 4) pa_nil)))))) pa_nil))))
        pss_nil)
      (pss_cons (ps_if (pt_cmpR op_eq (pv 1) pe_str (nomark _))
        (pss_one (ps_ret (pe_lst (pa_cons (pe_callTy (call_strN K g_DIG) (by rfl) B.str (by decide +kernel) (pa_cons (pe_fn h_count_to (hr.mono (by decide)) (by rfl) (pa_cons (pv 3) pa_nil)) pa_nil)) pa_nil))))
        pss_nil)
      (pss_one (ps_ret (pe_lst (pa_cons (pe_callTy (call_strN K g_DIG) (by rfl) B.str (by decide +kernel) (pa_cons (pe_ifExp (pt_cmpR op_eq (pv 1) pe_str (nomark _)) (pe_fn h_place_of (hr.mono (by decide)) (by rfl) (pa_cons (pv 3) pa_nil)) (pe_fn h_nearest (hr.mono (by decide)) (by rfl) (pa_cons (pv 3) pa_nil))) pa_nil)) pa_nil)))))))))), ?_⟩
    walk_at "z"
    have sz : 1 ≤ sizeLine ∧ 1000 ≤ sizeLine := by decide
    rcases q with ⟨rfl, h1, h2, q⟩ | ⟨rfl, h1, q⟩ | ⟨h1, q⟩
    · rw [if_pos rfl]
      refine ⟨z, n, 1, 1000000000000, rfl, hz, by omega, by omega, n, rfl, h1, h2, fun b H1 s1 hb => ⟨b, rfl, ?_⟩⟩
      cases b with
      | true => exact ⟨sz.1, fun t ht => q true t _ (s1.free ht) (s1.trans (same_new ht)) hb upd_same⟩
      | false => exact ⟨sz.1, fun t ht => q false t _ (s1.free ht) (s1.trans (same_new ht)) hb upd_same⟩
    · rw [if_neg (by decide +kernel), if_pos rfl]
      refine ⟨z, n, 0, 100000000, rfl, hz, by omega, by omega, n, rfl, h1, fun t cs qs H1 ht s1 hT0 hP hA hql => ?_⟩
      have hT : SqT K H1 t (cs.map V.ref) := SqT.of hT0
      have hPr : PairsAt K H1 cs qs := ⟨hP.1, fun i a p e1 e2 => SqT.of (hP.2 i a p e1 e2)⟩
      have hsm : SmallP qs := fun p hp => by
        obtain ⟨x, e, _, _, hm⟩ := (hA.2 p).mp hp
        exact ⟨x, n - x, e, Nat.lt_of_le_of_lt (show x ≤ 10 ^ 12 by omega) (by decide), Nat.lt_of_le_of_lt (show n - x ≤ 10 ^ 12 by omega) (by decide)⟩
      have hlen : (cs.map V.ref).length = qs.length := by rw [List.length_map]; exact hP.1
      obtain ⟨sg, hsg0⟩ : ∃ sg : PySem.Str, sg = " " := ⟨_, rfl⟩
      have hsg : sg.length = 1 := by rw [hsg0]; decide +kernel
      have fin : ∀ (D : Addr) (H2 : Hp), H1 D = none → Same H1 H2 → H2 D = some (.lst ((qs.map (rowT sg)).map V.str)) → Q (.ref D) H2 := fun D H2 hD s2 hL => q qs D H2 (s1.free hD) (s1.trans s2) hA (by rw [← hsg0]; exact hL)
      walk_at "z"
      rw [← hsg0]
      walk_at "rows"
    · have hn : n < 2 ^ 134 := Nat.lt_of_le_of_lt h1 (by decide)
      have hn200 : n < 2 ^ 200 := Nat.lt_trans hn (by decide)
      have e40 : (10000000000000000000000000000000000000000 : Int) = ((10 ^ 40 : Nat) : Int) := rfl
      have hnw : wd ≠ "full" ∧ wd ≠ "sums" := by
        rcases q with ⟨rfl, _⟩ | ⟨rfl, _⟩ | ⟨rfl, _⟩ | ⟨rfl, _⟩ | ⟨rfl, _⟩ <;> decide +kernel
      rw [if_neg hnw.1, if_neg hnw.2]
      refine ⟨z, n, 0, 10000000000000000000000000000000000000000, rfl, hz, by omega, by rw [e40]; omega, ?_⟩
      dsimp only
      rcases q with ⟨rfl, q⟩ | ⟨rfl, q⟩ | ⟨rfl, q⟩ | ⟨rfl, q⟩ | ⟨rfl, q⟩
      · rw [if_pos rfl]
        refine ⟨n, 134, rfl, hn, by omega, fun t cs H1 ht s1 hT hPr => ?_⟩
        obtain ⟨qs, hqs⟩ : ∃ qs : List (Int × Int), qs = (waysN n).map zz := ⟨_, rfl⟩
        rw [← hqs] at hPr
        have hsm : SmallP qs := fun p hp => by
          rw [hqs] at hp
          obtain ⟨⟨b, e⟩, hbe, rfl⟩ := List.mem_map.mp hp
          obtain ⟨g1, g2, g3, g4, g5⟩ := way_is hbe
          have hb : b ≤ b ^ e := Nat.le_self_pow (by omega) b
          refine ⟨b, e, rfl, Nat.lt_of_le_of_lt (show b ≤ 10 ^ 40 by omega) (by decide), ?_⟩
          rcases (by omega : b = 1 ∨ 2 ≤ b) with c | c
          · subst c
            rw [Nat.one_pow] at g2
            subst g2
            have h6 : (1, e) ∈ [(1, 2)] := hbe
            simp at h6
            subst h6
            decide
          · have h6 : 2 ^ e ≤ b ^ e := Nat.pow_le_pow_left c e
            have := (Nat.pow_lt_pow_iff_right (by omega : 1 < 2)).mp (Nat.lt_of_le_of_lt (g2 ▸ h6) hn)
            exact Nat.lt_of_le_of_lt (show e ≤ 134 by omega) (by decide)
        have hql : qs.length ≤ 2000000 := by
          rw [hqs, List.length_map]
          have : (waysN n).length ≤ 200 := by
            unfold waysN
            split
            · simp
            · split
              · simp
              · rename_i h0 _
                refine Nat.le_trans (List.length_filterMap_le _ _) ?_
                rw [List.length_range]
                have := (Nat.log2_lt h0).mpr hn
                omega
          omega
        have hlen : (cs.map V.ref).length = qs.length := by rw [List.length_map]; exact hPr.1
        obtain ⟨sg, hsg0⟩ : ∃ sg : PySem.Str, sg = "^" := ⟨_, rfl⟩
        have hsg : sg.length = 1 := by rw [hsg0]; decide +kernel
        have fin : ∀ (D : Addr) (H2 : Hp), H1 D = none → Same H1 H2 → H2 D = some (.lst ((qs.map (rowT sg)).map V.str)) → Q (.ref D) H2 := fun D H2 hD s2 hL => q D H2 (s1.free hD) (s1.trans s2) (by rw [← hqs, ← hsg0]; exact hL)
        walk_at "z"
        rw [← hsg0]
        walk_at "rows"
      · rw [if_neg (by decide +kernel), if_pos rfl]
        refine ⟨n, rfl, hn200, fun l g t H1 ht s1 hB hT => ?_⟩
        have hT1 : SqT K H1 t [vo l, .int (g : Int)] := SqT.of hT
        have small : ∀ x : Nat, x ≤ (10 ^ 40 + 1) ^ 2 → ((x : Nat) : Int).natAbs < 10 ^ 4300 := fun x hx => by
          rw [Int.natAbs_natCast]
          exact Nat.lt_of_le_of_lt hx (by decide +kernel)
        have hl0 : ∀ x : Nat, l = some x → x ≤ 10 ^ 40 := fun x hx => by
          rcases Nat.lt_or_ge n 2 with c | c
          · rw [hB.2.2.1 (by omega)] at hx
            cases hx
          · obtain ⟨y, e, h3⟩ := hB.2.2.2 c
            rw [hx] at e
            cases e
            have := h3.2.1
            omega
        have hg : g ≤ (10 ^ 40 + 1) ^ 2 := by
          rcases Nat.lt_or_ge n 1 with c | c
          · rw [hB.1 (by omega)]
            decide
          · exact Nat.le_trans ((hB.2.1 c).2.2 ((n + 1) ^ 2) ⟨n + 1, 2, by omega, by omega, rfl⟩ (by rw [Nat.pow_two]; exact Nat.lt_of_lt_of_le (Nat.lt_succ_self n) (Nat.le_mul_of_pos_left _ (Nat.succ_pos n)))) (Nat.pow_le_pow_left (by omega) 2)
        walk_at "z"
        refine ⟨⟨_, hT1⟩, lc_tI (xs := [vo l, .int (g : Int)]) (fun i acc H' => Same H1 H' ∧ acc = (([optS l, sN g] : List PySem.Str).take i).map V.str) (fun D hD => ⟨same_new hD, rfl⟩) (fun i acc H' _ h => same_seqT h.1 hT1) ?_ ?_⟩
        · rintro i x acc D H2 hx hD hacc ⟨s2, hrow⟩ N0 N1 n0 n1
          have hi : i < 2 := (List.getElem?_eq_some_iff.mp hx).1
          rcases (by omega : i = 0 ∨ i = 1) with rfl | rfl
          · cases hx
            cases l with
            | none =>
              walk_at "z"
              refine n1 _ _ hacc (by rw [hrow]; exact sz.1) ⟨fun b o hb => (upd_ne (ne_of_none hb hD)).trans (s2 _ _ hb), by rw [hrow]; rfl⟩
            | some x =>
              walk_at "z"
              refine ⟨_, rfl, small x (Nat.le_trans (hl0 x rfl) (by decide)), ?_⟩
              refine n1 _ _ hacc (by rw [hrow]; exact sz.1) ⟨fun b o hb => (upd_ne (ne_of_none hb hD)).trans (s2 _ _ hb), by rw [hrow]; rfl⟩
          · cases hx
            walk_at "z"
            refine ⟨small g hg, ?_⟩
            refine n1 _ _ hacc (by rw [hrow, List.length_map]; exact Nat.lt_of_lt_of_le (by decide : 1 < 1000) sz.2) ⟨fun b o hb => (upd_ne (ne_of_none hb hD)).trans (s2 _ _ hb), by rw [hrow]; rfl⟩
        · rintro D acc H2 hD hacc ⟨s2, hrow⟩
          subst hrow
          refine ⟨" ", D, [optS l, sN g], rfl, rfl, Or.inl (SqL.of hacc), ?_, sz.1, fun t2 ht2 => q l g t2 _ (s1.free (s2.free ht2)) ((s1.trans s2).trans (same_new ht2)) hB ?_⟩
          · have k1 : (optS l).length ≤ 100 := by
              cases l with
              | none => show ("none" : PySem.Str).length ≤ 100; decide +kernel
              | some x => exact sN_len (n := x) (by decide) (Nat.lt_of_le_of_lt (hl0 x rfl) (by decide))
            have k2 : (sN g).length ≤ 100 := sN_len (n := g) (by decide) (Nat.lt_of_le_of_lt hg (by decide))
            have k3 : (" " : PySem.Str).length = 1 := by decide +kernel
            simp only [List.map_cons, List.map_nil, List.sum_cons, List.sum_nil, List.length_cons, List.length_nil]
            omega
          · rw [upd_same, join_eq]
            rfl
      · rw [if_neg (by decide +kernel), if_neg (by decide +kernel), if_pos rfl]
        refine ⟨(n : Int), rfl, by omega, fun H1 s1 => ⟨_, rfl, ?_⟩⟩
        have hc : cntP n < 10 ^ 50 := Nat.lt_of_le_of_lt (cntP_le n) (Nat.lt_of_le_of_lt h1 (by decide))
        rw [Int.toNat_natCast]
        exact ⟨(small_txt hc).1, sz.1, fun t ht => q t _ (s1.free ht) (s1.trans (same_new ht)) upd_same⟩
      · rw [if_neg (by decide +kernel), if_neg (by decide +kernel), if_neg (by decide +kernel), if_pos rfl]
        have hc : cntP (n - 1) < 10 ^ 50 := Nat.lt_of_le_of_lt (cntP_le (n - 1)) (Nat.lt_of_le_of_lt (show n - 1 ≤ 10 ^ 40 by omega) (by decide))
        refine ⟨n, rfl, hn200, fun H1 s1 => ⟨_, rfl, (small_txt hc).1, sz.1, fun t ht => q t _ (s1.free ht) (s1.trans (same_new ht)) upd_same⟩⟩
      · rw [if_neg (by decide +kernel), if_neg (by decide +kernel), if_neg (by decide +kernel), if_neg (by decide +kernel)]
        refine ⟨n, rfl, hn200, fun r H1 s1 hr => ⟨_, rfl, ?_, sz.1, fun t ht => q r t _ (s1.free ht) (s1.trans (same_new ht)) hr upd_same⟩⟩
        rw [Int.natAbs_natCast]
        refine Nat.lt_of_le_of_lt (m := (10 ^ 40 + 1) ^ 2) ?_ (by decide +kernel)
        rcases Nat.lt_or_ge n 1 with c | c
        · rw [hr.1 (by omega)]
          decide
        · obtain ⟨l, g, h2, h3, h4⟩ := hr.2 c
          have h5 := Nat.le_trans (h3.2.2 ((n + 1) ^ 2) ⟨n + 1, 2, by omega, by omega, rfl⟩ (by rw [Nat.pow_two]; exact Nat.lt_of_lt_of_le (Nat.lt_succ_self n) (Nat.le_mul_of_pos_left _ (Nat.succ_pos n)))) (Nat.pow_le_pow_left (show n + 1 ≤ 10 ^ 40 + 1 by omega) 2)
          have h6 := h2.2.1
          have h7 : (10 : Nat) ^ 40 ≤ (10 ^ 40 + 1) ^ 2 := by decide
          rw [h4]
          split <;> omega
end
abbrev s_Desk_told : Stmt := inClass (top 65) 5
theorem sc_Desk_told : FnScope ["self", "word", "numbers", "exponent", "number"] ["self", "word"] (defScope s_Desk_told) := ⟨rfl, rfl, rfl, by decide +kernel, rfl, by decide +kernel, by decide +kernel⟩
def sp_Desk_told (K : PySem.W.Frag) : Sp := fun vs H Q _ => ∃ (d p ln lo : Addr) (L : List Nat) (z : PySem.Str) (ys : List PySem.Str), vs = [.ref d, .str z] ∧ DO K H d p ln lo L ∧ L.length ≤ 60 ∧ (z = "numbers" ∨ z = "product") ∧ Ask L z ys ∧
  ∀ (t : Addr) (H' : Hp), H t = none → Same H H' → H' t = some (.lst (ys.map V.str)) → Q (.ref t) H'
theorem ask_numbers {L : List Nat} {ys : List PySem.Str} (h : Ask L "numbers" ys) : ∃ zs : List Int, ys = rowsW zs ∧ zs.Perm (ofN L) ∧ zs.Pairwise (· ≤ ·) := by
  generalize hz : ("numbers" : PySem.Str) = z at h
  cases h with
  | numbers zs h1 h2 => exact ⟨zs, rfl, h1, h2⟩
  | product e h1 => exact absurd hz (by decide +kernel)
  | lacks e r h1 h2 h3 =>
    exfalso
    have h4 : 32 ∈ TL.tl (ln2 "lacks" e) := by
      unfold ln2
      rw [TL.tl_append, TL.tl_append, tl_blank]
      simp
    rw [← hz] at h4
    exact absurd h4 (by decide +kernel)
theorem ask_product {L : List Nat} {ys : List PySem.Str} (h : Ask L "product" ys) : ∃ e : Nat, ys = [prodW e] ∧ IsExp (pfs L) e := by
  generalize hz : ("product" : PySem.Str) = z at h
  cases h with
  | numbers zs h1 h2 => exact absurd hz (by decide +kernel)
  | product e h1 => exact ⟨e, rfl, h1⟩
  | lacks e r h1 h2 h3 =>
    exfalso
    have h4 : 32 ∈ TL.tl (ln2 "lacks" e) := by
      unfold ln2
      rw [TL.tl_append, TL.tl_append, tl_blank]
      simp
    rw [← hz] at h4
    exact absurd h4 (by decide +kernel)
section
variable {P : Program} {w : World} {K : PySem.W.Frag} {mg : PySem.Str → Option Value} {base : Heap}
theorem bi_Desk_told {f : Addr} {fd : FuncData} (F : Fun K "told" "Desk.told" s_Desk_told f fd) : Binds K fd ["self", "word"] [] := F.binds (ps := ["self", "word"]) fun _ _ _ _ _ _ us hl => match us, hl with | [_, _], _ => rfl
set_option maxHeartbeats 4000000 in
theorem ok_Desk_told {f : Addr} {fd : FuncData} (F : Fun K "told" "Desk.told" s_Desk_told f fd) (B : Bt mg) (g_DIG : NoDig K) (h_KeptProduct_numbers_now : FnM P w K mg base CX0 1 "KeptProduct" ["numbers", "often"] "numbers_now" ["self"] (sp_KeptProduct_numbers_now K)) (h_KeptProduct_exponent_now : FnM P w K mg base CX0 2 "KeptProduct" ["numbers", "often"] "exponent_now" ["self"] (sp_KeptProduct_exponent_now K)) : FnOk P w K mg base CX0 3 f fd ["self", "word"] (sp_Desk_told K) := by
  refine F.ok sc_Desk_told (fun vs H Q E h => ?_) (fun cdv A outer s H vs Q E hr h => ?_)
  · obtain ⟨d, p, ln, lo, L, z, ys, rfl, hD, hlen, hz, hA, q⟩ := h
    rfl
  · obtain ⟨d, p, ln, lo, L, z, ys, rfl, hD, hlen, hz, hA, q⟩ := h
    refine ⟨_, (pss_cons (ps_set (i := 2) sc_Desk_told.nd rfl (Or.inl rfl) (pe_mt0 (K := K) h_KeptProduct_numbers_now (hr.mono (by decide)) (k_fld K (pv 0) rfl)))
      (pss_cons (ps_if (pt_cmpR op_eq (pv 1) pe_str (nomark _))
        (pss_one (ps_ret (pe_ifExp (pt_cmpR op_gt (pe_callB (k_len K) (by rfl) B.len (by decide +kernel) (pa_cons (pv 2) pa_nil)) pe_int (nomark _)) (pe_lst (pa_cons (pe_m1 PySem.F.slot_str_join PySem.F.type_str_join (k_join K) pe_str (pe_lc (own := [("number", 4)]) (g := gName 4) (tt := tYes) rfl sc_Desk_told.nd (pi_tup (pv 2)) (blkOk_by (own := [("number", 4)]) (N := ["self", "word", "numbers", "exponent", "number"]) (sc := defScope s_Desk_told) (by decide +kernel)) (fun _ _ _ _ _ => (pg_name (i := 4) sc_Desk_told.nd rfl (Or.inl rfl))) (fun _ _ _ _ _ => pts_nil) (fun _ _ _ _ _ => (pe_callTy (call_strN K g_DIG) (by rfl) B.str (by decide +kernel) (pa_cons (pv 4) pa_nil))))) pa_nil)) (pe_lst pa_nil))))
        pss_nil)
      (pss_cons (ps_if (pt_cmpR op_ne (pv 1) pe_str (nomark _))
        (pss_one ps_void)
        pss_nil)
      (pss_cons (ps_set (i := 3) sc_Desk_told.nd rfl (Or.inl rfl) (pe_mt0 (K := K) h_KeptProduct_exponent_now (hr.mono (by decide)) (k_fld K (pv 0) rfl)))
      (pss_one (ps_ret (pe_lst (pa_cons (pe_ifExp (pt_cmpR op_gt (pv 3) pe_int (nomark _)) (pe_op op_add_str pe_str (pe_callTy (call_strN K g_DIG) (by rfl) B.str (by decide +kernel) (pa_cons (pv 3) pa_nil))) pe_str) pa_nil)))))))), ?_⟩
    walk_at "y"
    have o3 := hD.kp.ob.isO (m := "numbers_now") (by decide +kernel) (by decide +kernel)
    refine hD.dk.fld ⟨o3, p, ln, lo, L, rfl, hD.kp, fun t zs H1 ht s1 hp hs hT => ?_⟩
    have hlen2 : (zs.map V.int).length = L.length := by rw [List.length_map, hp.length_eq, ofN_len]
    rcases hz with rfl | rfl
    · obtain ⟨ms, rfl, h1, h2⟩ := ask_numbers hA
      have e := sorted_one hs h2 (hp.trans h1.symm)
      subst e
      dsimp only
      rw [if_pos rfl]
      refine r_lenT (SqT.of hT) ?_
      rw [hlen2]
      walk_at "y"
      refine ite2 (fun h0 => ?_) (fun h0 => ?_)
      · have hne : zs ≠ [] := fun z => by
          rw [z] at hlen2
          simp at hlen2
          omega
        refine ⟨⟨_, SqT.of hT⟩, lc_t txtI (SqT.of hT) (size_le (by omega)) ?_ ?_⟩
        · intro i x H2 hx s2 N0 N1 n0 n1
          obtain ⟨j, hj, rfl⟩ := int_at hx
          have hm := hp.mem_iff.mp hj
          unfold ofN at hm
          obtain ⟨n, hn, rfl⟩ := List.mem_map.mp hm
          have hr := hD.kp.rng n hn
          walk_at "y"
          refine ⟨Nat.lt_of_le_of_lt (show ((n : Nat) : Int).natAbs ≤ 1000000 by omega) (by decide +kernel), n1 _ rfl _ (Same.refl _)⟩
        · intro D H2 hD2 s2 hL
          rw [filt_txt] at hL
          refine ⟨_, D, zs.map fun y => Str.ofString (toString y), rfl, rfl, .inl (SqL.of hL), txt_len hp (fun x hx => (hD.kp.rng x hx).2) (by omega), by show 1 ≤ sizeLine; decide, fun u hu => ?_⟩
          refine q u _ (s1.free (s2.free hu)) (s1.trans (s2.trans (same_new hu))) ?_
          rw [upd_same]
          unfold rowsW
          rw [if_neg hne, join_eq]
          rfl
      · have hne : zs = [] := List.length_eq_zero_iff.mp (by
          rw [List.length_map] at hlen2
          omega)
        refine ⟨by show 0 ≤ sizeLine; decide, fun u hu => q u _ (s1.free hu) (s1.trans (same_new hu)) ?_⟩
        rw [upd_same]
        unfold rowsW
        rw [if_pos hne]
        rfl
    · obtain ⟨e, rfl, he⟩ := ask_product hA
      dsimp only
      rw [if_neg (by decide +kernel)]
      rw [if_neg (fun z => z rfl)]
      have hD1 := hD.same s1
      refine hD1.dk.fld ⟨hD1.kp.ob.isO (m := "exponent_now") (by decide +kernel) (by decide +kernel), p, ln, lo, L, rfl, hD1.kp, fun e2 H2 s2 he2 => ⟨_, rfl, ?_⟩⟩
      have : e2 = e := isExp_unique he2 he
      subst this
      have hle := exp_le he2 hD.kp.rng (by omega)
      refine ite2 (fun h1 => ?_) (fun h1 => ?_)
      · have hl : (sN e2).length ≤ 5 := sN_len (by decide) (by omega)
        have hl6 : ("power " : PySem.Str).length = 6 := by decide +kernel
        have sz : 1000 ≤ sizeLine := by decide
        refine ⟨_, rfl, Nat.lt_of_le_of_lt (show ((e2 : Nat) : Int).natAbs ≤ 20000 by omega) (by decide +kernel), ?_, by omega, fun u hu => q u _ (s1.free (s2.free hu)) (s1.trans (s2.trans (same_new hu))) ?_⟩
        · rw [hl6]
          show 6 + (sN e2).length ≤ sizeLine
          omega
        · rw [upd_same]
          unfold prodW
          rw [if_pos (by omega)]
          rfl
      · refine ⟨by show 1 ≤ sizeLine; decide, fun u hu => q u _ (s1.free (s2.free hu)) (s1.trans (s2.trans (same_new hu))) ?_⟩
        rw [upd_same]
        unfold prodW
        rw [if_neg (by omega)]
        rfl
end
abbrev s_Desk_ask : Stmt := inClass (top 65) 1
theorem sc_Desk_ask : FnScope ["self", "line", "words", "most", "number"] ["self", "line"] (defScope s_Desk_ask) := ⟨rfl, rfl, rfl, by decide +kernel, rfl, by decide +kernel, by decide +kernel⟩
def sp_Desk_ask (K : PySem.W.Frag) : Sp := fun vs H Q _ => ∃ (d p ln lo : Addr) (L : List Nat) (z : PySem.Str), vs = [.ref d, .str z] ∧ DO K H d p ln lo L ∧ L.length ≤ 60 ∧
  ((∃ ys : List PySem.Str, Ask L z ys ∧ ∀ (t : Addr) (H' : Hp), H t = none → Same H H' → H' t = some (.lst (ys.map V.str)) → Q (.ref t) H') ∨
   (∃ n : Nat, z = ln2 "come" n ∧ 1 ≤ n ∧ n ≤ 1000000 ∧ L.length < 60 ∧ ∀ (t : Addr) (H' : Hp), H t = none → K2 ln lo H H' → DO K H' d p ln lo (L ++ [n]) → H' t = some (.lst []) → Q (.ref t) H') ∨
   (∃ n : Nat, z = ln2 "go" n ∧ n ∈ L ∧ ∀ (t : Addr) (H' : Hp) (L' : List Nat), H t = none → K2 ln lo H H' → L.Perm (n :: L') → DO K H' d p ln lo L' → H' t = some (.lst []) → Q (.ref t) H') ∨
   (∃ R : List PySem.Str → Prop, AskR z R ∧ ∀ (ys : List PySem.Str) (t : Addr) (H' : Hp), H t = none → Same H H' → R ys → H' t = some (.lst (ys.map V.str)) → Q (.ref t) H'))
set_option hygiene false in
local macro_rules | `(tactic| walk_at "ask_in") => `(tactic| (
  refine ⟨bl1, by omega, ?_⟩
  rw [hsp]
  intro w0 hw0
  have s1 := same_new (o := .lst (wd.map V.str)) hw0
  have hw : upd H w0 (.lst (wd.map V.str)) w0 = _ := upd_same
  have hD1 := hD.same s1
  generalize upd H w0 (.lst (wd.map V.str)) = H1 at s1 hw hD1 ⊢
  rw [hwd] at hw
  refine go _ _ ["come", "go"] H1 w0 _ hw (by decide) fun H2 s2 => ?_
  rw [if_neg (by decide +kernel)]
  have hw2 := s2 _ _ hw
  refine r_ixL (SqL.of hw2) rfl ⟨rfl, ?_⟩))
set_option hygiene false in
local macro_rules | `(tactic| walk_at "ask_short") => `(tactic| (
  rw [if_neg (by decide +kernel)]
  refine r_ixL (SqL.of hw2) rfl ⟨rfl, ?_⟩
  rw [if_neg (by decide +kernel)]
  refine go _ _ ["apart", "free"] H2 w0 _ hw2 (by decide) fun H3 s3 => ?_
  rw [if_neg (by decide +kernel)]
  have hw3 := s3 _ _ hw2
  refine r_ixL (SqL.of hw3) rfl fun a1 ha1 => r_inX (ys := ["is", "count", "place", "near", "beside", "sums", "full"]) ha1 ⟨_, rfl, ?_⟩
  rw [if_neg (by decide +kernel)]
  refine ⟨w0, _, rfl, SqL.of hw3, ?_⟩
  have s13 := s1.trans (s2.trans s3)
  have hD3 := hD.same s13
  refine ⟨hD3.dk.isO (by decide +kernel), r_ixL (SqL.of hw3) rfl ?_⟩
  exact ⟨d, p, ln, lo, L, _, _, rfl, hD3, hlen, hkind, hA, fun t H4 ht s4 h4 => q t H4 (s13.free ht) (s13.trans s4) h4⟩))
set_option hygiene false in
local macro_rules | `(tactic| walk_at "ask_of") => `(tactic| (
  walk_at "ask_in"
  rw [if_neg (by decide +kernel)]
  refine r_ixL (SqL.of hw2) rfl ⟨rfl, ?_⟩
  rw [if_neg (by decide +kernel)]
  refine go _ _ ["apart", "free"] H2 w0 _ hw2 (by decide) fun H3 s3 => ?_
  rw [if_neg (by decide +kernel)]
  have hw3 := s3 _ _ hw2
  refine r_ixL (SqL.of hw3) rfl fun a1 ha1 => r_inX (ys := ["is", "count", "place", "near", "beside", "sums", "full"]) ha1 ⟨_, rfl, ?_⟩
  rw [if_pos (by decide +kernel)]
  refine r_len (SqL.of hw3) ⟨_, rfl, ?_⟩
  rw [if_pos (by rw [List.length_map]; simp only [List.length_cons, List.length_nil]; omega)]
  have s13 := s1.trans (s2.trans s3)
  have hD3 := hD.same s13
  refine ⟨hD3.dk.isO (by decide +kernel), r_ixL (SqL.of hw3) rfl (r_slL (SqL.of hw3) fun l hl => ?_)⟩
  have s14 : ∀ o, Same H (upd H3 l o) := fun o => s13.trans (same_new hl)
  have zl := hz.len
  have el1 : (" " : PySem.Str).length = 1 := by decide +kernel
  refine ⟨" ", l, [z], rfl, rfl, .inl (SqL.of (upd_same.trans (congrArg (fun l => some (HO.lst l)) (cut_from _ 1)))), by rw [List.map_cons, List.map_nil, List.sum_cons, List.sum_nil, List.length_cons, List.length_nil]; omega, ?_⟩
  rw [join_one]))
set_option hygiene false in
local macro_rules | `(tactic| walk_at "ask_two") => `(tactic| (
  walk_at "ask_in"
  rw [if_neg (by decide +kernel)]
  refine r_ixL (SqL.of hw2) rfl ⟨rfl, ?_⟩
  rw [if_neg (by decide +kernel)]
  refine go _ _ ["apart", "free"] H2 w0 _ hw2 (by decide) fun H3 s3 => ?_
  rw [if_pos (by decide +kernel)]
  have hw3 := s3 _ _ hw2
  refine r_len (SqL.of hw3) ⟨_, rfl, ?_⟩
  rw [if_pos (by rw [List.length_map]; simp only [List.length_cons, List.length_nil]; omega)]
  refine ⟨by omega, fun p0 hp0 => ?_⟩
  have sn := same_new (o := .lst [.int 1000000, .int 200]) hp0
  have s14 := (s1.trans (s2.trans s3)).trans sn
  have hw4 := sn _ _ hw3
  have hm : upd H3 p0 (.lst [.int 1000000, .int 200]) p0 = _ := upd_same
  have hD4 := hD.same s14
  generalize upd H3 p0 (.lst [.int 1000000, .int 200]) = H4 at s14 hw4 hm hD4 ⊢
  refine r_ixL (SqL.of hw4) rfl ⟨rfl, ?_⟩))
set_option hygiene false in
local macro_rules | `(tactic| walk_at "ask_two2") => `(tactic| (
  refine ⟨hD5.dk.isO (by decide +kernel), r_ixL (SqL.of hw5) rfl (r_slL (SqL.of hw5) fun l hl => ?_)⟩
  have s15 : ∀ o, Same H (upd H5 l o) := fun o => sA.trans (same_new hl)
  have zl := hz.len
  have el1 : (" " : PySem.Str).length = 1 := by decide +kernel
  refine ⟨" ", l, [z], rfl, rfl, .inl (SqL.of (upd_same.trans (congrArg (fun l => some (HO.lst l)) (cut_from _ 2)))), by rw [List.map_cons, List.map_nil, List.sum_cons, List.sum_nil, List.length_cons, List.length_nil]; omega, ?_⟩
  rw [join_one]))
section
variable {P : Program} {w : World} {K : PySem.W.Frag} {mg : PySem.Str → Option Value} {base : Heap}
theorem bi_Desk_ask {f : Addr} {fd : FuncData} (F : Fun K "ask" "Desk.ask" s_Desk_ask f fd) : Binds K fd ["self", "line"] [] := F.binds (ps := ["self", "line"]) fun _ _ _ _ _ _ us hl => match us, hl with | [_, _], _ => rfl
set_option maxHeartbeats 4000000 in
theorem ok_Desk_ask {f : Addr} {fd : FuncData} (F : Fun K "ask" "Desk.ask" s_Desk_ask f fd) (B : Bt mg) (g_DIG : NoDig K) (g_SMALL : GI mg "SMALL" 1000000) (g_FAIR : GI mg "FAIR" 1000000000000) (g_MOST_EXPONENT_whole : GI mg "MOST_EXPONENT_whole" 200) (g_MOST_LACKING : GI mg "MOST_LACKING" 10) (g_OF_TEXT : GT K mg "OF_TEXT" ["is", "count", "place", "near", "beside", "sums", "full"]) (h_need_words : Fn P w K mg base CX0 1 "need_words" ["words", "many"] (sp_need_words K)) (h_Desk_change_by : FnM P w K mg base CX0 4 "Desk" ["kept"] "change_by" ["self", "word", "number"] (sp_Desk_change_by K)) (h_plain_number : Fn P w K mg base CX0 1 "plain_number" ["word", "least", "most"] (sp_plain_number K)) (h_KeptProduct_lacks_now : FnM P w K mg base CX0 2 "KeptProduct" ["numbers", "often"] "lacks_now" ["self", "exponent"] (sp_KeptProduct_lacks_now K)) (h_nth_power : Fn P w K mg base CX0 13 "nth_power" ["place"] (sp_nth_power K)) (h_Desk_told_of_two : FnM P w K mg base CX0 5 "Desk" ["kept"] "told_of_two" ["self", "word", "number", "text"] (sp_Desk_told_of_two K)) (h_Desk_told_of : FnM P w K mg base CX0 14 "Desk" ["kept"] "told_of" ["self", "word", "text"] (sp_Desk_told_of K)) (h_Desk_told : FnM P w K mg base CX0 3 "Desk" ["kept"] "told" ["self", "word"] (sp_Desk_told K)) : FnOk P w K mg base CX0 15 f fd ["self", "line"] (sp_Desk_ask K) := by
  refine F.ok sc_Desk_ask (fun vs H Q E h => ?_) (fun cdv A outer s H vs Q E hr h => ?_)
  · obtain ⟨d, p, ln, lo, L, z, rfl, hD, hlen, q⟩ := h
    rfl
  · obtain ⟨d, p, ln, lo, L, z, rfl, hD, hlen, q⟩ := h
    refine ⟨_, (pss_cons (ps_set (i := 2) sc_Desk_ask.nd rfl (Or.inl rfl) (pe_m1 PySem.F.slot_str_split PySem.F.type_str_split mt_split (pv 1) pe_str))
      (pss_cons (ps_if (pt_cmpR (k_in K) (pe_ix (k_ixL K) (pv 2) pe_int (fun _ _ => rfl)) (pe_tup (pa_cons pe_str (pa_cons pe_str pa_nil))) (by rfl))
        (pss_cons (ps_expr (pe_fn h_need_words (hr.mono (by decide)) (by rfl) (pa_cons (pv 2) (pa_cons pe_int pa_nil))))
        (pss_cons (ps_expr (pe_mt (K := K) h_Desk_change_by (hr.mono (by decide)) (pv 0) (pa_cons (pe_ix (k_ixL K) (pv 2) pe_int (fun _ _ => rfl)) (pa_cons (pe_fn h_plain_number (hr.mono (by decide)) (by rfl) (pa_cons (pe_ix (k_ixL K) (pv 2) pe_int (fun _ _ => rfl)) (pa_cons pe_int (pa_cons (k_globI g_SMALL (by rfl)) pa_nil)))) pa_nil))))
        (pss_one (ps_ret (pe_lst pa_nil)))))
        pss_nil)
      (pss_cons (ps_if (pt_cmpR op_eq (pe_ix (k_ixL K) (pv 2) pe_int (fun _ _ => rfl)) pe_str (nomark _))
        (pss_cons (ps_expr (pe_fn h_need_words (hr.mono (by decide)) (by rfl) (pa_cons (pv 2) (pa_cons pe_int pa_nil))))
        (pss_one (ps_ret (pe_lst (pa_cons (pe_callTy (call_strN K g_DIG) (by rfl) B.str (by decide +kernel) (pa_cons (pe_mt (K := K) h_KeptProduct_lacks_now (hr.mono (by decide)) (k_fld K (pv 0) rfl) (pa_cons (pe_fn h_plain_number (hr.mono (by decide)) (by rfl) (pa_cons (pe_ix (k_ixL K) (pv 2) pe_int (fun _ _ => rfl)) (pa_cons pe_int (pa_cons (k_globI g_MOST_LACKING (by rfl)) pa_nil)))) pa_nil)) pa_nil)) pa_nil)))))
        pss_nil)
      (pss_cons (ps_if (pt_cmpR op_eq (pe_ix (k_ixL K) (pv 2) pe_int (fun _ _ => rfl)) pe_str (nomark _))
        (pss_cons (ps_expr (pe_fn h_need_words (hr.mono (by decide)) (by rfl) (pa_cons (pv 2) (pa_cons pe_int pa_nil))))
        (pss_one (ps_ret (pe_lst (pa_cons (pe_callTy (call_strN K g_DIG) (by rfl) B.str (by decide +kernel) (pa_cons (pe_fn h_nth_power (hr.mono (by decide)) (by rfl) (pa_cons (pe_fn h_plain_number (hr.mono (by decide)) (by rfl) (pa_cons (pe_ix (k_ixL K) (pv 2) pe_int (fun _ _ => rfl)) (pa_cons pe_int (pa_cons (pe_op op_mulW (k_globI g_FAIR (by rfl)) (k_globI g_SMALL (by rfl))) pa_nil)))) pa_nil)) pa_nil)) pa_nil)))))
        pss_nil)
      (pss_cons (ps_if (PW.pt (pw_and (pt_cmpR (k_in K) (pe_ix (k_ixL K) (pv 2) pe_int (fun _ _ => rfl)) (pe_tup (pa_cons pe_str (pa_cons pe_str pa_nil))) (by rfl)) (pw_and1 (pt_cmpR op_gt (pe_callB (k_len K) (by rfl) B.len (by decide +kernel) (pa_cons (pv 2) pa_nil)) pe_int (nomark _)))))
        (pss_cons (ps_set (i := 3) sc_Desk_ask.nd rfl (Or.inl rfl) (pe_ix (k_ixL K) (pe_lst (pa_cons (k_globI g_SMALL (by rfl)) (pa_cons (k_globI g_MOST_EXPONENT_whole (by rfl)) pa_nil))) (pe_callTy call_int1 (by rfl) B.int (by decide +kernel) (pa_cons (pe_cmpR op_eq (pe_ix (k_ixL K) (pv 2) pe_int (fun _ _ => rfl)) pe_str (nomark _)) pa_nil)) (fun _ _ => rfl)))
        (pss_cons (ps_set (i := 4) sc_Desk_ask.nd rfl (Or.inl rfl) (pe_fn h_plain_number (hr.mono (by decide)) (by rfl) (pa_cons (pe_ix (k_ixL K) (pv 2) pe_int (fun _ _ => rfl)) (pa_cons (pe_op op_add pe_int (pe_callTy call_int1 (by rfl) B.int (by decide +kernel) (pa_cons (pe_cmpR op_eq (pe_ix (k_ixL K) (pv 2) pe_int (fun _ _ => rfl)) pe_str (nomark _)) pa_nil))) (pa_cons (pv 3) pa_nil)))))
        (pss_one (ps_ret (pe_mt (K := K) h_Desk_told_of_two (hr.mono (by decide)) (pv 0) (pa_cons (pe_ix (k_ixL K) (pv 2) pe_int (fun _ _ => rfl)) (pa_cons (pv 4) (pa_cons (pe_m1 PySem.F.slot_str_join PySem.F.type_str_join (k_join K) pe_str (pe_slice (k_slL K) (pv 2) (po_some pe_int) po_none)) pa_nil))))))))
        pss_nil)
      (pss_cons (ps_if (PW.pt (pw_and (pt_cmpR (k_in K) (pe_ix (k_ixL K) (pv 2) pe_int (fun _ _ => rfl)) (k_globT K g_OF_TEXT (by rfl)) (by rfl)) (pw_and1 (pt_cmpR op_gt (pe_callB (k_len K) (by rfl) B.len (by decide +kernel) (pa_cons (pv 2) pa_nil)) pe_int (nomark _)))))
        (pss_one (ps_ret (pe_mt (K := K) h_Desk_told_of (hr.mono (by decide)) (pv 0) (pa_cons (pe_ix (k_ixL K) (pv 2) pe_int (fun _ _ => rfl)) (pa_cons (pe_m1 PySem.F.slot_str_join PySem.F.type_str_join (k_join K) pe_str (pe_slice (k_slL K) (pv 2) (po_some pe_int) po_none)) pa_nil)))))
        pss_nil)
      (pss_cons (ps_expr (pe_fn h_need_words (hr.mono (by decide)) (by rfl) (pa_cons (pv 2) (pa_cons pe_int pa_nil))))
      (pss_one (ps_ret (pe_mt (K := K) h_Desk_told (hr.mono (by decide)) (pv 0) (pa_cons (pe_ix (k_ixL K) (pv 2) pe_int (fun _ _ => rfl)) pa_nil))))))))))), ?_⟩
    have sz : 2000 ≤ sizeLine := by decide
    have small : ∀ n : Nat, n ≤ 1000000 → (sN n).length ≤ 7 ∧ n < 10 ^ 18 := fun n h => ⟨sN_len (by decide) (Nat.lt_of_le_of_lt h (by decide)), Nat.lt_of_le_of_lt h (by decide)⟩
    have bl1 : (((" " : PySem.Str).length == 0) = false) := by decide +kernel
    walk_at "y"
    have go : ∀ (w : PySem.Str) (ws : List PySem.Str) (T : List PySem.Str) (H1 : Hp) (w0 : Addr) (Q2 : Bool → Hp → Prop), H1 w0 = some (.lst ((w :: ws).map V.str)) → T.length ≤ 10 → (∀ H2, Same H1 H2 → Q2 (decide (w ∈ T)) H2) →
        rIxL K (.ref w0) (.int 0) H1 fun x H2 => (T.map V.str).length ≤ sizeLine ∧ ∀ p, H2 p = none → rIn K false x (.ref p) (upd H2 p (.tup (T.map V.str))) fun x H3 => ∃ k, x = .bl k ∧ Q2 k H3 := fun w ws T H1 w0 Q2 hw hT q2 =>
      r_ixL (SqL.of hw) (show atI ((w :: ws).map V.str) ((0 : Nat) : Int) = some (.str w) from atI_nat rfl) ⟨by rw [List.length_map]; omega, fun p1 hp1 => r_inX (SqT.of upd_same) ⟨_, rfl, q2 _ (same_new hp1)⟩⟩
    rcases q with ⟨ys, hA, q⟩ | ⟨n, rfl, h1, h2, h3, q⟩ | ⟨n, rfl, h1, q⟩ | ⟨R, hR, q⟩
    · cases hA with
      | numbers zs g1 g2 =>
        have hA := Ask.numbers (L := L) zs g1 g2
        have hkind : ("numbers" : PySem.Str) = "numbers" ∨ ("numbers" : PySem.Str) = "product" := .inl rfl
        have hsp : PySem.Txt.split "numbers" " " = [("numbers" : PySem.Str)] := split_one (a := "numbers") (by decide +kernel)
        obtain ⟨wd, hwd⟩ : ∃ wd : List PySem.Str, wd = [("numbers" : PySem.Str)] := ⟨_, rfl⟩
        rw [← hwd] at hsp
        have e7 : ("numbers" : PySem.Str).length = 7 := by decide +kernel
        walk_at "ask_in"
        walk_at "ask_short"
      | product e g1 =>
        have hA := Ask.product (L := L) e g1
        have hkind : ("product" : PySem.Str) = "numbers" ∨ ("product" : PySem.Str) = "product" := .inr rfl
        have hsp : PySem.Txt.split "product" " " = [("product" : PySem.Str)] := split_one (a := "product") (by decide +kernel)
        obtain ⟨wd, hwd⟩ : ∃ wd : List PySem.Str, wd = [("product" : PySem.Str)] := ⟨_, rfl⟩
        rw [← hwd] at hsp
        have e7 : ("product" : PySem.Str).length = 7 := by decide +kernel
        walk_at "ask_in"
        walk_at "ask_short"
      | lacks e r g1 g2 g3 =>
        have hsp : PySem.Txt.split (ln2 "lacks" e) " " = [("lacks" : PySem.Str), sN e] := split_ln2 (w := "lacks") (by decide +kernel) e
        obtain ⟨wd, hwd⟩ : ∃ wd : List PySem.Str, wd = [("lacks" : PySem.Str), sN e] := ⟨_, rfl⟩
        rw [← hwd] at hsp
        have hs := small e (by omega)
        have e7 : (ln2 "lacks" e).length ≤ 20 := by
          have e5 : ("lacks" : PySem.Str).length = 5 := by decide +kernel
          rw [len_ln2, e5]
          omega
        walk_at "ask_in"
        rw [if_pos rfl]
        have s12 := s1.trans s2
        have hD2 := hD.same s12
        refine ⟨w0, _, rfl, SqL.of hw2, ?_⟩
        refine hD2.dk.fld ⟨hD2.kp.ob.isO (by decide +kernel) (by decide +kernel), r_ixL (SqL.of hw2) rfl ⟨e, 2, 10, rfl, hs.2, by omega, by omega, fun H3 s3 => ?_⟩⟩
        refine ⟨p, ln, lo, L, e, rfl, (hD2.same s3).kp, by omega, by omega, by omega, fun r2 H4 s4 hr2 => ?_⟩
        have er : r2 = r := isLack_unique hr2 g3
        subst er
        have hb := lack_small hr2 (by omega) g2 hD.kp.rng (by omega)
        exact ⟨_, rfl, by rw [Int.natAbs_natCast]; exact hb, by omega, fun t ht => q t _ (s12.free (s3.free (s4.free ht))) (s12.trans (s3.trans (s4.trans (same_new ht)))) upd_same⟩
    · have hs := small n h2
      have e4 : ("come" : PySem.Str).length = 4 := by decide +kernel
      refine ⟨bl1, by rw [len_ln2, e4]; omega, ?_⟩
      rw [split_ln2 (by decide +kernel)]
      intro w0 hw0
      have s1 := same_new (o := .lst ([("come" : PySem.Str), sN n].map V.str)) hw0
      have hw : upd H w0 (.lst ([("come" : PySem.Str), sN n].map V.str)) w0 = _ := upd_same
      have hD1 := hD.same s1
      generalize upd H w0 (.lst ([("come" : PySem.Str), sN n].map V.str)) = H1 at s1 hw hD1 ⊢
      refine go _ _ ["come", "go"] H1 w0 _ hw (by decide) fun H2 s2 => ?_
      rw [if_pos (by decide +kernel)]
      have hw2 := s2 _ _ hw
      have hD2 := hD1.same s2
      refine ⟨w0, _, rfl, SqL.of hw2, ?_⟩
      refine ⟨hD2.dk.isO (by decide +kernel), r_ixL (SqL.of hw2) rfl (r_ixL (SqL.of hw2) rfl ⟨n, 0, 1000000, rfl, hs.2, by omega, by omega, fun H3 s3 => ?_⟩)⟩
      refine ⟨d, p, ln, lo, n, L, _, rfl, hD2.same s3, by omega, .inl ⟨rfl, h1, h2, h3, fun H4 k4 hD4 => ⟨by show 0 ≤ sizeLine; omega, fun t ht => ?_⟩⟩⟩
      refine q t _ ((s1.trans (s2.trans s3)).free (hD4.free k4 ht)) ((K2.of (s1.trans (s2.trans s3))).trans (k4.trans (K2.of (same_new ht)))) (hD4.same (same_new ht)) upd_same
    · have hn := hD.kp.rng n h1
      have hs := small n hn.2
      have e2 : ("go" : PySem.Str).length = 2 := by decide +kernel
      refine ⟨bl1, by rw [len_ln2, e2]; omega, ?_⟩
      rw [split_ln2 (by decide +kernel)]
      intro w0 hw0
      have s1 := same_new (o := .lst ([("go" : PySem.Str), sN n].map V.str)) hw0
      have hw : upd H w0 (.lst ([("go" : PySem.Str), sN n].map V.str)) w0 = _ := upd_same
      have hD1 := hD.same s1
      generalize upd H w0 (.lst ([("go" : PySem.Str), sN n].map V.str)) = H1 at s1 hw hD1 ⊢
      refine go _ _ ["come", "go"] H1 w0 _ hw (by decide) fun H2 s2 => ?_
      rw [if_pos (by decide +kernel)]
      have hw2 := s2 _ _ hw
      have hD2 := hD1.same s2
      refine ⟨w0, _, rfl, SqL.of hw2, ?_⟩
      refine ⟨hD2.dk.isO (by decide +kernel), r_ixL (SqL.of hw2) rfl (r_ixL (SqL.of hw2) rfl ⟨n, 0, 1000000, rfl, hs.2, by omega, by omega, fun H3 s3 => ?_⟩)⟩
      refine ⟨d, p, ln, lo, n, L, _, rfl, hD2.same s3, by omega, .inr ⟨rfl, h1, fun H4 L' k4 hp4 hD4 => ⟨by show 0 ≤ sizeLine; omega, fun t ht => ?_⟩⟩⟩
      refine q t _ L' ((s1.trans (s2.trans s3)).free (hD4.free k4 ht)) ((K2.of (s1.trans (s2.trans s3))).trans (k4.trans (K2.of (same_new ht)))) hp4 (hD4.same (same_new ht)) upd_same
    · cases hR with
      | nth k g1 =>
        have hsp : PySem.Txt.split (ln2 "nth" k) " " = [("nth" : PySem.Str), sN k] := split_ln2 (w := "nth") (by decide +kernel) k
        obtain ⟨wd, hwd⟩ : ∃ wd : List PySem.Str, wd = [("nth" : PySem.Str), sN k] := ⟨_, rfl⟩
        rw [← hwd] at hsp
        have e7 : (ln2 "nth" k).length ≤ 50 := by
          have e5 : ("nth" : PySem.Str).length = 3 := by decide +kernel
          have := sN_len (n := k) (by decide) g1
          rw [len_ln2, e5]
          omega
        walk_at "ask_in"
        rw [if_neg (by decide +kernel)]
        refine r_ixL (SqL.of hw2) rfl ⟨rfl, ?_⟩
        rw [if_pos rfl]
        have s12 := s1.trans s2
        have hk : k < 2 ^ 60 := Nat.lt_of_lt_of_le g1 (by decide)
        have cm : CMulW 1000000000000 1000000 := by
          exact wide_mul (a := 64) (b := 64) (by decide) (by decide) (by decide) (by decide) (by decide)
        refine ⟨w0, _, rfl, SqL.of hw2, r_ixL (SqL.of hw2) rfl ⟨cm, k, 0, _, rfl, g1, by omega, by omega, fun H3 s3 => ?_⟩⟩
        refine ⟨k, rfl, hk, fun m H4 s4 m1 m2 m3 => ⟨_, rfl, ?_, by omega, fun t ht => q _ t _ (s12.free (s3.free (s4.free ht))) (s12.trans (s3.trans (s4.trans (same_new ht)))) ⟨m, m1, m2, m3, rfl⟩ upd_same⟩⟩
        have h5 := cntP_bound m1 (Nat.le_of_eq m3)
        rw [Int.natAbs_natCast]
        refine Nat.lt_trans h5 (Nat.lt_of_le_of_lt (m := (10 ^ 18 + 2) * (10 ^ 18 + 2)) (Nat.mul_le_mul (by omega) (by omega)) ?_)
        exact Nat.lt_of_lt_of_le (by decide : (10 ^ 18 + 2) * (10 ^ 18 + 2) < 10 ^ 50) (Nat.pow_le_pow_right (by omega) (by omega))
      | is z n hz g1 =>
        have hsp := split_lnT (w := "is") (by decide +kernel) hz.noblank
        obtain ⟨wd, hwd⟩ : ∃ wd : List PySem.Str, wd = [("is" : PySem.Str), z] := ⟨_, rfl⟩
        rw [← hwd] at hsp
        have e7 : (lnT "is" z).length ≤ 1000 := by
          have e5 : ("is" : PySem.Str).length ≤ 10 := by decide +kernel
          have := hz.len
          rw [len_lnT]
          omega
        walk_at "ask_of"
        exact ⟨d, "is", z, n, rfl, hz, .inr (.inr ⟨g1, .inl ⟨rfl, fun t H' ht s4 h4 => q _ t H' ((s14 _).free ht) ((s14 _).trans s4) rfl h4⟩⟩)⟩
      | count z n hz g1 =>
        have hsp := split_lnT (w := "count") (by decide +kernel) hz.noblank
        obtain ⟨wd, hwd⟩ : ∃ wd : List PySem.Str, wd = [("count" : PySem.Str), z] := ⟨_, rfl⟩
        rw [← hwd] at hsp
        have e7 : (lnT "count" z).length ≤ 1000 := by
          have e5 : ("count" : PySem.Str).length ≤ 10 := by decide +kernel
          have := hz.len
          rw [len_lnT]
          omega
        walk_at "ask_of"
        exact ⟨d, "count", z, n, rfl, hz, .inr (.inr ⟨g1, .inr (.inr (.inl ⟨rfl, fun t H' ht s4 h4 => q _ t H' ((s14 _).free ht) ((s14 _).trans s4) rfl h4⟩))⟩)⟩
      | place z n hz g1 =>
        have hsp := split_lnT (w := "place") (by decide +kernel) hz.noblank
        obtain ⟨wd, hwd⟩ : ∃ wd : List PySem.Str, wd = [("place" : PySem.Str), z] := ⟨_, rfl⟩
        rw [← hwd] at hsp
        have e7 : (lnT "place" z).length ≤ 1000 := by
          have e5 : ("place" : PySem.Str).length ≤ 10 := by decide +kernel
          have := hz.len
          rw [len_lnT]
          omega
        walk_at "ask_of"
        exact ⟨d, "place", z, n, rfl, hz, .inr (.inr ⟨g1, .inr (.inr (.inr (.inl ⟨rfl, fun t H' ht s4 h4 => q _ t H' ((s14 _).free ht) ((s14 _).trans s4) rfl h4⟩)))⟩)⟩
      | near z n hz g1 =>
        have hsp := split_lnT (w := "near") (by decide +kernel) hz.noblank
        obtain ⟨wd, hwd⟩ : ∃ wd : List PySem.Str, wd = [("near" : PySem.Str), z] := ⟨_, rfl⟩
        rw [← hwd] at hsp
        have e7 : (lnT "near" z).length ≤ 1000 := by
          have e5 : ("near" : PySem.Str).length ≤ 10 := by decide +kernel
          have := hz.len
          rw [len_lnT]
          omega
        walk_at "ask_of"
        exact ⟨d, "near", z, n, rfl, hz, .inr (.inr ⟨g1, .inr (.inr (.inr (.inr ⟨rfl, fun r t H' ht s4 hr h4 => q _ t H' ((s14 _).free ht) ((s14 _).trans s4) ⟨r, hr, rfl⟩ h4⟩)))⟩)⟩
      | beside z n hz g1 =>
        have hsp := split_lnT (w := "beside") (by decide +kernel) hz.noblank
        obtain ⟨wd, hwd⟩ : ∃ wd : List PySem.Str, wd = [("beside" : PySem.Str), z] := ⟨_, rfl⟩
        rw [← hwd] at hsp
        have e7 : (lnT "beside" z).length ≤ 1000 := by
          have e5 : ("beside" : PySem.Str).length ≤ 10 := by decide +kernel
          have := hz.len
          rw [len_lnT]
          omega
        walk_at "ask_of"
        exact ⟨d, "beside", z, n, rfl, hz, .inr (.inr ⟨g1, .inr (.inl ⟨rfl, fun l g t H' ht s4 hr h4 => q _ t H' ((s14 _).free ht) ((s14 _).trans s4) ⟨l, g, hr, rfl⟩ h4⟩)⟩)⟩
      | full z n hz g0 g1 =>
        have hsp := split_lnT (w := "full") (by decide +kernel) hz.noblank
        obtain ⟨wd, hwd⟩ : ∃ wd : List PySem.Str, wd = [("full" : PySem.Str), z] := ⟨_, rfl⟩
        rw [← hwd] at hsp
        have e7 : (lnT "full" z).length ≤ 1000 := by
          have e5 : ("full" : PySem.Str).length ≤ 10 := by decide +kernel
          have := hz.len
          rw [len_lnT]
          omega
        walk_at "ask_of"
        exact ⟨d, "full", z, n, rfl, hz, .inl ⟨rfl, g0, g1, fun b t H' ht s4 hr h4 => q _ t H' ((s14 _).free ht) ((s14 _).trans s4) ⟨b, hr, rfl⟩ h4⟩⟩
      | sums z n hz g1 =>
        have hsp := split_lnT (w := "sums") (by decide +kernel) hz.noblank
        obtain ⟨wd, hwd⟩ : ∃ wd : List PySem.Str, wd = [("sums" : PySem.Str), z] := ⟨_, rfl⟩
        rw [← hwd] at hsp
        have e7 : (lnT "sums" z).length ≤ 1000 := by
          have e5 : ("sums" : PySem.Str).length ≤ 10 := by decide +kernel
          have := hz.len
          rw [len_lnT]
          omega
        walk_at "ask_of"
        exact ⟨d, "sums", z, n, rfl, hz, .inr (.inl ⟨rfl, g1, fun qs t H' ht s4 hr h4 => q _ t H' ((s14 _).free ht) ((s14 _).trans s4) ⟨qs, hr, rfl⟩ h4⟩)⟩
      | free e z n hz g1 g2 g3 g4 =>
        have he6 : e ≤ 1000000 := by omega
        have hsp := split_three (a := "free") (by decide +kernel) (sN_blank e) hz.noblank
        obtain ⟨wd, hwd⟩ : ∃ wd : List PySem.Str, wd = [("free" : PySem.Str), sN e, z] := ⟨_, rfl⟩
        rw [← hwd] at hsp
        have e7 : ("free" ++ " " ++ sN e ++ " " ++ z : PySem.Str).length ≤ 1000 := by
          have e5 : ("free" : PySem.Str).length ≤ 10 := by decide +kernel
          have e6 : (" " : PySem.Str).length = 1 := by decide +kernel
          have := hz.len
          have := (small e he6).1
          rw [len_app, len_app, len_app, len_app]
          omega
        walk_at "ask_two"
        rw [if_pos rfl]
        refine r_ixL (SqL.of hm) (show atI [V.int 1000000, V.int 200] ((1 : Nat) : Int) = some (.int 200) from atI_nat rfl) (r_ixL (SqL.of hw4) rfl (r_ixL (SqL.of hw4) rfl ⟨rfl, ?_⟩))
        rw [if_pos rfl]
        refine ⟨e, _, _, rfl, (small e he6).2, by omega, by omega, fun H5 s5 => ?_⟩
        have sA := s14.trans s5
        have hw5 := s5 _ _ hw4
        have hD5 := hD4.same s5
        walk_at "ask_two2"
        exact ⟨d, "free", z, e, n, rfl, hz, by omega, .inl ⟨rfl, by omega, by omega, by omega, fun b t H' ht s4 hr h4 => q _ t H' ((s15 _).free ht) ((s15 _).trans s4) ⟨b, hr, rfl⟩ h4⟩⟩
      | apart e z n hz g1 g2 g3 =>
        have he6 : e ≤ 1000000 := by omega
        have hsp := split_three (a := "apart") (by decide +kernel) (sN_blank e) hz.noblank
        obtain ⟨wd, hwd⟩ : ∃ wd : List PySem.Str, wd = [("apart" : PySem.Str), sN e, z] := ⟨_, rfl⟩
        rw [← hwd] at hsp
        have e7 : ("apart" ++ " " ++ sN e ++ " " ++ z : PySem.Str).length ≤ 1000 := by
          have e5 : ("apart" : PySem.Str).length ≤ 10 := by decide +kernel
          have e6 : (" " : PySem.Str).length = 1 := by decide +kernel
          have := hz.len
          have := (small e he6).1
          rw [len_app, len_app, len_app, len_app]
          omega
        walk_at "ask_two"
        rw [if_neg (by decide +kernel)]
        refine r_ixL (SqL.of hm) (show atI [V.int 1000000, V.int 200] ((0 : Nat) : Int) = some (.int 1000000) from atI_nat rfl) (r_ixL (SqL.of hw4) rfl (r_ixL (SqL.of hw4) rfl ⟨rfl, ?_⟩))
        rw [if_neg (by decide +kernel)]
        refine ⟨e, _, _, rfl, (small e he6).2, by omega, by omega, fun H5 s5 => ?_⟩
        have sA := s14.trans s5
        have hw5 := s5 _ _ hw4
        have hD5 := hD4.same s5
        walk_at "ask_two2"
        exact ⟨d, "apart", z, e, n, rfl, hz, by omega, .inr ⟨rfl, by omega, by omega, fun qs t H' ht s4 hr h4 => q _ t H' ((s15 _).free ht) ((s15 _).trans s4) ⟨qs, hr, rfl⟩ h4⟩⟩
end
abbrev s__law_seed : Stmt := top 67
theorem sc__law_seed : FnScope ["cell", "number"] ["cell"] (defScope s__law_seed) := ⟨rfl, rfl, rfl, by decide +kernel, rfl, by decide +kernel, by decide +kernel⟩
def sp__law_seed (K : PySem.W.Frag) : Sp := fun vs H Q _ => ∃ (c : Int), vs = [.int c] ∧ ∀ (p : Addr) (H' : Hp), H p = none → Same H H' → Sd H' p → Q (.ref p) H'
section
variable {P : Program} {w : World} {K : PySem.W.Frag} {mg : PySem.Str → Option Value} {base : Heap}
theorem bi__law_seed {f : Addr} {fd : FuncData} (F : Fun K "_law_seed" "_law_seed" s__law_seed f fd) : Binds K fd ["cell"] [] := F.binds (ps := ["cell"]) fun _ _ _ _ _ _ us hl => match us, hl with | [_], _ => rfl
set_option maxHeartbeats 4000000 in
theorem ok__law_seed {f : Addr} {fd : FuncData} (F : Fun K "_law_seed" "_law_seed" s__law_seed f fd) (B : Bt mg)   : FnOk P w K mg base CX0 1 f fd ["cell"] (sp__law_seed K) := by
  refine F.ok sc__law_seed (fun vs H Q E h => ?_) (fun cdv A outer s H vs Q E hr h => ?_)
  · obtain ⟨c, rfl, q⟩ := h
    rfl
  · obtain ⟨c, rfl, q⟩ := h
    refine ⟨_, (pss_cons (ps_set (i := 1) sc__law_seed.nd rfl (Or.inl rfl) (pe_callB (call_max2 rfl) (by rfl) B.max (by decide +kernel) (pa_cons (pv 0) (pa_cons (pe_op op_sub pe_int (pv 0)) pa_nil))))
      (pss_one (ps_ret (pe_lst (pa_cons (pv 1) (pa_cons (pe_callTy call_int1 (by rfl) B.int (by decide +kernel) (pa_cons (pe_cmpR op_ge (pv 1) (pe_op op_pow pe_int pe_int) (nomark _)) pa_nil)) (pa_cons pe_int (pa_cons (pe_op op_mod (pv 0) pe_int) pa_nil)))))))), ?_⟩
    walk_at "w"
    refine ⟨by unfold CPow; omega, by omega, by show 4 ≤ sizeLine; decide, fun p hp => q p _ hp (same_new hp) ⟨_, _, _, _, upd_same⟩⟩
end
abbrev s__law_draw : Stmt := top 68
theorem sc__law_draw : FnScope ["seed", "most", "found", "number"] ["seed", "most"] (defScope s__law_draw) := ⟨rfl, rfl, rfl, by decide +kernel, rfl, by decide +kernel, by decide +kernel⟩
def sp__law_draw (K : PySem.W.Frag) : Sp := fun vs H Q _ => ∃ (a : Addr) (m : Int), vs = [.ref a, .int m] ∧ Sd H a ∧ 1 ≤ m ∧ m < 2 ^ 200 ∧ ∀ (r : Int) (H' : Hp), Kp a H H' → Sd H' a → 0 ≤ r → r < m → Q (.int r) H'
theorem use_draw {K : PySem.W.Frag} {a : Addr} {m : Int} {H H0 : Hp} {Q : VK} {E : XK} (k : Kp a H0 H) (d : Sd H a) (h1 : 1 ≤ m) (h2 : m < 2 ^ 200)
    (q : ∀ (r : Int) (H' : Hp), Kp a H H' → Kp a H0 H' → Sd H' a → 0 ≤ r → r < m → Q (.int r) H') : sp__law_draw K [.ref a, .int m] H Q E :=
  ⟨a, m, rfl, d, h1, h2, fun r H' k' d' => q r H' k' (k.trans k') d'⟩
theorem use_pick {K : PySem.W.Frag} {a p : Addr} {m : Int} {xs : List V} {H H0 : Hp} {Q : VK} {E : XK} (P : V → Prop) (hP : ∀ x ∈ xs, P x) (k : Kp a H0 H) (d : Sd H a) (hp : H p = none) (hm : (xs.length : Int) = m) (h1 : 1 ≤ m) (h2 : m < 2 ^ 200)
    (q : ∀ (v : V) (H' : Hp), P v → Kp a H H' → Kp a H0 H' → Sd H' a → Q v H') : sp__law_draw K [.ref a, .int m] (upd H p (.lst xs)) (fun y H2 => rIxL K (.ref p) y H2 Q) E := by
  have np := d.ne hp
  refine use_draw (K := K) (k.trans (sm_kp (same_new hp))) (d.same (same_new hp)) h1 h2 fun r H' k' K' d' r0 r1 => ?_
  obtain ⟨v, hv, hat⟩ := atI_mem (xs := xs) r0 (by omega)
  exact r_ixL (SqL.of (k' _ _ np upd_same)) hat (q v H' (hP v hv) ((sm_kp (same_new hp)).trans k') K' d')
section
variable {P : Program} {w : World} {K : PySem.W.Frag} {mg : PySem.Str → Option Value} {base : Heap}
theorem bi__law_draw {f : Addr} {fd : FuncData} (F : Fun K "_law_draw" "_law_draw" s__law_draw f fd) : Binds K fd ["seed", "most"] [] := F.binds (ps := ["seed", "most"]) fun _ _ _ _ _ _ us hl => match us, hl with | [_, _], _ => rfl
set_option maxHeartbeats 4000000 in
theorem ok__law_draw {f : Addr} {fd : FuncData} (F : Fun K "_law_draw" "_law_draw" s__law_draw f fd) (B : Bt mg)   : FnOk P w K mg base CX0 1 f fd ["seed", "most"] (sp__law_draw K) := by
  refine F.ok sc__law_draw (fun vs H Q E h => ?_) (fun cdv A outer s H vs Q E hr h => ?_)
  · obtain ⟨a, m, rfl, hD, hm, hm2, q⟩ := h
    rfl
  · obtain ⟨a, m, rfl, hD, hm, hm2, q⟩ := h
    refine ⟨_, (pss_cons (ps_asg (pe_op op_add (pe_ix (k_ixL K) (pv 0) pe_int (fun _ _ => rfl)) pe_int) (pg_sub (pv 0) pe_int set_list))
      (pss_cons (ps_if (PW.pt (pw_and (pt_cmpR op_eq (pe_ix (k_ixL K) (pv 0) pe_int (fun _ _ => rfl)) pe_int (nomark _)) (pw_and1 (pt_cmpR op_gt (pe_ix (k_ixL K) (pv 0) pe_int (fun _ _ => rfl)) pe_int (nomark _)))))
        (pss_cons (ps_set (i := 2) sc__law_draw.nd rfl (Or.inl rfl) (pe_op op_mod (pe_ix (k_ixL K) (pv 0) pe_int (fun _ _ => rfl)) (pv 1)))
        (pss_cons (ps_asg (pe_op op_fdivW (pe_ix (k_ixL K) (pv 0) pe_int (fun _ _ => rfl)) (pv 1)) (pg_sub (pv 0) pe_int set_list))
        (pss_one (ps_ret (pv 2)))))
        pss_nil)
      (pss_cons (ps_set (i := 3) sc__law_draw.nd rfl (Or.inl rfl) (pe_op op_mod (pe_op op_mul (pe_op op_add (pe_op op_add (pe_ix (k_ixL K) (pv 0) pe_int (fun _ _ => rfl)) (pe_op op_mul pe_int (pe_ix (k_ixL K) (pv 0) pe_int (fun _ _ => rfl)))) pe_int) pe_int) pe_int))
      (pss_cons (ps_set (i := 3) sc__law_draw.nd rfl (Or.inl rfl) (pe_op op_mod (pe_op op_mul (pe_op op_mod (pe_op op_mulW (pv 3) (pv 3)) pe_int) pe_int) pe_int))
      (pss_one (ps_ret (pe_op op_mod (pe_op op_fdiv (pv 3) pe_int) (pv 1)))))))), ?_⟩
    obtain ⟨x, f, c, s, h1⟩ := hD
    have hk : ∀ o, Kp a H (upd H a o) := fun o => (Kp.refl a H).upd
    have q2 : ∀ (z x' f' c' s' : Int), Q (.int (z % m)) (upd H a (.lst [.int x', .int f', .int c', .int s'])) := fun z x' f' c' s' => q _ _ (hk _) ⟨_, _, _, _, upd_same⟩ (Int.emod_nonneg _ (by omega)) (Int.emod_lt_of_pos _ (by omega))
    have hdv : ∀ z : Int, CDivW z m := fun z => wide_div (b := 200) (by omega) (by omega) (by decide) (by decide)
    have rest : ∀ (s c : Int), CMul (s + 7643 * c + 103) 48271 := fun _ _ => by unfold CMul; omega
    walk_at "w"
    walk_at "ix"
    walk_at "st"
    walk_at "ix"
    refine ite2 (fun hf => ?_) (fun hf => ?_)
    · walk_at "ix"
      refine ite2 (fun hx => ?_) (fun hx => ?_)
      · walk_at "ix"
        refine ⟨by omega, ?_⟩
        walk_at "ix"
        refine ⟨hdv _, ?_⟩
        walk_at "st"
        rw [upd_upd]
        exact q2 _ _ _ _ _
      · walk_at "ix"
        walk_at "ix"
        generalize hz : (s + 7643 * (c + 1) + 103) * 48271 % 2147483647 = z
        have hz1 : 0 ≤ z ∧ z < 2147483647 := by omega
        generalize hy : z * z % 2147483629 = y
        have hy1 : 0 ≤ y ∧ y < 2147483629 := by omega
        refine ⟨by unfold CMul; omega, by unfold CMul; omega, by omega, wide_mul (a := 64) (b := 64) (by omega) (by omega) (by decide) (by decide) (by decide), by omega, by unfold CMul; omega, by omega, by unfold CDiv; omega, by omega, q2 _ _ _ _ _⟩
    · walk_at "ix"
      walk_at "ix"
      generalize hz : (s + 7643 * (c + 1) + 103) * 48271 % 2147483647 = z
      have hz1 : 0 ≤ z ∧ z < 2147483647 := by omega
      generalize hy : z * z % 2147483629 = y
      have hy1 : 0 ≤ y ∧ y < 2147483629 := by omega
      refine ⟨by unfold CMul; omega, by unfold CMul; omega, by omega, wide_mul (a := 64) (b := 64) (by omega) (by omega) (by decide) (by decide) (by decide), by omega, by unfold CMul; omega, by omega, by unfold CDiv; omega, by omega, q2 _ _ _ _ _⟩
end
abbrev s__law_cells : Stmt := top 69
theorem sc__law_cells : FnScope ["script", "many"] ["script", "many"] (defScope s__law_cells) := ⟨rfl, rfl, rfl, by decide +kernel, rfl, by decide +kernel, by decide +kernel⟩
def sp__law_cells (K : PySem.W.Frag) : Sp := fun vs H Q _ => ∃ (a : Addr) (ns : List Int) (m : Nat), vs = [.ref a, .int (m : Int)] ∧ SqL K H a (ns.map V.int) ∧ ns.length ≤ 63 ∧ ∀ (t : Addr) (xs : List Int) (H' : Hp), H t = none → Same H H' → H' t = some (.lst (xs.map V.int)) → xs.length ≤ m + 1 → xs.length ≤ 64 → Q (.ref t) H'
section
variable {P : Program} {w : World} {K : PySem.W.Frag} {mg : PySem.Str → Option Value} {base : Heap}
theorem bi__law_cells {f : Addr} {fd : FuncData} (F : Fun K "_law_cells" "_law_cells" s__law_cells f fd) : Binds K fd ["script", "many"] [] := F.binds (ps := ["script", "many"]) fun _ _ _ _ _ _ us hl => match us, hl with | [_, _], _ => rfl
set_option maxHeartbeats 4000000 in
theorem ok__law_cells {f : Addr} {fd : FuncData} (F : Fun K "_law_cells" "_law_cells" s__law_cells f fd) (B : Bt mg)   : FnOk P w K mg base CX0 1 f fd ["script", "many"] (sp__law_cells K) := by
  refine F.ok sc__law_cells (fun vs H Q E h => ?_) (fun cdv A outer s H vs Q E hr h => ?_)
  · obtain ⟨a, ns, m, rfl, hS, hlen, q⟩ := h
    rfl
  · obtain ⟨a, ns, m, rfl, hS, hlen, q⟩ := h
    refine ⟨_, (pss_one (ps_ret (pe_op op_cat (pe_slice (k_slL K) (pv 0) po_none (po_some (pv 1))) (pe_lst (pa_cons (pe_callB (k_len K) (by rfl) B.len (by decide +kernel) (pa_cons (pv 0) pa_nil)) pa_nil))))), ?_⟩
    walk_at "w"
    refine r_slL hS fun l hl => ?_
    have s1 := same_new (o := .lst (cutV (ns.map V.int) none (some (m : Int)))) hl
    refine r_len (s1.seq hS) ⟨by show 1 ≤ sizeLine; decide, fun p hp => ?_⟩
    have ec : cutV (ns.map V.int) none (some (m : Int)) = (ns.take m).map V.int := by rw [cut_to, List.map_take]
    rw [ec] at s1 hp ⊢
    have nl := ne_of_none (upd_same (H := H) (a := l) (o := .lst ((ns.take m).map V.int))) hp
    have l1 : (ns.take m).length ≤ 63 := by rw [List.length_take]; omega
    refine r_cat ((upd_ne nl).trans upd_same) upd_same (size_le' (by rw [List.length_map]; show (ns.take m).length + 1 ≤ 1000000; omega)) fun u hu => ?_
    have s2 := s1.trans (same_new (o := .lst [V.int ((ns.map V.int).length : Int)]) hp)
    refine q u (ns.take m ++ [((ns.map V.int).length : Int)]) _ (s2.free hu) (s2.trans (same_new hu)) (by rw [upd_same]; simp) ?_ ?_
    · rw [List.length_append, List.length_take]
      show min m ns.length + 1 ≤ m + 1
      omega
    · rw [List.length_append]
      show (ns.take m).length + 1 ≤ 64
      omega
end
abbrev s__law_taken : Stmt := top 70
theorem sc__law_taken : FnScope ["base", "exponent", "found", "turn"] ["base", "exponent"] (defScope s__law_taken) := ⟨rfl, rfl, rfl, by decide +kernel, rfl, by decide +kernel, by decide +kernel⟩
def sp__law_taken (K : PySem.W.Frag) : Sp := fun vs H Q _ => ∃ (b e a : Nat), vs = [.int (b : Int), .int (e : Int)] ∧ b < 2 ^ a ∧ e ≤ 1000000 ∧ a * e ≤ 300000 ∧ Q (.int ((b ^ e : Nat) : Int)) H
section
variable {P : Program} {w : World} {K : PySem.W.Frag} {mg : PySem.Str → Option Value} {base : Heap}
theorem bi__law_taken {f : Addr} {fd : FuncData} (F : Fun K "_law_taken" "_law_taken" s__law_taken f fd) : Binds K fd ["base", "exponent"] [] := F.binds (ps := ["base", "exponent"]) fun _ _ _ _ _ _ us hl => match us, hl with | [_, _], _ => rfl
set_option maxHeartbeats 4000000 in
theorem ok__law_taken {f : Addr} {fd : FuncData} (F : Fun K "_law_taken" "_law_taken" s__law_taken f fd) (B : Bt mg)   : FnOk P w K mg base CX0 1 f fd ["base", "exponent"] (sp__law_taken K) := by
  refine F.ok sc__law_taken (fun vs H Q E h => ?_) (fun cdv A outer s H vs Q E hr h => ?_)
  · obtain ⟨b, e, a, rfl, hb, he, ha, q⟩ := h
    rfl
  · obtain ⟨b, e, a, rfl, hb, he, ha, q⟩ := h
    refine ⟨_, (pss_cons (ps_set (i := 2) sc__law_taken.nd rfl (Or.inl rfl) pe_int)
      (pss_cons (ps_for PassesOwn.never rfl (pi_range1 rfl B.range (pa_cons (pv 1) pa_nil)) (pg_name (i := 3) sc__law_taken.nd rfl (Or.inl rfl))
        (pss_one (ps_set (i := 2) sc__law_taken.nd rfl (Or.inl rfl) (pe_op op_mulW (pv 2) (pv 0)))))
      (pss_one (ps_ret (pv 2))))), ?_⟩
    walk_at "w"
    refine ⟨by omega, by omega, for_r (fun i σ H' => ∃ (v : Option V), σ = [some (.int b), some (.int e), some (.int ((b ^ i : Nat) : Int)), v] ∧ H' = H) ⟨none, by simp, rfl⟩ ?_ ?_⟩
    · rintro i σ H' hi ⟨v, rfl, rfl⟩ N hN
      have hi : i < e := by omega
      have h1 : b ^ i ≤ 2 ^ (a * e) := by
        rw [Nat.pow_mul]
        refine Nat.le_trans (Nat.pow_le_pow_left (Nat.le_of_lt hb) i) (Nat.pow_le_pow_right (Nat.two_pow_pos a) (by omega))
      have h2 : b ≤ 2 ^ (a * e) := Nat.le_trans (Nat.le_of_lt hb) (Nat.pow_le_pow_right (by decide) (Nat.le_mul_of_pos_right a (by omega)))
      have l1 := log2_le_of_le h1
      have l2 := log2_le_of_le h2
      walk_at "w"
      rw [show ((b ^ i : Nat) : Int) * (b : Int) = ((b ^ (i + 1) : Nat) : Int) by simp [Nat.pow_succ]]
      exact ⟨cmulN (by omega), hN _ _ ⟨_, rfl, rfl⟩⟩
    · rintro σ H' ⟨v, rfl, rfl⟩
      walk_at "w"
      exact q
end
abbrev s__law_root : Stmt := top 71
theorem sc__law_root : FnScope ["number", "exponent", "less", "more", "amid"] ["number", "exponent"] (defScope s__law_root) := ⟨rfl, rfl, rfl, by decide +kernel, rfl, by decide +kernel, by decide +kernel⟩
def sp__law_root (K : PySem.W.Frag) : Sp := fun vs H Q _ => ∃ (n e c : Nat), vs = [.int (n : Int), .int (e : Int)] ∧ 1 ≤ e ∧ n < 2 ^ c ∧ c + 2 * e ≤ 300000 ∧ Q (.int (rootN n e : Nat)) H
theorem rt_bits_half {j e n c : Nat} (h1 : (2 ^ j) ^ e ≤ n) (hn : n < 2 ^ c) : j * e < c := by
  rw [← Nat.pow_mul] at h1
  exact (Nat.pow_lt_pow_iff_right (by omega : 1 < 2)).mp (Nat.lt_of_le_of_lt h1 hn)
section
variable {P : Program} {w : World} {K : PySem.W.Frag} {mg : PySem.Str → Option Value} {base : Heap}
theorem bi__law_root {f : Addr} {fd : FuncData} (F : Fun K "_law_root" "_law_root" s__law_root f fd) : Binds K fd ["number", "exponent"] [] := F.binds (ps := ["number", "exponent"]) fun _ _ _ _ _ _ us hl => match us, hl with | [_, _], _ => rfl
set_option maxHeartbeats 4000000 in
theorem ok__law_root {f : Addr} {fd : FuncData} (F : Fun K "_law_root" "_law_root" s__law_root f fd) (B : Bt mg)  (h__law_taken : Fn P w K mg base CX0 1 "_law_taken" ["base", "exponent"] (sp__law_taken K)) : FnOk P w K mg base CX0 2 f fd ["number", "exponent"] (sp__law_root K) := by
  refine F.ok sc__law_root (fun vs H Q E h => ?_) (fun cdv A outer s H vs Q E hr h => ?_)
  · obtain ⟨n, e, c, rfl, he, hn, hc, q⟩ := h
    rfl
  · obtain ⟨n, e, c, rfl, he, hn, hc, q⟩ := h
    refine ⟨_, (pss_cons (ps_set (i := 2) sc__law_root.nd rfl (Or.inl rfl) pe_int)
      (pss_cons (ps_set (i := 3) sc__law_root.nd rfl (Or.inl rfl) pe_int)
      (pss_cons (ps_while PassesOwn.never (pt_cmpR op_le (pe_fn h__law_taken (hr.mono (by decide)) (by rfl) (pa_cons (pv 3) (pa_cons (pv 1) pa_nil))) (pv 0) (nomark _))
        (pss_one (ps_set (i := 3) sc__law_root.nd rfl (Or.inl rfl) (pe_op op_mul (pv 3) pe_int))))
      (pss_cons (ps_while PassesOwn.never (pt_cmpR op_gt (pe_op op_sub (pv 3) (pv 2)) pe_int (nomark _))
        (pss_cons (ps_set (i := 4) sc__law_root.nd rfl (Or.inl rfl) (pe_op op_fdiv (pe_op op_add (pv 2) (pv 3)) pe_int))
        (pss_one (ps_if (pt_cmpR op_le (pe_fn h__law_taken (hr.mono (by decide)) (by rfl) (pa_cons (pv 4) (pa_cons (pv 1) pa_nil))) (pv 0) (nomark _))
          (pss_one (ps_set (i := 2) sc__law_root.nd rfl (Or.inl rfl) (pv 4)))
          (pss_one (ps_set (i := 3) sc__law_root.nd rfl (Or.inl rfl) (pv 4)))))))
      (pss_one (ps_ret (pv 2))))))), ?_⟩
    walk_at "w"
    have key : ∀ j : Nat, (j = 0 ∨ (2 ^ (j - 1)) ^ e ≤ n) → (j + 1) * e ≤ c + 2 * e := by
      intro j hj
      rcases hj with rfl | hj
      · omega
      · rcases Nat.eq_zero_or_pos j with rfl | hp
        · omega
        · have := rt_bits_half hj hn
          have e1 : j + 1 = (j - 1) + 2 := by omega
          rw [e1, Nat.add_mul]
          omega
    refine while_m (fun m σ H' => ∃ j : Nat, σ = [some (.int n), some (.int e), some (.int 0), some (.int ((2 ^ j : Nat) : Int)), none] ∧ H' = H ∧ m = n + 1 - j ∧ j ≤ n + 1 ∧ (j = 0 ∨ (2 ^ (j - 1)) ^ e ≤ n)) (n + 1) ⟨0, by simp, rfl, rfl, by omega, .inl rfl⟩ ?_
    rintro m σ H' ⟨j, rfl, rfl, rfl, hjn, hj⟩ G hG
    walk_at "w"
    refine ⟨2 ^ j, e, j + 1, rfl, Nat.pow_lt_pow_right (by omega) (by omega), by omega, by have := key j hj; omega, ?_⟩
    walk_at "w"
    refine ite2 (fun ht => hG _ _ fun N hN => ?_) (fun ht => ?_)
    · have ht' : (2 ^ j) ^ e ≤ n := by omega
      have hjlt : j ≤ n := by
        have h2 : 2 ^ j ≤ (2 ^ j) ^ e := Nat.le_self_pow (by omega) _
        have h3 : j < 2 ^ j := Nat.lt_two_pow_self
        omega
      walk_at "w"
      refine ⟨by unfold CMul; omega, hN (n + 1 - (j + 1)) _ _ (by omega) ⟨j + 1, ?_, rfl, rfl, by omega, .inr (by simpa using ht')⟩⟩
      simp [Nat.pow_succ]
    · have ht' : n < (2 ^ j) ^ e := by omega
      refine while_m (fun m σ H2 => ∃ (lo hi : Nat) (b : Option V), σ = [some (.int n), some (.int e), some (.int lo), some (.int hi), b] ∧ H2 = H' ∧ hi - lo = m ∧ lo < hi ∧ hi ≤ 2 ^ j ∧ lo ^ e ≤ n ∧ n < hi ^ e) (2 ^ j) ⟨0, 2 ^ j, none, rfl, rfl, Nat.sub_zero _, Nat.two_pow_pos j, Nat.le_refl _, by rw [Nat.zero_pow (by omega)]; omega, ht'⟩ ?_
      rintro m σ H2 ⟨lo, hi, b, rfl, rfl, rfl, hlt, hle, h1, h2⟩ G hG
      have key2 := key j hj
      walk_at "w"
      refine ite2 (fun hw => hG _ _ fun N hN => ?_) (fun hw => ?_)
      · have e1 : ((lo : Int) + hi) / 2 = (((lo + hi) / 2 : Nat) : Int) := by omega
        have hpow : 2 ^ j < 2 ^ (j + 1) := Nat.pow_lt_pow_right (by omega) (by omega)
        walk_at "w"
        refine ⟨by unfold CDiv; omega, (lo + hi) / 2, e, j + 1, by rw [e1], by omega, by omega, by omega, ?_⟩
        walk_at "w"
        refine ite2 (fun hs => hN (hi - (lo + hi) / 2) _ _ (by omega) ⟨(lo + hi) / 2, hi, _, by rw [e1], rfl, rfl, by omega, hle, by omega, h2⟩)
          (fun hs => hN ((lo + hi) / 2 - lo) _ _ (by omega) ⟨lo, (lo + hi) / 2, _, by rw [e1], rfl, rfl, by omega, by omega, h1, by omega⟩)
      · have e2 : hi = lo + 1 := by omega
        subst e2
        walk_at "w"
        have := rootN_is he h1 h2
        rw [this]
        exact q
end
abbrev s__law_ways : Stmt := top 72
theorem sc__law_ways : FnScope ["number", "found", "exponent", "root"] ["number"] (defScope s__law_ways) := ⟨rfl, rfl, rfl, by decide +kernel, rfl, by decide +kernel, by decide +kernel⟩
def sp__law_ways (K : PySem.W.Frag) : Sp := fun vs H Q _ => ∃ (n : Nat), vs = [.int (n : Int)] ∧ n < 2 ^ 134 ∧
  ∀ (t : Addr) (as : List Addr) (H' : Hp), H t = none → Same H H' → H' t = some (.lst (as.map V.ref)) → PairsAt K H' as ((waysN n).map zz) → Q (.ref t) H'
section
variable {P : Program} {w : World} {K : PySem.W.Frag} {mg : PySem.Str → Option Value} {base : Heap}
theorem bi__law_ways {f : Addr} {fd : FuncData} (F : Fun K "_law_ways" "_law_ways" s__law_ways f fd) : Binds K fd ["number"] [] := F.binds (ps := ["number"]) fun _ _ _ _ _ _ us hl => match us, hl with | [_], _ => rfl
set_option maxHeartbeats 4000000 in
theorem ok__law_ways {f : Addr} {fd : FuncData} (F : Fun K "_law_ways" "_law_ways" s__law_ways f fd) (B : Bt mg)  (h__law_taken : Fn P w K mg base CX0 1 "_law_taken" ["base", "exponent"] (sp__law_taken K)) (h__law_root : Fn P w K mg base CX0 2 "_law_root" ["number", "exponent"] (sp__law_root K)) : FnOk P w K mg base CX0 3 f fd ["number"] (sp__law_ways K) := by
  refine F.ok sc__law_ways (fun vs H Q E h => ?_) (fun cdv A outer s H vs Q E hr h => ?_)
  · obtain ⟨n, rfl, hn, q⟩ := h
    rfl
  · obtain ⟨n, rfl, hn, q⟩ := h
    refine ⟨_, (pss_cons (ps_if (pt_cmpR op_eq (pv 0) pe_int (nomark _))
        (pss_one (ps_ret (pe_lst (pa_cons (pe_tup (pa_cons pe_int (pa_cons pe_int pa_nil))) pa_nil))))
        pss_nil)
      (pss_cons (ps_set (i := 1) sc__law_ways.nd rfl (Or.inl rfl) (pe_lst pa_nil))
      (pss_cons (ps_for PassesOwn.never rfl (pi_range2 rfl B.range (pa_cons pe_int (pa_cons pe_int pa_nil))) (pg_name (i := 2) sc__law_ways.nd rfl (Or.inl rfl))
        (pss_one (ps_if (pt_cmpR op_le (pe_fn h__law_taken (hr.mono (by decide)) (by rfl) (pa_cons pe_int (pa_cons (pv 2) pa_nil))) (pv 0) (nomark _))
          (pss_cons (ps_set (i := 3) sc__law_ways.nd rfl (Or.inl rfl) (pe_fn h__law_root (hr.mono (by decide)) (by rfl) (pa_cons (pv 0) (pa_cons (pv 2) pa_nil))))
          (pss_one (ps_if (pt_cmpR op_eq (pe_fn h__law_taken (hr.mono (by decide)) (by rfl) (pa_cons (pv 3) (pa_cons (pv 2) pa_nil))) (pv 0) (nomark _))
            (pss_one (ps_expr (pe_bm PySem.F.plainAttrs_list PySem.F.slot_list_append PySem.F.type_list_append mt_append (pv 1) (pa_cons (pe_tup (pa_cons (pv 3) (pa_cons (pv 2) pa_nil))) pa_nil))))
            pss_nil)))
          pss_nil)))
      (pss_one (ps_ret (pv 1)))))), ?_⟩
    have sz : 2000 ≤ sizeLine := by decide
    walk_at "r"
    refine ite2 (fun h1 => ?_) (fun h1 => ?_)
    · have h1 : n = 1 := by omega
      subst h1
      refine ⟨by omega, fun t ht => ⟨by omega, fun p hp => ?_⟩⟩
      have n1 := ne_of_none (upd_same (H := H) (a := t) (o := .tup [.int 1, .int 2])) hp
      refine q p [t] _ (upd_free hp) (sm_new (same_new ht) (upd_free hp)) upd_same (PairsAt.snoc (as := []) (ps := []) (p := (1, 2)) PairsAt.nil (SqT.of ((upd_ne n1).trans upd_same)))
    · refine ⟨Nat.zero_le _, fun l hl => ?_⟩
      have hW : waysN n = waysTo n (n.log2 - 1) := by
        unfold waysN
        rcases Nat.eq_zero_or_pos n with h | h
        · subst h
          rfl
        · rw [if_neg (by omega), if_neg (by omega)]
      refine ⟨by omega, by omega, by omega, by omega, for_r (fun i σ H' => ∃ (as : List Addr) (v2 v3 : Option V), σ = [some (.int (n : Int)), some (.ref l), v2, v3] ∧ Same H H' ∧ H' l = some (.lst (as.map V.ref)) ∧ as.length ≤ i ∧ PairsAt K H' as ((waysTo n (min i (n.log2 - 1))).map zz)) ⟨[], _, _, rfl, same_new hl, upd_same, Nat.le_refl _, by rw [Nat.zero_min]; exact PairsAt.nil⟩ ?_ ?_⟩
      · rintro i σ H1 hi ⟨as, v2, v3, rfl, s1, hL, hal, hP⟩ N hN
        have hi : i < 133 := hi
        have e1 : (2 : Int) + (i : Int) = ((2 + i : Nat) : Int) := by omega
        walk_at "r"
        rw [e1]
        refine ⟨2, 2 + i, 2, rfl, by omega, by omega, by omega, ?_⟩
        walk_at "r"
        refine ite2 (fun hc => ?_) (fun hc => hN _ _ ⟨as, _, _, rfl, s1, hL, by omega, ?_⟩)
        · have hc : 2 ^ (2 + i) ≤ n := by omega
          have hi2 : 2 + i ≤ n.log2 := by
            have hn0 : n ≠ 0 := fun z => by
              have := Nat.two_pow_pos (2 + i)
              omega
            rcases Nat.lt_or_ge n.log2 (2 + i) with h | h
            · have := (Nat.log2_lt hn0).mp h
              omega
            · exact h
          have em : min (i + 1) (n.log2 - 1) = i + 1 := Nat.min_eq_left (by omega)
          have em0 : min i (n.log2 - 1) = i := Nat.min_eq_left (by omega)
          rw [em0] at hP
          have hrb : rootN n (2 + i) < 2 ^ 134 := by
            have h1 := rootN_le (n := n) (e := 2 + i) (by omega)
            have h2 : rootN n (2 + i) ≤ rootN n (2 + i) ^ (2 + i) := Nat.le_self_pow (by omega) _
            omega
          refine ⟨n, 2 + i, 134, rfl, by omega, hn, by omega, rootN n (2 + i), 2 + i, 134, rfl, hrb, by omega, by omega, rfl, ?_⟩
          have hstep : waysTo n (i + 1) = waysTo n i ++ (if rootN n (2 + i) ^ (2 + i) = n then [(rootN n (2 + i), 2 + i)] else []) := by
            rw [waysTo_succ]
            unfold wayAt
            rw [show i + 2 = 2 + i by omega]
            split <;> rfl
          refine ite2 (fun he => ?_) (fun he => hN _ _ ⟨as, _, _, rfl, s1, hL, by omega, ?_⟩)
          · have he : rootN n (2 + i) ^ (2 + i) = n := by
              injection he with he
              omega
            refine ⟨ty_list (SqL.of hL), by omega, fun u hu => ?_⟩
            have nu := ne_of_none hL hu
            refine r_app ((upd_ne nu).trans hL) (by rw [List.length_map]; omega) ?_
            refine hN _ _ ⟨as ++ [u], _, _, rfl, sm_new (s1.trans (same_new hu)) hl, by rw [upd_same, List.map_append]; rfl, by rw [List.length_append]; show _ + 1 ≤ _; omega, ?_⟩
            rw [em, hstep, if_pos he, List.map_append]
            exact ((hP.same (same_new hu)).upd ((upd_ne nu).trans hL)).snoc (SqT.of ((upd_ne nu.symm).trans upd_same))
          · have he : rootN n (2 + i) ^ (2 + i) ≠ n := fun z => he (by rw [z])
            rw [em, hstep, if_neg he, List.append_nil]
            exact hP
        · have hc : n < 2 ^ (2 + i) := by omega
          have em : min (i + 1) (n.log2 - 1) = min i (n.log2 - 1) := by
            rcases Nat.eq_zero_or_pos n with h | h
            · subst h
              simp
            · have := (Nat.log2_lt (by omega)).mpr hc
              omega
          rw [em]
          exact hP
      · rintro σ H1 ⟨as, v2, v3, rfl, s1, hL, hal, hP⟩
        walk_at "r"
        refine q l as _ hl s1 hL ?_
        rw [hW]
        have hlog : n.log2 - 1 ≤ 133 := by
          rcases Nat.eq_zero_or_pos n with h | h
          · subst h
            decide
          · have := (Nat.log2_lt (by omega)).mpr hn
            omega
        have e : min ((135 : Int) - 2).toNat (n.log2 - 1) = n.log2 - 1 := Nat.min_eq_right hlog
        rw [e] at hP
        exact hP
end
abbrev s__law_number : Stmt := top 74
theorem sc__law_number : FnScope ["seed", "most", "far", "exponent", "base", "some"] ["seed", "most"] (defScope s__law_number) := ⟨rfl, rfl, rfl, by decide +kernel, rfl, by decide +kernel, by decide +kernel⟩
def sp__law_number (K : PySem.W.Frag) : Sp := fun vs H Q _ => ∃ (a : Addr) (m : Nat), vs = [.ref a, .int (m : Int)] ∧ Sd H a ∧ 1 ≤ m ∧ m ≤ 10 ^ 40 ∧ ∀ (r : Nat) (H' : Hp), Kp a H H' → Sd H' a → r ≤ m → Q (.int (r : Int)) H'
section
variable {P : Program} {w : World} {K : PySem.W.Frag} {mg : PySem.Str → Option Value} {base : Heap}
theorem bi__law_number {f : Addr} {fd : FuncData} (F : Fun K "_law_number" "_law_number" s__law_number f fd) : Binds K fd ["seed", "most"] [] := F.binds (ps := ["seed", "most"]) fun _ _ _ _ _ _ us hl => match us, hl with | [_, _], _ => rfl
set_option maxHeartbeats 4000000 in
theorem ok__law_number {f : Addr} {fd : FuncData} (F : Fun K "_law_number" "_law_number" s__law_number f fd) (B : Bt mg)  (h__law_draw : Fn P w K mg base CX0 1 "_law_draw" ["seed", "most"] (sp__law_draw K)) (h__law_root : Fn P w K mg base CX0 2 "_law_root" ["number", "exponent"] (sp__law_root K)) (h__law_taken : Fn P w K mg base CX0 1 "_law_taken" ["base", "exponent"] (sp__law_taken K)) : FnOk P w K mg base CX0 3 f fd ["seed", "most"] (sp__law_number K) := by
  refine F.ok sc__law_number (fun vs H Q E h => ?_) (fun cdv A outer s H vs Q E hr h => ?_)
  · obtain ⟨a, m, rfl, hD, hm1, hm, q⟩ := h
    rfl
  · obtain ⟨a, m, rfl, hD, hm1, hm, q⟩ := h
    refine ⟨_, (pss_cons (ps_set (i := 2) sc__law_number.nd rfl (Or.inl rfl) (pe_op op_add (pe_op op_add (pe_op op_mulW (pe_fn h__law_draw (hr.mono (by decide)) (by rfl) (pa_cons (pv 0) (pa_cons (pe_op op_pow pe_int pe_int) pa_nil))) (pe_op op_pow pe_int pe_int)) (pe_op op_mulW (pe_fn h__law_draw (hr.mono (by decide)) (by rfl) (pa_cons (pv 0) (pa_cons (pe_op op_pow pe_int pe_int) pa_nil))) (pe_op op_pow pe_int pe_int))) (pe_fn h__law_draw (hr.mono (by decide)) (by rfl) (pa_cons (pv 0) (pa_cons (pe_op op_pow pe_int pe_int) pa_nil)))))
      (pss_cons (ps_set (i := 3) sc__law_number.nd rfl (Or.inl rfl) (pe_op op_add pe_int (pe_fn h__law_draw (hr.mono (by decide)) (by rfl) (pa_cons (pv 0) (pa_cons (pe_ix (k_ixL K) (pe_lst (pa_cons pe_int (pa_cons pe_int (pa_cons pe_int pa_nil)))) (pe_fn h__law_draw (hr.mono (by decide)) (by rfl) (pa_cons (pv 0) (pa_cons pe_int pa_nil))) (fun _ _ => rfl)) pa_nil)))))
      (pss_cons (ps_set (i := 4) sc__law_number.nd rfl (Or.inl rfl) (pe_op op_add pe_int (pe_op op_mod (pv 2) (pe_callB (call_max2 rfl) (by rfl) B.max (by decide +kernel) (pa_cons pe_int (pa_cons (pe_op op_sub (pe_fn h__law_root (hr.mono (by decide)) (by rfl) (pa_cons (pv 1) (pa_cons (pv 3) pa_nil))) pe_int) pa_nil))))))
      (pss_cons (ps_set (i := 5) sc__law_number.nd rfl (Or.inl rfl) (pe_lst (pa_cons (pe_fn h__law_draw (hr.mono (by decide)) (by rfl) (pa_cons (pv 0) (pa_cons pe_int pa_nil))) (pa_cons (pe_op op_sub (pe_op op_add (pe_fn h__law_taken (hr.mono (by decide)) (by rfl) (pa_cons (pv 4) (pa_cons (pv 3) pa_nil))) (pe_fn h__law_draw (hr.mono (by decide)) (by rfl) (pa_cons (pv 0) (pa_cons pe_int pa_nil)))) pe_int) (pa_cons (pe_op op_mod (pv 2) (pe_op op_add (pv 1) pe_int)) (pa_cons (pe_op op_mulW (pv 4) (pv 4)) pa_nil))))))
      (pss_one (ps_ret (pe_callB (call_min2 rfl) (by rfl) B.min (by decide +kernel) (pa_cons (pv 1) (pa_cons (pe_ix (k_ixL K) (pv 5) (pe_fn h__law_draw (hr.mono (by decide)) (by rfl) (pa_cons (pv 0) (pa_cons pe_int pa_nil))) (fun _ _ => rfl)) pa_nil))))))))), ?_⟩
    have e9 : (10 : Int) ^ Int.toNat 9 = 1000000000 := rfl
    have c9 : CPow 10 9 := by unfold CPow; omega
    have c31 : CPow 10 31 := by unfold CPow; omega
    have c20 : CPow 10 20 := by unfold CPow; omega
    walk_at "w"
    rw [e9]
    refine ⟨c9, use_draw (Kp.refl a H) hD (by omega) (by omega) fun d1 H1 _ K1 D1 a1 b1 => ?_⟩
    walk_at "w"
    have e31 : (10 : Int) ^ Int.toNat 31 = 10000000000000000000000000000000 := rfl
    have e20 : (10 : Int) ^ Int.toNat 20 = 100000000000000000000 := rfl
    rw [e31]
    refine ⟨c31, wide_mul (a := 128) (b := 128) (by omega) (by omega) (by decide) (by decide) (by decide), c9, use_draw K1 D1 (by omega) (by omega) fun d2 H2 _ K2 D2 a2 b2 => ?_⟩
    walk_at "w"
    rw [e20]
    refine ⟨c20, wide_mul (a := 128) (b := 128) (by omega) (by omega) (by decide) (by decide) (by decide), c9, use_draw K2 D2 (by omega) (by omega) fun d3 H3 _ K3 D3 a3 b3 => ?_⟩
    walk_at "w"
    refine ⟨by show 3 ≤ sizeLine; decide, fun p1 hp1 => ?_⟩
    refine use_pick (fun v => ∃ z : Int, v = .int z ∧ 3 ≤ z ∧ z ≤ 60) (fun x hx => by
      simp only [List.mem_cons, List.not_mem_nil, or_false] at hx
      rcases hx with rfl | rfl | rfl <;> exact ⟨_, rfl, by omega, by omega⟩) K3 D3 hp1 rfl (by omega) (by omega) fun v H4 hv _ K4 D4 => ?_
    obtain ⟨z, rfl, z1, z2⟩ := hv
    refine use_draw K4 D4 (by omega) (by omega) fun r5 H5 _ K5 D5 a5 b5 => ?_
    obtain ⟨F, hF⟩ : ∃ F : Nat, d1 * 10000000000000000000000000000000 + d2 * 100000000000000000000 + d3 = (F : Int) := ⟨_, (Int.toNat_of_nonneg (by omega)).symm⟩
    rw [hF]
    obtain ⟨r5, rfl⟩ := Int.eq_ofNat_of_zero_le a5
    obtain ⟨e, he⟩ : ∃ e : Nat, (2 : Int) + (r5 : Int) = (e : Int) := ⟨2 + r5, by omega⟩
    walk_at "w"
    rw [he]
    have he2 : 2 ≤ e ∧ e ≤ 62 := by omega
    have h134 : (10 : Nat) ^ 40 < 2 ^ 134 := by decide
    walk_at "w"
    refine ⟨m, e, 134, rfl, by omega, by omega, by omega, ?_⟩
    have hR : rootN m e ≤ m := Nat.le_trans (Nat.le_self_pow (by omega) _) (rootN_le (n := m) (e := e) (by omega))
    generalize rootN m e = R at hR ⊢
    walk_at "w"
    obtain ⟨W, hW, hW1, hW2⟩ : ∃ W : Nat, (if (R : Int) - 1 > 1 then (R : Int) - 1 else 1) = (W : Int) ∧ 1 ≤ W ∧ W ≤ m := by
      by_cases c : (R : Int) - 1 > 1
      · exact ⟨R - 1, by rw [if_pos c]; omega, by omega, by omega⟩
      · exact ⟨1, by rw [if_neg c]; rfl, by omega, by omega⟩
    rw [hW]
    have hmod : (F : Int) % (W : Int) = ((F % W : Nat) : Int) := by push_cast; rfl
    have hlt : F % W < W := Nat.mod_lt _ (by omega)
    obtain ⟨b, hb⟩ : ∃ b : Nat, (2 : Int) + ((F % W : Nat) : Int) = (b : Int) := ⟨2 + F % W, by omega⟩
    rw [hmod, hb]
    have hb2 : 2 ≤ b ∧ b < 2 ^ 134 := by omega
    refine ⟨by omega, use_draw K5 D5 (by omega) (by omega) fun r6 H6 _ K6 D6 a6 b6 => ?_⟩
    obtain ⟨r6, rfl⟩ := Int.eq_ofNat_of_zero_le a6
    walk_at "w"
    refine ⟨b, e, 134, rfl, hb2.2, by omega, by omega, ?_⟩
    have hpe : 1 ≤ b ^ e := Nat.pow_pos (by omega)
    walk_at "w"
    refine use_draw K6 D6 (by omega) (by omega) fun r7 H7 _ K7 D7 a7 b7 => ?_
    obtain ⟨r7, rfl⟩ := Int.eq_ofNat_of_zero_le a7
    have hm0 : (F : Int) % ((m : Int) + 1) = ((F % (m + 1) : Nat) : Int) := by
      have : (m : Int) + 1 = ((m + 1 : Nat) : Int) := by omega
      rw [this]
      push_cast
      rfl
    have hbb : (b : Int) * (b : Int) = ((b * b : Nat) : Int) := by push_cast; rfl
    have hpr : ((b ^ e : Nat) : Int) + (r7 : Int) - 1 = ((b ^ e + r7 - 1 : Nat) : Int) := by omega
    walk_at "w"
    rw [hm0, hbb, hpr]
    refine ⟨by omega, wide_mul (a := 140) (b := 140) (by omega) (by omega) (by decide) (by decide) (by decide), by show 4 ≤ sizeLine; decide, fun p2 hp2 => ?_⟩
    refine use_pick (fun v => ∃ z : Nat, v = .int (z : Int)) (fun x hx => by
      simp only [List.mem_cons, List.not_mem_nil, or_false] at hx
      rcases hx with rfl | rfl | rfl | rfl <;> exact ⟨_, rfl⟩) K7 D7 hp2 rfl (by omega) (by omega) fun v H8 hv _ K8 D8 => ?_
    obtain ⟨y, rfl⟩ := hv
    walk_at "w"
    by_cases c : y < m
    · rw [if_pos (by omega)]
      exact q y H8 K8 D8 (by omega)
    · rw [if_neg (by omega)]
      exact q m H8 K8 D8 (Nat.le_refl _)
end
abbrev s__law_text : Stmt := top 75
theorem sc__law_text : FnScope ["seed", "number", "ways", "base", "exponent"] ["seed", "number"] (defScope s__law_text) := ⟨rfl, rfl, rfl, by decide +kernel, rfl, by decide +kernel, by decide +kernel⟩
def sp__law_text (K : PySem.W.Frag) : Sp := fun vs H Q _ => ∃ (a : Addr) (n : Nat), vs = [.ref a, .int (n : Int)] ∧ Sd H a ∧ n ≤ 10 ^ 12 ∧ ∀ (z : PySem.Str) (H' : Hp), Kp a H H' → Sd H' a → TextOf z n → Q (.str z) H'
theorem sqT_kp {K : PySem.W.Frag} {H H' : Hp} {a b : Addr} {xs : List V} (h : SqT K H b xs) (hD : ∃ acc, H a = some (.lst acc)) (k : Kp a H H') : SqT K H' b xs := by
  obtain ⟨acc, hD⟩ := hD
  rcases h with (h | ⟨u, h⟩) | h
  · exact SqT.of (k _ _ (ne_of h hD fun e => by cases e) h)
  · exact .inl (.inr ⟨u, k _ _ (ne_of h hD fun e => by cases e) h⟩)
  · exact .inr h
section
variable {P : Program} {w : World} {K : PySem.W.Frag} {mg : PySem.Str → Option Value} {base : Heap}
theorem bi__law_text {f : Addr} {fd : FuncData} (F : Fun K "_law_text" "_law_text" s__law_text f fd) : Binds K fd ["seed", "number"] [] := F.binds (ps := ["seed", "number"]) fun _ _ _ _ _ _ us hl => match us, hl with | [_, _], _ => rfl
set_option maxHeartbeats 4000000 in
theorem ok__law_text {f : Addr} {fd : FuncData} (F : Fun K "_law_text" "_law_text" s__law_text f fd) (B : Bt mg) (g_DIG : NoDig K) (h__law_ways : Fn P w K mg base CX0 3 "_law_ways" ["number"] (sp__law_ways K)) (h__law_draw : Fn P w K mg base CX0 1 "_law_draw" ["seed", "most"] (sp__law_draw K)) : FnOk P w K mg base CX0 4 f fd ["seed", "number"] (sp__law_text K) := by
  refine F.ok sc__law_text (fun vs H Q E h => ?_) (fun cdv A outer s H vs Q E hr h => ?_)
  · obtain ⟨a, n, rfl, hD, hn, q⟩ := h
    rfl
  · obtain ⟨a, n, rfl, hD, hn, q⟩ := h
    refine ⟨_, (pss_cons (ps_set (i := 2) sc__law_text.nd rfl (Or.inl rfl) (pe_fn h__law_ways (hr.mono (by decide)) (by rfl) (pa_cons (pv 1) pa_nil)))
      (pss_cons (ps_if (PW.pt (pw_or (pt_cmpR (k_eqD K rfl hr.units) (pv 2) (pe_lst pa_nil) (nomark _)) (pw_or1 (pt_cmpR op_eq (pe_fn h__law_draw (hr.mono (by decide)) (by rfl) (pa_cons (pv 0) (pa_cons pe_int pa_nil))) pe_int (nomark _)))))
        (pss_one (ps_ret (pe_joined1 (k_fmtN K g_DIG (pv 1)))))
        pss_nil)
      (pss_cons (ps_asg (pe_ix (k_ixL K) (pv 2) (pe_fn h__law_draw (hr.mono (by decide)) (by rfl) (pa_cons (pv 0) (pa_cons (pe_callB (k_len K) (by rfl) B.len (by decide +kernel) (pa_cons (pv 2) pa_nil)) pa_nil))) (fun _ _ => rfl)) (pg_tup rfl (pgs_cons (pg_name (i := 3) sc__law_text.nd rfl (Or.inl rfl)) (pgs_cons (pg_name (i := 4) sc__law_text.nd rfl (Or.inl rfl)) pgs_nil))))
      (pss_one (ps_ret (k_join3 (k_fmtN K g_DIG (pv 3)) pe_str (k_fmtN K g_DIG (pv 4)))))))), ?_⟩
    have sz : 2000 ≤ sizeLine := by decide
    walk_at "r"
    refine ⟨n, rfl, Nat.lt_of_le_of_lt hn (by decide), fun t as H1 ht s1 hL hP => ?_⟩
    walk_at "r"
    have hn50 : n < 10 ^ 50 := Nat.lt_of_le_of_lt hn (by decide)
    have hTn : TextOf (sN n) n := .inl ⟨tl_sN n, Nat.lt_of_le_of_lt hn (by decide)⟩
    refine ⟨by omega, fun p hp => ?_⟩
    have s2 := s1.trans (same_new (o := .lst []) hp)
    have hL2 := (same_new (o := .lst []) hp) _ _ hL
    have hP2 := hP.same (same_new (o := .lst []) hp)
    refine r_eqLP (as := as) (bs := []) (ms := []) (SqL.of hL2) hP2 (SqL.of upd_same) PairsAt.nil ⟨_, rfl, ?_⟩
    generalize upd H1 p (.lst []) = H2 at s2 hL2 hP2 ⊢
    have d2 := hD.same s2
    have nta : t ≠ a := hD.ne ht
    refine ite2 (fun _ => ⟨(small_txt hn50).1, q _ _ (sm_kp s2) d2 hTn⟩) (fun hne => ?_)
    have hne : (waysN n).map zz ≠ [] := by simpa using hne
    refine use_draw (sm_kp s2) d2 (by omega) (by omega) fun r H3 k3 K3 d3 a3 b3 => ⟨rfl, ite2 (fun _ => ⟨(small_txt hn50).1, q _ _ K3 d3 hTn⟩) (fun _ => ?_)⟩
    have hL3 := k3 _ _ nta hL2
    have hlen : 1 ≤ (as.map V.ref).length := by
      rw [List.length_map, hP2.1]
      exact List.length_pos_iff.mpr hne
    have hlog : (as.map V.ref).length ≤ 200 := by
      rw [List.length_map, hP2.1, List.length_map]
      unfold waysN
      split
      · simp
      · split
        · simp
        · rename_i h0 _
          refine Nat.le_trans (List.length_filterMap_le _ _) ?_
          rw [List.length_range]
          have := (Nat.log2_lt h0).mpr (Nat.lt_of_le_of_lt hn (by decide : 10 ^ 12 < 2 ^ 40))
          omega
    refine r_len (SqL.of hL3) (use_draw K3 d3 (by omega) (by omega) fun r4 H4 k4 K4 d4 a4 b4 => ?_)
    obtain ⟨j, rfl⟩ := Int.eq_ofNat_of_zero_le a4
    have hj : j < (as.map V.ref).length := by omega
    have hat := List.getElem?_eq_getElem hj
    obtain ⟨c, pp, ec, hpp, hc⟩ := hP2.at hat
    rw [ec] at hat
    obtain ⟨⟨b, e⟩, hbe, rfl⟩ := List.mem_map.mp (List.mem_of_getElem? hpp)
    obtain ⟨g1, g2, g3, g4, g5⟩ := way_is hbe
    have hc4 := sqT_kp hc d2.lst (k3.trans k4)
    refine r_ixL (SqL.of (k4 _ _ nta hL3)) (atI_nat hat) ⟨c, rfl, _, hc4, rfl, _, _, rfl, _, _, rfl, rfl, ?_⟩
    have hb12 : b ≤ 10 ^ 12 := Nat.le_trans (Nat.le_trans (Nat.le_self_pow (by omega) b) (Nat.le_of_eq g2)) hn
    have he200 : e ≤ 200 := by
      rcases (by omega : b = 1 ∨ 2 ≤ b) with w | w
      · subst w
        rw [Nat.one_pow] at g2
        subst g2
        have h6 : (1, e) ∈ [(1, 2)] := hbe
        simp at h6
        subst h6
        decide
      · have h6 : 2 ^ e ≤ b ^ e := Nat.pow_le_pow_left w e
        have h7 : n < 2 ^ 40 := Nat.lt_of_le_of_lt hn (by decide)
        have := (Nat.pow_lt_pow_iff_right (by omega : 1 < 2)).mp (Nat.lt_of_le_of_lt h6 (by omega : b ^ e < 2 ^ 40))
        omega
    obtain ⟨x1, x2⟩ := small_txt (x := b) (Nat.lt_of_le_of_lt hb12 (by decide))
    obtain ⟨y1, y2⟩ := small_txt (x := e) (Nat.lt_of_le_of_lt he200 (by decide))
    have el : ("^" : PySem.Str).length = 1 := by decide +kernel
    have l1 : (Str.ofString (toString (b : Int)) ++ "^").length ≤ 51 := by
      rw [len_app, el]
      omega
    have l2 : (Str.ofString (toString (b : Int)) ++ "^" ++ Str.ofString (toString (e : Int))).length ≤ 120 := by
      rw [len_app]
      omega
    simp only [empty_app]
    refine ⟨(b : Int), rfl, x1, by show (Str.ofString (toString (b : Int))).length ≤ sizeLine; omega, by show (Str.ofString (toString (b : Int)) ++ "^").length ≤ sizeLine; omega, (e : Int), rfl, y1, by show (Str.ofString (toString (b : Int)) ++ "^" ++ Str.ofString (toString (e : Int))).length ≤ sizeLine; omega, ?_⟩
    refine q _ _ K4 d4 (.inr ⟨b, e, ?_, Nat.lt_of_le_of_lt hb12 (by decide), he200, g2.symm⟩)
    rw [TL.tl_append, TL.tl_append]
    show TL.tl (sN b) ++ TL.tl "^" ++ TL.tl (sN e) = _
    rw [tl_sN, tl_sN, show TL.tl ("^" : PySem.Str) = [94] by decide +kernel]
    simp
end
abbrev s__law_powers : Stmt := top 76
theorem sc__law_powers : FnScope ["most", "found", "base", "power"] ["most"] (defScope s__law_powers) := ⟨rfl, rfl, rfl, by decide +kernel, rfl, by decide +kernel, by decide +kernel⟩
/-- all powers to m, rising -/
def PowsL (m : Nat) (L : List Nat) : Prop := L.Pairwise (· < ·) ∧ (∀ x, x ∈ L ↔ IsPow x ∧ x ≤ m) ∧ L.length ≤ 400000
def sp__law_powers (K : PySem.W.Frag) : Sp := fun vs H Q _ => ∃ (m : Nat), vs = [.int (m : Int)] ∧ m ≤ 10 ^ 8 ∧ ∀ (t : Addr) (L : List Nat) (H' : Hp), H t = none → Same H H' → H' t = some (.lst ((ofN L).map V.int)) → PowsL m L → Q (.ref t) H'
section
variable {P : Program} {w : World} {K : PySem.W.Frag} {mg : PySem.Str → Option Value} {base : Heap}
theorem bi__law_powers {f : Addr} {fd : FuncData} (F : Fun K "_law_powers" "_law_powers" s__law_powers f fd) : Binds K fd ["most"] [] := F.binds (ps := ["most"]) fun _ _ _ _ _ _ us hl => match us, hl with | [_], _ => rfl
set_option maxHeartbeats 4000000 in
theorem ok__law_powers {f : Addr} {fd : FuncData} (F : Fun K "_law_powers" "_law_powers" s__law_powers f fd) (B : Bt mg)   : FnOk P w K mg base CX0 1 f fd ["most"] (sp__law_powers K) := by
  refine F.ok sc__law_powers (fun vs H Q E h => ?_) (fun cdv A outer s H vs Q E hr h => ?_)
  · obtain ⟨m, rfl, hm, q⟩ := h
    rfl
  · obtain ⟨m, rfl, hm, q⟩ := h
    refine ⟨_, (pss_cons (ps_set (i := 1) sc__law_powers.nd rfl (Or.inl rfl) pe_dnewK)
      (Evl.pss_cut (ps_if (pt_cmpR op_gt (pv 0) pe_int (nomark _))
        (pss_one (ps_dput (hu_of hr) (pv 1) pe_int pe_bl rfl))
        pss_nil)
      (pss_cons (ps_set (i := 2) sc__law_powers.nd rfl (Or.inl rfl) pe_int)
      (pss_cons (ps_while PassesOwn.never (pt_cmpR op_le (pe_op op_mulW (pv 2) (pv 2)) (pv 0) (nomark _))
        (pss_cons (ps_set (i := 3) sc__law_powers.nd rfl (Or.inl rfl) (pe_op op_mulW (pv 2) (pv 2)))
        (pss_cons (ps_while PassesOwn.never (pt_cmpR op_le (pv 3) (pv 0) (nomark _))
          (pss_cons (ps_dput (hu_of hr) (pv 1) (pv 3) pe_bl rfl)
          (pss_one (ps_set (i := 3) sc__law_powers.nd rfl (Or.inl rfl) (pe_op op_mulW (pv 3) (pv 2))))))
        (pss_one (ps_set (i := 2) sc__law_powers.nd rfl (Or.inl rfl) (pe_op op_add (pv 2) pe_int))))))
      (pss_one (ps_ret (pe_callB DicS.cr_sortD (by rfl) B.sorted (by decide +kernel) (pa_cons (pv 1) pa_nil)))))))), ?_⟩
    have sz : 500000 ≤ sizeLine := by decide
    have h27 : m < 2 ^ 27 := Nat.lt_of_le_of_lt hm (by decide)
    have cm : ∀ x y : Nat, x < 2 ^ 64 → y < 2 ^ 64 → CMulW (x : Int) (y : Int) := fun x y h1 h2 => wide_mul (a := 64) (b := 64) (by omega) (by omega) (by decide) (by decide) (by decide)
    have mul : ∀ x y : Nat, (x : Int) * (y : Int) = ((x * y : Nat) : Int) := fun x y => by push_cast; rfl
    walk_at "r"
    intro p hp
    refine cut_m (fun σ H' => ∃ ks : List Nat, σ = [some (.int (m : Int)), some (.ref p), none, none] ∧ Same H H' ∧ H' p = some (.dK (dN ks fun _ => .bl true)) ∧ ks.Nodup ∧ ks.length ≤ 1 ∧ ∀ x, x ∈ ks ↔ x = 1 ∧ 1 ≤ m) (fun N hN => ?_) ?_
    · walk_at "r"
      refine ite2 (fun h0 => ?_) (fun h0 => hN _ _ ⟨[], rfl, same_new hp, upd_same, List.nodup_nil, by simp, fun x => ⟨fun h => by simp at h, fun ⟨_, h⟩ => by omega⟩⟩)
      refine ⟨_, dN_any (ks := []) (m := 1) (v := .bl true) upd_same (by show 0 < sizeLine; omega), ?_⟩
      exact hN _ _ ⟨[1], rfl, sm_new (same_new hp) hp, upd_same, by simp, by simp, fun x => ⟨fun h => ⟨by simpa using h, by omega⟩, fun h => by simp [h.1]⟩⟩
    · rintro σ H1 ⟨ks, rfl, s1, hd, hn, hl, hmem⟩
      walk_at "r"
      refine while_m (fun z σ H' => ∃ (b : Nat) (ks : List Nat) (v3 : Option V), σ = [some (.int (m : Int)), some (.ref p), some (.int (b : Int)), v3] ∧ z = 10002 - b ∧ 2 ≤ b ∧ b ≤ 10001 ∧ Same H H' ∧ H' p = some (.dK (dN ks fun _ => .bl true)) ∧ ks.Nodup ∧ ks.length ≤ 1 + 30 * (b - 2) ∧ ∀ x, x ∈ ks ↔ (x = 1 ∧ 1 ≤ m) ∨ ∃ b' e, 2 ≤ b' ∧ b' < b ∧ 2 ≤ e ∧ x = b' ^ e ∧ x ≤ m) 10000 ⟨2, ks, _, rfl, rfl, by omega, by omega, s1, hd, hn, by omega, fun x => (hmem x).trans ⟨.inl, fun h => h.elim id fun ⟨b', e, h1, h2, _⟩ => by omega⟩⟩ ?_
      rintro z σ H2 ⟨b, ks, v3, rfl, rfl, hb2, hb, s2, hd, hn, hl, hmem⟩ G hG
      walk_at "r"
      rw [mul]
      have hbb : b * b ≤ 10001 * 10001 := Nat.mul_le_mul hb hb
      refine ⟨cm _ _ (by omega) (by omega), ite2 (fun hc => hG _ _ fun N hN => ?_) (fun hc => ?_)⟩
      · have hc : b * b ≤ m := by omega
        have hb4 : b ≤ 10000 := by
          rcases Nat.lt_or_ge 10000 b with h | h
          · have : 10001 * 10001 ≤ b * b := Nat.mul_le_mul h h
            omega
          · exact h
        walk_at "r"
        rw [mul]
        refine ⟨cm _ _ (by omega) (by omega), ?_⟩
        refine while_m (fun z σ H' => ∃ (e : Nat) (ks' : List Nat), σ = [some (.int (m : Int)), some (.ref p), some (.int (b : Int)), some (.int ((b ^ e : Nat) : Int))] ∧ z = 30 - e ∧ 2 ≤ e ∧ e ≤ 29 ∧ b ^ (e - 1) ≤ m ∧ Same H H' ∧ H' p = some (.dK (dN ks' fun _ => .bl true)) ∧ ks'.Nodup ∧ ks'.length ≤ ks.length + (e - 2) ∧ ∀ x, x ∈ ks' ↔ x ∈ ks ∨ ∃ e', 2 ≤ e' ∧ e' < e ∧ x = b ^ e') 28 ⟨2, ks, by rw [Nat.pow_two], rfl, by omega, by omega, by rw [Nat.pow_one]; exact Nat.le_trans (Nat.le_mul_of_pos_left b (by omega)) hc, s2, hd, hn, by omega, fun x => ⟨.inl, fun h => h.elim id fun ⟨e', h1, h2, _⟩ => by omega⟩⟩ ?_
        rintro z2 σ H3 ⟨e, ks', rfl, rfl, e2, e29, hpe, s3, hd3, hn3, hl3, hm3⟩ G2 hG2
        have he28 : e - 1 < 27 := by
          have h6 : 2 ^ (e - 1) ≤ b ^ (e - 1) := Nat.pow_le_pow_left hb2 _
          exact (Nat.pow_lt_pow_iff_right (by omega : 1 < 2)).mp (Nat.lt_of_le_of_lt (Nat.le_trans h6 hpe) h27)
        have hps : b ^ e = b ^ (e - 1) * b := by
          rw [← Nat.pow_succ]
          congr 1
          omega
        have hpb : b ^ e ≤ 10 ^ 8 * 10001 := by
          rw [hps]
          exact Nat.mul_le_mul (Nat.le_trans hpe hm) hb
        have h64 : 10 ^ 8 * 10001 < 2 ^ 64 := by decide
        walk_at "r"
        refine ite2 (fun hc2 => hG2 _ _ fun N2 hN2 => ?_) (fun hc2 => ?_)
        · have hc2 : b ^ e ≤ m := by omega
          walk_at "r"
          obtain ⟨g1, g2, g3⟩ := put_nodup (x := b ^ e) hn3
          refine ⟨_, dN_any hd3 (by omega), ?_⟩
          rw [mul, ← Nat.pow_succ]
          refine ⟨cm _ _ (by omega) (by omega), hN2 (30 - (e + 1)) _ _ (by omega) ⟨e + 1, _, rfl, rfl, by omega, by omega, hc2, sm_new s3 hp, upd_same, g1, by omega, fun x => ?_⟩⟩
          rw [g2 x, hm3 x]
          constructor
          · rintro ((y | ⟨e', y1, y2, y3⟩) | y)
            · exact .inl y
            · exact .inr ⟨e', y1, by omega, y3⟩
            · exact .inr ⟨e, e2, by omega, y⟩
          · rintro (y | ⟨e', y1, y2, y3⟩)
            · exact .inl (.inl y)
            · rcases (by omega : e' < e ∨ e' = e) with c | c
              · exact .inl (.inr ⟨e', y1, c, y3⟩)
              · exact .inr (c ▸ y3)
        · have hc2 : m < b ^ e := by omega
          walk_at "r"
          rw [show (b : Int) + 1 = ((b + 1 : Nat) : Int) by omega]
          refine hN (10002 - (b + 1)) _ _ (by omega) ⟨b + 1, ks', _, rfl, rfl, by omega, by omega, s3, hd3, hn3, by omega, fun x => ?_⟩
          rw [hm3 x, hmem x]
          constructor
          · rintro ((y | ⟨b', e', y1, y2, y3, y4, y5⟩) | ⟨e', y1, y2, y3⟩)
            · exact .inl y
            · exact .inr ⟨b', e', y1, by omega, y3, y4, y5⟩
            · refine .inr ⟨b, e', hb2, by omega, y1, y3, ?_⟩
              rw [y3]
              exact Nat.le_trans (Nat.pow_le_pow_right (by omega) (by omega)) hpe
          · rintro (y | ⟨b', e', y1, y2, y3, y4, y5⟩)
            · exact .inl (.inl y)
            · rcases (by omega : b' < b ∨ b' = b) with c | c
              · exact .inl (.inr ⟨b', e', y1, c, y3, y4, y5⟩)
              · subst c
                refine .inr ⟨e', y3, ?_, y4⟩
                rcases Nat.lt_or_ge e' e with d | d
                · exact d
                · have : b' ^ e ≤ b' ^ e' := Nat.pow_le_pow_right (by omega) d
                  omega
      · have hc : m < b * b := by omega
        walk_at "r"
        refine ⟨p, _, ofN ks, rfl, .inl hd, dN_keys ks _, fun ys t hperm hs ht => ?_⟩
        obtain ⟨L, rfl, hL⟩ := perm_ofN hperm
        have hnL := hL.nodup_iff.mpr hn
        refine q t L _ (s2.free ht) (s2.trans (same_new ht)) upd_same ⟨?_, fun x => ?_, by rw [hL.length_eq]; omega⟩
        · have h1 : L.Pairwise (· ≤ ·) := by
            have h2 := List.pairwise_map.mp hs
            exact h2.imp fun {a b} h => by omega
          exact (List.Pairwise.and h1 hnL).imp fun {a b} h => by
            have := h.2
            omega
        · rw [hL.mem_iff, hmem x]
          constructor
          · rintro (⟨rfl, y⟩ | ⟨b', e', y1, y2, y3, y4, y5⟩)
            · exact ⟨isPow_one, y⟩
            · exact ⟨⟨b', e', by omega, y3, y4⟩, y5⟩
          · rintro ⟨⟨b', e', y1, y2, y3⟩, y5⟩
            rcases (by omega : b' = 1 ∨ 2 ≤ b') with c | c
            · subst c
              rw [Nat.one_pow] at y3
              exact .inl ⟨y3, by omega⟩
            · refine .inr ⟨b', e', c, ?_, y2, y3, y5⟩
              rcases Nat.lt_or_ge b' b with d | d
              · exact d
              · have h1 : b * b ≤ b' ^ 2 := by
                  rw [Nat.pow_two]
                  exact Nat.mul_le_mul d d
                have h2 : b' ^ 2 ≤ b' ^ e' := Nat.pow_le_pow_right (by omega) y2
                omega
end
abbrev s__law_often : Stmt := top 77
theorem sc__law_often : FnScope ["number", "found", "prime", "many"] ["number"] (defScope s__law_often) := ⟨rfl, rfl, rfl, by decide +kernel, rfl, by decide +kernel, by decide +kernel⟩
def sp__law_often (K : PySem.W.Frag) : Sp := fun vs H Q _ => ∃ (n : Nat), vs = [.int (n : Int)] ∧ 1 ≤ n ∧ n ≤ 10 ^ 12 ∧ ∀ (t l : Addr) (qs : List (Nat × Nat)) (left : Nat) (R : List Nat) (H' : Hp), H t = none → Same H H' → H' t = some (.lst [.ref l, .int (left : Int)]) → H' l = some (.lst ((ofN (qs.map (·.2))).map V.int)) → KinOf n qs left R → qs.length ≤ 40 → left ≤ n → Q (.ref t) H'
theorem ex_lenL : ∀ {qs : List (Nat × Nat)}, (∀ q ∈ qs, 2 ≤ q.1 ∧ 1 ≤ q.2) → qs.length ≤ (ex qs).length
  | [], _ => Nat.le_refl _
  | q :: qs, h => by
    have e : ex (q :: qs) = List.replicate q.2 q.1 ++ ex qs := rfl
    have ih := ex_lenL (qs := qs) fun x hx => h x (List.mem_cons_of_mem _ hx)
    have h0 := (h q List.mem_cons_self).2
    rw [e, List.length_append, List.length_replicate, List.length_cons]
    omega
theorem pf_len40L {n : Nat} (h1 : 1 ≤ n) (h : n ≤ 10 ^ 12) : (pf n).length < 40 := by
  have h2 : ∀ l : List Nat, (∀ x ∈ l, 2 ≤ x) → 2 ^ l.length ≤ prodL l := by
    intro l
    induction l with
    | nil => intro _; exact Nat.le_refl _
    | cons a l ih =>
      intro hl
      rw [List.length_cons, Nat.pow_succ, prodL_cons, Nat.mul_comm]
      exact Nat.mul_le_mul (hl a List.mem_cons_self) (ih fun x hx => hl x (List.mem_cons_of_mem _ hx))
  have h3 := h2 (pf n) fun x hx => (pf_mem hx).1
  rw [pf_prod h1] at h3
  exact (Nat.pow_lt_pow_iff_right (by omega : 1 < 2)).mp (Nat.lt_of_le_of_lt h3 (Nat.lt_of_le_of_lt h (by decide)))
section
variable {P : Program} {w : World} {K : PySem.W.Frag} {mg : PySem.Str → Option Value} {base : Heap}
theorem bi__law_often {f : Addr} {fd : FuncData} (F : Fun K "_law_often" "_law_often" s__law_often f fd) : Binds K fd ["number"] [] := F.binds (ps := ["number"]) fun _ _ _ _ _ _ us hl => match us, hl with | [_], _ => rfl
set_option maxHeartbeats 4000000 in
theorem ok__law_often {f : Addr} {fd : FuncData} (F : Fun K "_law_often" "_law_often" s__law_often f fd) (B : Bt mg)   : FnOk P w K mg base CX0 1 f fd ["number"] (sp__law_often K) := by
  refine F.ok sc__law_often (fun vs H Q E h => ?_) (fun cdv A outer s H vs Q E hr h => ?_)
  · obtain ⟨n, rfl, hn1, hn, q⟩ := h
    rfl
  · obtain ⟨n, rfl, hn1, hn, q⟩ := h
    refine ⟨_, (pss_cons (ps_set (i := 1) sc__law_often.nd rfl (Or.inl rfl) (pe_lst pa_nil))
      (pss_cons (ps_set (i := 2) sc__law_often.nd rfl (Or.inl rfl) pe_int)
      (pss_cons (ps_while PassesOwn.never (PW.pt (pw_and (pt_cmpR op_le (pv 2) pe_int (nomark _)) (pw_and1 (pt_cmpR op_le (pe_op op_mulW (pv 2) (pv 2)) (pv 0) (nomark _)))))
        (pss_cons (ps_set (i := 3) sc__law_often.nd rfl (Or.inl rfl) pe_int)
        (pss_cons (ps_while PassesOwn.never (pt_cmpR op_eq (pe_op op_mod (pv 0) (pv 2)) pe_int (nomark _))
          (pss_cons (ps_set (i := 0) sc__law_often.nd rfl (Or.inl rfl) (pe_op op_fdivW (pv 0) (pv 2)))
          (pss_one (ps_set (i := 3) sc__law_often.nd rfl (Or.inl rfl) (pe_op op_add (pv 3) pe_int)))))
        (Evl.pss_cut (ps_if (pt_cmpR op_gt (pv 3) pe_int (nomark _))
          (pss_one (ps_expr (pe_bm PySem.F.plainAttrs_list PySem.F.slot_list_append PySem.F.type_list_append mt_append (pv 1) (pa_cons (pv 3) pa_nil))))
          pss_nil)
        (pss_one (ps_set (i := 2) sc__law_often.nd rfl (Or.inl rfl) (pe_op op_add (pv 2) pe_int)))))))
      (pss_one (ps_ret (pe_lst (pa_cons (pv 1) (pa_cons (pv 0) pa_nil)))))))), ?_⟩
    walk_at "z"
    refine ⟨Nat.zero_le _, fun l hl => ?_⟩
    refine while_m (fun z σ H' => ∃ (m d : Nat) (qs : List (Nat × Nat)) (v3 : Option V), σ = [some (.int (m : Int)), some (.ref l), some (.int (d : Int)), v3] ∧ 10002 - d = z ∧ 2 ≤ d ∧ d ≤ 10001 ∧ 1 ≤ m ∧ m ≤ n ∧ Low d m ∧ ex qs ++ pfT d m = pf n ∧ (∀ q ∈ qs, 2 ≤ q.1 ∧ 1 ≤ q.2 ∧ q.1 < d) ∧ (qs.map (·.1)).Nodup ∧ Same H H' ∧ H' l = some (.lst ((ofN (qs.map (·.2))).map V.int))) 10000 ⟨n, 2, [], _, rfl, rfl, by omega, by omega, hn1, Nat.le_refl _, low_2 n, rfl, fun q hq => (by cases hq), List.nodup_nil, same_new hl, upd_same⟩ ?_
    rintro z σ H1 ⟨m, d, qs, v3, rfl, rfl, hd, hd2, hm, hmn, hlow, heq, hqs, hnd, s1, hL⟩ G hG
    have e1 : (d : Int) * (d : Int) = ((d * d : Nat) : Int) := by push_cast; rfl
    have hdd : d * d ≤ 10001 * 10001 := Nat.mul_le_mul hd2 hd2
    have fin : m < d * d * d → 2 ≤ sizeLine ∧ ∀ p, H1 p = none → Q (.ref p) (upd H1 p (.lst [V.ref l, V.int (m : Int)])) := fun h3 => by
      obtain ⟨r1, r2⟩ := rest_two hd hm hlow h3
      have hql : qs.length < 40 := by
        have h1 := ex_lenL (qs := qs) fun q hq => ⟨(hqs q hq).1, (hqs q hq).2.1⟩
        have h2 := pf_len40L hn1 hn
        rw [← heq, List.length_append] at h2
        omega
      refine ⟨by show 2 ≤ sizeLine; decide, fun t ht => ?_⟩
      have st := same_new (o := .lst [V.ref l, V.int (m : Int)]) ht
      exact q t l qs m (pfT d m) _ (s1.free ht) (s1.trans st) upd_same (st _ _ hL) ⟨heq, pfT_prod _ d m (Nat.le_refl _) hd hm, r1, fun p hp hin => by
        obtain ⟨q, hq, rfl⟩ := List.mem_map.mp hin
        have h3 := r2 _ hp
        have h4 := (hqs q hq).2.2
        omega, hnd, fun q hq => ⟨(hqs q hq).1, (hqs q hq).2.1⟩⟩ (by omega) hmn
    have hdm : d * d ≤ d * d * d := Nat.le_mul_of_pos_right _ (by omega)
    walk_at "z"
    rw [e1]
    refine ite2 (fun hw0 => ⟨wide_mul (a := 64) (b := 64) (by omega) (by omega) (by decide) (by decide) (by decide), ite2 (fun hw => hG _ _ fun N hN => ?_) (fun hw => ?_)⟩) (fun hw0 => ?_)
    · have hd3 : d ≤ 10000 := by
        omega
      walk_at "z"
      refine while_m (fun z σ H' => ∃ (m' many : Nat), σ = [some (.int (m' : Int)), some (.ref l), some (.int (d : Int)), some (.int (many : Int))] ∧ H' = H1 ∧ m' = z ∧ 1 ≤ m' ∧ m' ≤ m ∧ Low d m' ∧ ex qs ++ (List.replicate many d ++ pfT d m') = pf n) m ⟨m, 0, rfl, rfl, rfl, hm, Nat.le_refl _, hlow, heq⟩ ?_
      rintro z σ H2 ⟨m2, many, rfl, rfl, rfl, hm2, hm2m, hlow2, heq2⟩ G2 hG2
      walk_at "z"
      refine ⟨by omega, ite2 (fun hw2 => hG2 _ _ fun N2 hN2 => ?_) (fun hw2 => ?_)⟩
      · have hdv : d ∣ m2 := Nat.dvd_of_mod_eq_zero (by omega)
        have hlt : m2 / d < m2 := Nat.div_lt_self (by omega) (by omega)
        have hge : 1 ≤ m2 / d := Nat.div_pos (Nat.le_of_dvd hm2 hdv) (by omega)
        have e3 : (m2 : Int) / (d : Int) = ((m2 / d : Nat) : Int) := by push_cast; rfl
        walk_at "z"
        rw [e3]
        refine ⟨wide_div (b := 64) (by omega) (by omega) (by decide) (by decide), hN2 _ _ _ hlt ⟨m2 / d, many + 1, rfl, rfl, rfl, hge, by omega, low_div hlow2 hdv, ?_⟩⟩
        rw [List.replicate_succ', List.append_assoc, List.singleton_append, ← pfT_dvd hd hm2 hlow2 hdv]
        exact heq2
      · have hnd2 : ¬ d ∣ m2 := fun z => hw2 (by have := Nat.mod_eq_zero_of_dvd z; omega)
        rw [pfT_up hd hnd2] at heq2
        have hlow3 := low_up hlow2 hnd2
        have e4 : (d : Int) + 1 = ((d + 1 : Nat) : Int) := by omega
        have sl : 1000 < sizeLine := by decide
        have hql : qs.length < 40 := by
          have h1 := ex_lenL (qs := qs) fun q hq => ⟨(hqs q hq).1, (hqs q hq).2.1⟩
          have h2 := pf_len40L hn1 hn
          rw [← heq, List.length_append] at h2
          omega
        refine cut_m (fun σ H' => ∃ (qs' : List (Nat × Nat)), σ = [some (.int (m2 : Int)), some (.ref l), some (.int (d : Int)), some (.int (many : Int))] ∧ ex qs' ++ pfT (d + 1) m2 = pf n ∧ (∀ q ∈ qs', 2 ≤ q.1 ∧ 1 ≤ q.2 ∧ q.1 < d + 1) ∧ (qs'.map (·.1)).Nodup ∧ Same H H' ∧ H' l = some (.lst ((ofN (qs'.map (·.2))).map V.int))) (fun N2 hN2 => ?_) ?_
        · walk_at "z"
          refine ite2 (fun hc => ?_) (fun hc => ?_)
          · refine ⟨ty_list (SqL.of hL), r_app hL (by unfold ofN; rw [List.length_map, List.length_map, List.length_map]; omega) ?_⟩
            refine hN2 _ _ ⟨qs ++ [(d, many)], rfl, ?_, fun q hq => ?_, ?_, sm_new s1 hl, by rw [upd_same]; unfold ofN; simp⟩
            · rw [ex_snoc, List.append_assoc]
              exact heq2
            · rcases List.mem_append.mp hq with c | c
              · have := hqs q c
                omega
              · rw [List.mem_singleton] at c
                subst c
                exact ⟨hd, by show 1 ≤ many; omega, by show d < d + 1; omega⟩
            · rw [List.map_append, List.nodup_append]
              refine ⟨hnd, by simp, fun x hx y hy e => ?_⟩
              simp at hy
              obtain ⟨q, hq, rfl⟩ := List.mem_map.mp hx
              have := (hqs q hq).2.2
              omega
          · have h0 : many = 0 := by omega
            subst h0
            exact hN2 _ _ ⟨qs, rfl, heq2, fun q hq => by have := hqs q hq; omega, hnd, s1, hL⟩
        · rintro σ H3 ⟨qs', rfl, g1, g2, g3, g4, g5⟩
          walk_at "z"
          rw [e4]
          exact hN _ _ _ (by omega) ⟨m2, d + 1, qs', _, rfl, rfl, by omega, by omega, hm2, by omega, hlow3, g1, g2, g3, g4, g5⟩
    · walk_at "z"
      exact fin (by omega)
    · walk_at "z"
      have hd1 : d = 10001 := by omega
      refine fin ?_
      rw [hd1]
      omega
end
abbrev s__law_kin : Stmt := top 78
theorem sc__law_kin : FnScope ["number", "exponent", "often", "left", "root", "square", "full", "free", "many"] ["number", "exponent"] (defScope s__law_kin) := ⟨rfl, rfl, rfl, by decide +kernel, rfl, by decide +kernel, by decide +kernel⟩
def pickI (P : Int → Bool) : V → Option V
  | .int i => if P i = true then some (.int i) else none
  | _ => none
theorem filt_pick (P : Int → Bool) : ∀ xs : List Int, (xs.map V.int).filterMap (pickI P) = (xs.filter P).map V.int
  | [] => rfl
  | x :: r => by
    have ih := filt_pick P r
    cases h : P x with
    | true =>
      rw [List.map_cons, List.filterMap_cons, List.filter_cons, h, if_pos rfl, ih]
      simp [pickI, h]
    | false =>
      rw [List.map_cons, List.filterMap_cons, List.filter_cons, h, ih]
      simp [pickI, h]
theorem none_pick {P : Int → Bool} {ks : List Nat} : (ofN ks).filter P = [] ↔ ∀ k ∈ ks, P (k : Int) = false := by
  unfold ofN
  rw [List.filter_eq_nil_iff]
  constructor
  · intro h k hk
    have := h (k : Int) (List.mem_map.mpr ⟨k, hk, rfl⟩)
    simpa using this
  · intro h x hx
    obtain ⟨k, hk, rfl⟩ := List.mem_map.mp hx
    simp [h k hk]
def sp__law_kin (K : PySem.W.Frag) : Sp := fun vs H Q _ => ∃ (n e : Nat), vs = [.int (n : Int), .int (e : Int)] ∧ 1 ≤ n ∧ n ≤ 10 ^ 12 ∧ 2 ≤ e ∧ e ≤ 300 ∧ ∀ (b1 b2 : Bool) (t : Addr) (H' : Hp), H t = none → Same H H' → (b1 = true ↔ FullN n) → (b2 = true ↔ FreeN n e) → H' t = some (.lst [.bl b1, .bl b2]) → Q (.ref t) H'
section
variable {P : Program} {w : World} {K : PySem.W.Frag} {mg : PySem.Str → Option Value} {base : Heap}
theorem bi__law_kin {f : Addr} {fd : FuncData} (F : Fun K "_law_kin" "_law_kin" s__law_kin f fd) : Binds K fd ["number", "exponent"] [] := F.binds (ps := ["number", "exponent"]) fun _ _ _ _ _ _ us hl => match us, hl with | [_, _], _ => rfl
set_option maxHeartbeats 4000000 in
theorem ok__law_kin {f : Addr} {fd : FuncData} (F : Fun K "_law_kin" "_law_kin" s__law_kin f fd) (B : Bt mg)  (h__law_often : Fn P w K mg base CX0 1 "_law_often" ["number"] (sp__law_often K)) (h__law_root : Fn P w K mg base CX0 2 "_law_root" ["number", "exponent"] (sp__law_root K)) : FnOk P w K mg base CX0 3 f fd ["number", "exponent"] (sp__law_kin K) := by
  refine F.ok sc__law_kin (fun vs H Q E h => ?_) (fun cdv A outer s H vs Q E hr h => ?_)
  · obtain ⟨n, e, rfl, hn1, hn, he, he2, q⟩ := h
    rfl
  · obtain ⟨n, e, rfl, hn1, hn, he, he2, q⟩ := h
    refine ⟨_, (pss_cons (ps_asg (pe_fn h__law_often (hr.mono (by decide)) (by rfl) (pa_cons (pv 0) pa_nil)) (k_lstG K rfl (pgs_cons (pg_name (i := 2) sc__law_kin.nd rfl (Or.inl rfl)) (pgs_cons (pg_name (i := 3) sc__law_kin.nd rfl (Or.inl rfl)) pgs_nil))))
      (pss_cons (ps_set (i := 4) sc__law_kin.nd rfl (Or.inl rfl) (pe_fn h__law_root (hr.mono (by decide)) (by rfl) (pa_cons (pv 3) (pa_cons pe_int pa_nil))))
      (Evl.pss_cut (ps_set (i := 5) sc__law_kin.nd rfl (Or.inl rfl) (pe_and (pe_cmpR op_gt (pv 3) pe_int (nomark _)) (pe_one (pe_cmpR op_eq (pe_op op_mulW (pv 4) (pv 4)) (pv 3) (nomark _)))))
      (Evl.pss_cut (ps_set (i := 6) sc__law_kin.nd rfl (Or.inl rfl) (pe_and (pe_cmpR (k_eqD K rfl hr.units) (pe_lc (own := [("many", 8)]) (g := gName 8) rfl sc__law_kin.nd (pi_list (pv 2)) (blkOk_by (own := [("many", 8)]) (N := ["number", "exponent", "often", "left", "root", "square", "full", "free", "many"]) (sc := defScope s__law_kin) (by decide +kernel)) (fun _ _ _ _ _ => (pg_name (i := 8) sc__law_kin.nd rfl (Or.inl rfl))) (fun _ _ _ _ _ => (pts_one (pt_cmpR op_lt (pv 8) pe_int (nomark _)))) (fun _ _ _ _ _ => (pv 8))) (pe_lst pa_nil) (nomark _)) (pe_one (pe_or (pe_cmpR op_eq (pv 3) pe_int (nomark _)) (pe_one (pv 5))))))
      (Evl.pss_cut (ps_set (i := 7) sc__law_kin.nd rfl (Or.inl rfl) (pe_and (pe_cmpR (k_eqD K rfl hr.units) (pe_lc (own := [("many", 8)]) (g := gName 8) rfl sc__law_kin.nd (pi_list (pv 2)) (blkOk_by (own := [("many", 8)]) (N := ["number", "exponent", "often", "left", "root", "square", "full", "free", "many"]) (sc := defScope s__law_kin) (by decide +kernel)) (fun _ _ _ _ _ => (pg_name (i := 8) sc__law_kin.nd rfl (Or.inl rfl))) (fun _ _ _ _ _ => (pts_one (pt_cmpR op_ge (pv 8) (pv 1) (nomark _)))) (fun _ _ _ _ _ => (pv 8))) (pe_lst pa_nil) (nomark _)) (pe_one (pe_not (pe_and (pv 5) (pe_one (pe_cmpR op_eq (pv 1) pe_int (nomark _))))))))
      (pss_one (ps_ret (pe_lst (pa_cons (pv 6) (pa_cons (pv 7) pa_nil)))))))))), ?_⟩
    have sz : 2000 ≤ sizeLine := by decide
    walk_at "r"
    refine ⟨n, rfl, hn1, hn, fun t l qs left R H1 ht s1 hT hL hK hql hleft => ?_⟩
    walk_at "r"
    refine ⟨_, SqL.of hT, rfl, ?_⟩
    walk_at "r"
    have h40 : left < 2 ^ 40 := Nat.lt_of_le_of_lt (Nat.le_trans hleft hn) (by decide)
    refine ⟨left, 2, 40, rfl, by omega, h40, by omega, ?_⟩
    have hsq : (∃ r, left = r * r) ↔ rootN left 2 * rootN left 2 = left := by
      constructor
      · rintro ⟨r, hr⟩
        have : rootN left 2 = r := by rw [hr, ← Nat.pow_two]; exact rootN_pow (by omega)
        rw [this, hr]
      · exact fun h => ⟨_, h.symm⟩
    have hrl := rootN_le (n := left) (e := 2) (by omega)
    rw [Nat.pow_two] at hrl
    generalize rootN left 2 = r at hsq hrl ⊢
    have hr40 : r < 2 ^ 40 := by
      rcases Nat.eq_zero_or_pos r with h | h
      · omega
      · have := Nat.le_mul_of_pos_left r h
        omega
    have cm : CMulW (r : Int) (r : Int) := wide_mul (a := 64) (b := 64) (by omega) (by omega) (by decide) (by decide) (by decide)
    have err : (r : Int) * (r : Int) = ((r * r : Nat) : Int) := by push_cast; rfl
    have hl1 := hK.left_pos
    refine cut_m (fun σ H' => ∃ sq : Bool, σ = [some (.int (n : Int)), some (.int (e : Int)), some (.ref l), some (.int (left : Int)), some (.int (r : Int)), some (.bl sq), none, none, none] ∧ H' = H1 ∧ (sq = true ↔ 1 < left ∧ ∃ x, left = x * x)) (fun N hN => ?_) ?_
    · walk_at "r"
      refine ite2 (fun h1 => ⟨cm, hN _ _ ⟨_, rfl, rfl, ?_⟩⟩) (fun h1 => hN _ _ ⟨_, rfl, rfl, ⟨fun z => (by cases z), fun z => absurd z.1 (by omega)⟩⟩)
      rw [err, hsq, decide_eq_true_eq]
      omega
    · rintro σ H2 ⟨sq, rfl, rfl, hsqb⟩
      refine cut_m (fun σ H' => ∃ b1 : Bool, σ = [some (.int (n : Int)), some (.int (e : Int)), some (.ref l), some (.int (left : Int)), some (.int (r : Int)), some (.bl sq), some (.bl b1), none, none] ∧ Same H2 H' ∧ (b1 = true ↔ FullN n)) (fun N hN => ?_) ?_
      · walk_at "r"
        refine ⟨⟨_, SqL.of hL⟩, lc_l (pickI (fun i => decide (i < 2))) (SqL.of hL) (by unfold ofN; rw [List.length_map, List.length_map, List.length_map]; omega) ?_ ?_⟩
        · intro i x H5 hx s5 N0 N1 n0 nn1
          obtain ⟨j, hj, rfl⟩ := int_at hx
          walk_at "r"
          exact ite2 (fun h => nn1 _ (by simp [pickI]; omega) _ (Same.refl _)) (fun h => n0 (by simp [pickI]; omega) _ (Same.refl _))
        · intro D H5 hD s5 hLL
          rw [filt_pick] at hLL
          refine ⟨by omega, fun u hu => r_eqL (ns := (ofN (qs.map (·.2))).filter (fun i => decide (i < 2))) (ms := []) (SqL.of ((upd_ne (ne_of_none hLL hu)).trans hLL)) (SqL.of upd_same) ⟨_, rfl, ?_⟩⟩
          have s6 := s5.trans (same_new (o := .lst []) hu)
          generalize upd H5 u (.lst []) = H6 at s6 ⊢
          have hnp := none_pick (P := (fun i => decide (i < 2))) (ks := qs.map (·.2))
          have hall : (ofN (qs.map (·.2))).filter (fun i => decide (i < 2)) = [] ↔ ∀ q ∈ qs, 2 ≤ q.2 := by
            rw [hnp]
            constructor
            · intro h q hq
              have := h q.2 (List.mem_map.mpr ⟨q, hq, rfl⟩)
              simp at this
              omega
            · intro h k hk
              obtain ⟨q, hq, rfl⟩ := List.mem_map.mp hk
              have := h q hq
              simp
              omega
          have hf := hK.full
          refine ite2 (fun hc => ite2 (fun h1 => hN _ _ ⟨_, rfl, s6, ?_⟩) (fun h1 => hN _ _ ⟨_, rfl, s6, ?_⟩)) (fun hc => hN _ _ ⟨_, rfl, s6, ?_⟩)
          · have hc := hall.mp (by simpa using hc)
            exact ⟨fun _ => hf.mpr ⟨hc, 1, by omega⟩, fun _ => rfl⟩
          · have hc := hall.mp (by simpa using hc)
            rw [hsqb, hf]
            exact ⟨fun h => ⟨hc, h.2⟩, fun h => ⟨by omega, h.2⟩⟩
          · exact ⟨fun z => (by cases z), fun z => absurd (hall.mpr (hf.mp z).1) (by simpa using hc)⟩
      · rintro σ H3 ⟨b1, rfl, s3, hb1⟩
        refine cut_m (fun σ H' => ∃ b2 : Bool, σ = [some (.int (n : Int)), some (.int (e : Int)), some (.ref l), some (.int (left : Int)), some (.int (r : Int)), some (.bl sq), some (.bl b1), some (.bl b2), none] ∧ Same H2 H' ∧ (b2 = true ↔ FreeN n e)) (fun N hN => ?_) ?_
        · walk_at "r"
          refine ⟨⟨_, SqL.of (s3 _ _ hL)⟩, lc_l (pickI (fun i => decide ((e : Int) ≤ i))) (SqL.of (s3 _ _ hL)) (by unfold ofN; rw [List.length_map, List.length_map, List.length_map]; omega) ?_ ?_⟩
          · intro i x H5 hx s5 N0 N1 n0 nn1
            obtain ⟨j, hj, rfl⟩ := int_at hx
            walk_at "r"
            exact ite2 (fun h => nn1 _ (by simp [pickI]; omega) _ (Same.refl _)) (fun h => n0 (by simp [pickI]; omega) _ (Same.refl _))
          · intro D H5 hD s5 hLL
            rw [filt_pick] at hLL
            refine ⟨by omega, fun u hu => r_eqL (ns := (ofN (qs.map (·.2))).filter (fun i => decide ((e : Int) ≤ i))) (ms := []) (SqL.of ((upd_ne (ne_of_none hLL hu)).trans hLL)) (SqL.of upd_same) ⟨_, rfl, ?_⟩⟩
            have s6 := s5.trans (same_new (o := .lst []) hu)
            generalize upd H5 u (.lst []) = H6 at s6 ⊢
            have hnp := none_pick (P := (fun i => decide ((e : Int) ≤ i))) (ks := qs.map (·.2))
            have hall : (ofN (qs.map (·.2))).filter (fun i => decide ((e : Int) ≤ i)) = [] ↔ ∀ q ∈ qs, q.2 < e := by
              rw [hnp]
              constructor
              · intro h q hq
                have := h q.2 (List.mem_map.mpr ⟨q, hq, rfl⟩)
                simp at this
                omega
              · intro h k hk
                obtain ⟨q, hq, rfl⟩ := List.mem_map.mp hk
                have := h q hq
                simp
                omega
            have hf := hK.free he
            refine ite2 (fun hc => ite2 (fun h1 => hN _ _ ⟨_, rfl, s3.trans s6, ?_⟩) (fun h1 => hN _ _ ⟨_, rfl, s3.trans s6, ?_⟩)) (fun hc => hN _ _ ⟨_, rfl, s3.trans s6, ?_⟩)
            · have hc := hall.mp (by simpa using hc)
              obtain ⟨g1, g2⟩ := hsqb.mp h1
              rw [hf]
              constructor
              · intro z
                refine ⟨hc, fun e2 => ?_⟩
                subst e2
                simp at z
              · rintro ⟨_, z⟩
                obtain ⟨x, hx⟩ := g2
                by_cases e2 : e = 2
                · have := z e2 x hx
                  subst this
                  omega
                · simp
                  omega
            · have hc := hall.mp (by simpa using hc)
              rw [hf]
              refine ⟨fun _ => ⟨hc, fun _ x hx => ?_⟩, fun _ => rfl⟩
              rcases Nat.lt_or_ge 1 left with g | g
              · exact absurd (hsqb.mpr ⟨g, x, hx⟩) h1
              · have hle : left = 1 := by omega
                rw [hle] at hx
                have := Nat.le_mul_of_pos_left x (show 0 < x by
                  rcases Nat.eq_zero_or_pos x with y | y
                  · rw [y] at hx
                    omega
                  · exact y)
                have h0 : 0 < x := by
                  rcases Nat.eq_zero_or_pos x with y | y
                  · rw [y] at hx
                    omega
                  · exact y
                omega
            · exact ⟨fun z => (by cases z), fun z => absurd (hall.mpr (hf.mp z).1) (by simpa using hc)⟩
        · rintro σ H4 ⟨b2, rfl, s4, hb2⟩
          walk_at "r"
          exact ⟨by omega, fun t2 ht2 => q b1 b2 t2 _ (s1.free (s4.free ht2)) (s1.trans (s4.trans (same_new ht2))) hb1 hb2 upd_same⟩
end
abbrev s__law_fair : Stmt := top 79
theorem sc__law_fair : FnScope ["seed", "one", "other", "prime", "some"] ["seed"] (defScope s__law_fair) := ⟨rfl, rfl, rfl, by decide +kernel, rfl, by decide +kernel, by decide +kernel⟩
def sp__law_fair (K : PySem.W.Frag) : Sp := fun vs H Q _ => ∃ (a : Addr), vs = [.ref a] ∧ Sd H a ∧ ∀ (n : Nat) (H' : Hp), Kp a H H' → Sd H' a → 1 ≤ n → n ≤ 10 ^ 12 → Q (.int (n : Int)) H'
section
variable {P : Program} {w : World} {K : PySem.W.Frag} {mg : PySem.Str → Option Value} {base : Heap}
theorem bi__law_fair {f : Addr} {fd : FuncData} (F : Fun K "_law_fair" "_law_fair" s__law_fair f fd) : Binds K fd ["seed"] [] := F.binds (ps := ["seed"]) fun _ _ _ _ _ _ us hl => match us, hl with | [_], _ => rfl
set_option maxHeartbeats 4000000 in
theorem ok__law_fair {f : Addr} {fd : FuncData} (F : Fun K "_law_fair" "_law_fair" s__law_fair f fd) (B : Bt mg)  (h__law_draw : Fn P w K mg base CX0 1 "_law_draw" ["seed", "most"] (sp__law_draw K)) (h__law_number : Fn P w K mg base CX0 3 "_law_number" ["seed", "most"] (sp__law_number K)) : FnOk P w K mg base CX0 4 f fd ["seed"] (sp__law_fair K) := by
  refine F.ok sc__law_fair (fun vs H Q E h => ?_) (fun cdv A outer s H vs Q E hr h => ?_)
  · obtain ⟨a, rfl, hD, q⟩ := h
    rfl
  · obtain ⟨a, rfl, hD, q⟩ := h
    refine ⟨_, (pss_cons (ps_set (i := 1) sc__law_fair.nd rfl (Or.inl rfl) (pe_op op_add pe_int (pe_fn h__law_draw (hr.mono (by decide)) (by rfl) (pa_cons (pv 0) (pa_cons pe_int pa_nil)))))
      (pss_cons (ps_set (i := 2) sc__law_fair.nd rfl (Or.inl rfl) (pe_op op_add pe_int (pe_fn h__law_draw (hr.mono (by decide)) (by rfl) (pa_cons (pv 0) (pa_cons pe_int pa_nil)))))
      (pss_cons (ps_set (i := 3) sc__law_fair.nd rfl (Or.inl rfl) (pe_ix (k_ixL K) (pe_lst (pa_cons pe_int (pa_cons pe_int (pa_cons pe_int (pa_cons pe_int (pa_cons pe_int pa_nil)))))) (pe_fn h__law_draw (hr.mono (by decide)) (by rfl) (pa_cons (pv 0) (pa_cons pe_int pa_nil))) (fun _ _ => rfl)))
      (pss_cons (ps_set (i := 4) sc__law_fair.nd rfl (Or.inl rfl) (pe_lst (pa_cons (pe_op op_mulW (pe_op op_mulW (pe_op op_mulW (pe_op op_mulW (pv 1) (pv 1)) (pv 2)) (pv 2)) (pv 2)) (pa_cons (pe_op op_mulW (pv 3) (pv 3)) (pa_cons (pv 3) (pa_cons (pe_op op_mulW (pv 3) (pv 1)) (pa_cons (pe_callB (call_max2 rfl) (by rfl) B.max (by decide +kernel) (pa_cons pe_int (pa_cons (pe_fn h__law_number (hr.mono (by decide)) (by rfl) (pa_cons (pv 0) (pa_cons (pe_op op_pow pe_int pe_int) pa_nil))) pa_nil))) pa_nil)))))))
      (pss_one (ps_ret (pe_callB (call_max2 rfl) (by rfl) B.max (by decide +kernel) (pa_cons pe_int (pa_cons (pe_callB (call_min2 rfl) (by rfl) B.min (by decide +kernel) (pa_cons (pe_op op_pow pe_int pe_int) (pa_cons (pe_ix (k_ixL K) (pv 4) (pe_fn h__law_draw (hr.mono (by decide)) (by rfl) (pa_cons (pv 0) (pa_cons pe_int pa_nil))) (fun _ _ => rfl)) pa_nil))) pa_nil))))))))), ?_⟩
    have sz : 2000 ≤ sizeLine := by decide
    have e12 : (10 : Int) ^ Int.toNat 12 = ((1000000000000 : Nat) : Int) := rfl
    have c12 : CPow 10 12 := by unfold CPow; omega
    have cm : ∀ x y : Nat, x < 2 ^ 64 → y < 2 ^ 64 → CMulW (x : Int) (y : Int) := fun x y h1 h2 => wide_mul (a := 64) (b := 64) (by omega) (by omega) (by decide) (by decide) (by decide)
    have mul : ∀ x y : Nat, (x : Int) * (y : Int) = ((x * y : Nat) : Int) := fun x y => by push_cast; rfl
    walk_at "r"
    refine use_draw (Kp.refl a H) hD (by omega) (by omega) fun d1 H1 _ K1 D1 a1 b1 => ?_
    walk_at "r"
    refine use_draw K1 D1 (by omega) (by omega) fun d2 H2 _ K2 D2 a2 b2 => ?_
    walk_at "r"
    refine ⟨by omega, fun p1 hp1 => ?_⟩
    refine use_pick (fun v => ∃ z : Nat, v = .int (z : Int) ∧ 1 ≤ z ∧ z ≤ 1000000) (fun x hx => by
      simp only [List.mem_cons, List.not_mem_nil, or_false] at hx
      rcases hx with rfl | rfl | rfl | rfl | rfl
      · exact ⟨999983, rfl, by omega, by omega⟩
      · exact ⟨9973, rfl, by omega, by omega⟩
      · exact ⟨10007, rfl, by omega, by omega⟩
      · exact ⟨2, rfl, by omega, by omega⟩
      · exact ⟨999979, rfl, by omega, by omega⟩) K2 D2 hp1 rfl (by omega) (by omega) fun v H3 hv _ K3 D3 => ?_
    obtain ⟨P, rfl, P1, P2⟩ := hv
    obtain ⟨A, hA, A1, A2⟩ : ∃ A : Nat, (1 : Int) + d1 = (A : Int) ∧ 1 ≤ A ∧ A ≤ 900 := ⟨(1 + d1).toNat, by omega, by omega, by omega⟩
    obtain ⟨B, hB, B1, B2⟩ : ∃ B : Nat, (1 : Int) + d2 = (B : Int) ∧ 1 ≤ B ∧ B ≤ 100 := ⟨(1 + d2).toNat, by omega, by omega, by omega⟩
    walk_at "r"
    simp only [hA, hB, mul]
    have n1 : A * A ≤ 900 * 900 := Nat.mul_le_mul A2 A2
    have n2 : A * A * B ≤ 900 * 900 * 100 := Nat.mul_le_mul n1 B2
    have n3 : A * A * B * B ≤ 900 * 900 * 100 * 100 := Nat.mul_le_mul n2 B2
    refine ⟨cm _ _ (by omega) (by omega), cm _ _ (by omega) (by omega), cm _ _ (by omega) (by omega), cm _ _ (by omega) (by omega), cm _ _ (by omega) (by omega), cm _ _ (by omega) (by omega), c12, ?_⟩
    rw [e12]
    refine ⟨a, 1000000000000, rfl, D3, by omega, by decide, fun r H4 k4 D4 hr => ⟨_, rfl, by omega, fun p hp => ⟨c12, ?_⟩⟩⟩
    refine use_pick (fun v => ∃ z : Int, v = .int z) (fun x hx => by
      simp only [List.mem_cons, List.not_mem_nil, or_false] at hx
      rcases hx with rfl | rfl | rfl | rfl | rfl <;> exact ⟨_, rfl⟩) (K3.trans k4) D4 hp rfl (by omega) (by omega) fun v H5 hv _ K5 D5 => ?_
    obtain ⟨z, rfl⟩ := hv
    walk_at "r"
    obtain ⟨n, hn, n1, n2⟩ : ∃ n : Nat, (if (if z < ((1000000000000 : Nat) : Int) then z else ((1000000000000 : Nat) : Int)) > 1 then (if z < ((1000000000000 : Nat) : Int) then z else ((1000000000000 : Nat) : Int)) else 1) = (n : Int) ∧ 1 ≤ n ∧ n ≤ 10 ^ 12 := by
      by_cases c : z < ((1000000000000 : Nat) : Int)
      · rw [if_pos c]
        by_cases c2 : z > 1
        · rw [if_pos c2]
          exact ⟨z.toNat, by omega, by omega, by omega⟩
        · rw [if_neg c2]
          exact ⟨1, rfl, by omega, by omega⟩
      · rw [if_neg c, if_pos (by omega)]
        exact ⟨1000000000000, rfl, by omega, by omega⟩
    rw [hn]
    exact q n _ K5 D5 n1 n2
end
abbrev s__law_two : Stmt := top 80
theorem sc__law_two : FnScope ["one", "other"] ["one", "other"] (defScope s__law_two) := ⟨rfl, rfl, rfl, by decide +kernel, rfl, by decide +kernel, by decide +kernel⟩
/-- two numbers, parted by a blank -/
def sp__law_two (K : PySem.W.Frag) : Sp := fun vs H Q _ => ∃ (x y : Nat), vs = [.int (x : Int), .int (y : Int)] ∧ x < 10 ^ 50 ∧ y < 10 ^ 50 ∧ Q (.str (rowT " " ((x : Int), (y : Int)))) H
section
variable {P : Program} {w : World} {K : PySem.W.Frag} {mg : PySem.Str → Option Value} {base : Heap}
theorem bi__law_two {f : Addr} {fd : FuncData} (F : Fun K "_law_two" "_law_two" s__law_two f fd) : Binds K fd ["one", "other"] [] := F.binds (ps := ["one", "other"]) fun _ _ _ _ _ _ us hl => match us, hl with | [_, _], _ => rfl
set_option maxHeartbeats 4000000 in
theorem ok__law_two {f : Addr} {fd : FuncData} (F : Fun K "_law_two" "_law_two" s__law_two f fd) (B : Bt mg) (g_DIG : NoDig K)  : FnOk P w K mg base CX0 1 f fd ["one", "other"] (sp__law_two K) := by
  refine F.ok sc__law_two (fun vs H Q E h => ?_) (fun cdv A outer s H vs Q E hr h => ?_)
  · obtain ⟨x, y, rfl, hx, hy, q⟩ := h
    rfl
  · obtain ⟨x, y, rfl, hx, hy, q⟩ := h
    refine ⟨_, (pss_one (ps_ret (k_join3 (k_fmtN K g_DIG (pv 0)) pe_str (k_fmtN K g_DIG (pv 1))))), ?_⟩
    have sz : 2000 ≤ sizeLine := by decide
    obtain ⟨x1, x2⟩ := small_txt hx
    obtain ⟨y1, y2⟩ := small_txt hy
    have e1 : (" " : PySem.Str).length = 1 := by decide +kernel
    have l1 : (Str.ofString (toString (x : Int)) ++ " ").length ≤ 51 := by
      rw [len_app, e1]
      omega
    have l2 : (Str.ofString (toString (x : Int)) ++ " " ++ Str.ofString (toString (y : Int))).length ≤ 120 := by
      rw [len_app]
      omega
    walk_at "r"
    rw [empty_app]
    exact ⟨x1, by omega, by omega, y1, by omega, q⟩
end
abbrev s__law_dues : Stmt := top 81
theorem sc__law_dues : FnScope ["seed", "most", "powers", "apart", "there", "pairs", "number", "below", "known", "some", "sums", "fair", "exponent", "full", "free", "dues", "power"] ["seed"] (defScope s__law_dues) := ⟨rfl, rfl, rfl, by decide +kernel, rfl, by decide +kernel, by decide +kernel⟩
/-- a line, what is due -/
def DueAt (H : Hp) (v : V) : Prop := ∃ (r d : Addr) (z : PySem.Str) (ys : List PySem.Str) (R : List PySem.Str → Prop), v = .ref r ∧ H r = some (.lst [.str z, .ref d]) ∧ H d = some (.lst (ys.map V.str)) ∧ AskR z R ∧ (∀ zs, R zs → zs = ys) ∧ Oks ys ∧ ys.length ≤ 400000
theorem DueAt.same {H H' : Hp} {v : V} (h : DueAt H v) (s : Same H H') : DueAt H' v := by
  obtain ⟨r, d, z, ys, R, h1, h2, h3, h4⟩ := h
  exact ⟨r, d, z, ys, R, h1, s _ _ h2, s _ _ h3, h4⟩
def sp__law_dues (K : PySem.W.Frag) : Sp := fun vs H Q _ => ∃ (a : Addr), vs = [.ref a] ∧ Sd H a ∧ ∀ (t : Addr) (xs : List V) (H' : Hp), Kp a H H' → Sd H' a → H t = none → H' t = some (.lst xs) → (∀ x ∈ xs, DueAt H' x) → Q (.ref t) H'
def pickS (P : Nat → Bool) (g : Nat → PySem.Str) : V → Option V
  | .int i => if P i.toNat = true then some (.str (g i.toNat)) else none
  | _ => none
theorem filt_pickS (P : Nat → Bool) (g : Nat → PySem.Str) : ∀ L : List Nat, ((ofN L).map V.int).filterMap (pickS P g) = ((L.filter P).map g).map V.str
  | [] => rfl
  | x :: r => by
    have ih := filt_pickS P g r
    have e : (ofN (x :: r)).map V.int = V.int (x : Int) :: (ofN r).map V.int := rfl
    rw [e, List.filterMap_cons, List.filter_cons]
    cases h : P x with
    | true =>
      have e2 : pickS P g (V.int (x : Int)) = some (.str (g x)) := by simp [pickS, h]
      rw [e2, if_pos rfl, ih]
      rfl
    | false =>
      have e2 : pickS P g (V.int (x : Int)) = none := by simp [pickS, h]
      rw [e2, if_neg (by simp)]
      exact ih
def pickN (P : Nat → Bool) : V → Option V
  | .int i => if P i.toNat = true then some (.int i) else none
  | _ => none
theorem filt_pickN (P : Nat → Bool) : ∀ L : List Nat, ((ofN L).map V.int).filterMap (pickN P) = (ofN (L.filter P)).map V.int
  | [] => rfl
  | x :: r => by
    have ih := filt_pickN P r
    have e : (ofN (x :: r)).map V.int = V.int (x : Int) :: (ofN r).map V.int := rfl
    rw [e, List.filterMap_cons, List.filter_cons]
    cases h : P x with
    | true =>
      have e2 : pickN P (V.int (x : Int)) = some (.int (x : Int)) := by simp [pickN, h]
      rw [e2, if_pos rfl, ih]
      rfl
    | false =>
      have e2 : pickN P (V.int (x : Int)) = none := by simp [pickN, h]
      rw [e2, if_neg (by simp)]
      exact ih
theorem rise_rows {qs qs' : List (Int × Int)} (h1 : qs.Pairwise fun x y => x.1 < y.1) (h2 : qs'.Pairwise fun x y => x.1 < y.1) (h : ∀ p, p ∈ qs ↔ p ∈ qs') : qs = qs' := by
  have n1 : qs.Nodup := h1.imp fun {a b} g e => by
    subst e
    omega
  have n2 : qs'.Nodup := h2.imp fun {a b} g e => by
    subst e
    omega
  exact List.Perm.eq_of_pairwise (fun a b _ _ g1 g2 => by omega) h1 h2 ((List.perm_ext_iff_of_nodup n1 n2).mpr h)
theorem DueAt.kp {H H' : Hp} {v : V} {a : Addr} (h : DueAt H v) (hD : Sd H a) (k : Kp a H H') : DueAt H' v := by
  obtain ⟨r, d, z, ys, R, h1, h2, h3, h4⟩ := h
  obtain ⟨x, f, c, s, hD⟩ := hD
  refine ⟨r, d, z, ys, R, h1, k _ _ (ne_of h2 hD fun e => by cases e) h2, k _ _ (ne_of h3 hD fun e => ?_) h3, h4⟩
  cases ys <;> cases e
theorem DueAt.upd {H : Hp} {v : V} {u x : Addr} {xs : List V} {o : HO} (h : DueAt H v) (hu : H u = some (.lst (.ref x :: xs))) : DueAt (L2.upd H u o) v := by
  obtain ⟨r, d, z, ys, R, h1, h2, h3, h4⟩ := h
  refine ⟨r, d, z, ys, R, h1, (upd_ne (ne_of h2 hu fun e => by cases e)).trans h2, (upd_ne (ne_of h3 hu fun e => ?_)).trans h3, h4⟩
  cases ys <;> cases e
theorem apart_due {A M : Nat} {L : List Nat} (hL : PowsL M L) : ∀ zs, (∃ qs, ApartIs A M qs ∧ zs = qs.map (rowT " ")) → zs = (L.filter fun x => decide (x + A ∈ L)).map fun x : Nat => rowT " " ((x : Int), ((x + A : Nat) : Int)) := by
  rintro zs ⟨qs, hq, rfl⟩
  have e : qs = (L.filter fun x => decide (x + A ∈ L)).map fun x : Nat => ((x : Int), ((x + A : Nat) : Int)) := by
    refine rise_rows hq.1 ?_ fun p => ?_
    · rw [List.pairwise_map]
      exact (hL.1.sublist List.filter_sublist).imp fun {a b} h => by
        show (a : Int) < (b : Int)
        omega
    · rw [hq.2 p, List.mem_map]
      constructor
      · rintro ⟨x, rfl, h1, h2, h3⟩
        exact ⟨x, List.mem_filter.mpr ⟨(hL.2.1 x).mpr ⟨h1, by omega⟩, decide_eq_true ((hL.2.1 _).mpr ⟨h2, h3⟩)⟩, rfl⟩
      · rintro ⟨x, hx, rfl⟩
        obtain ⟨h1, h2⟩ := List.mem_filter.mp hx
        have h3 := (hL.2.1 _).mp (of_decide_eq_true h2)
        exact ⟨x, rfl, ((hL.2.1 x).mp h1).1, h3.1, h3.2⟩
  rw [e, List.map_map]
  rfl
theorem sums_due {N : Nat} {L : List Nat} (hL : PowsL N L) : ∀ zs, (∃ qs, SumsIs N qs ∧ zs = qs.map (rowT " ")) → zs = ((L.filter fun x => decide (2 * x ≤ N)).filter fun x => decide (N - x ∈ L)).map fun x : Nat => rowT " " ((x : Int), ((N - x : Nat) : Int)) := by
  rintro zs ⟨qs, hq, rfl⟩
  have e : qs = ((L.filter fun x => decide (2 * x ≤ N)).filter fun x => decide (N - x ∈ L)).map fun x : Nat => ((x : Int), ((N - x : Nat) : Int)) := by
    refine rise_rows hq.1 ?_ fun p => ?_
    · rw [List.pairwise_map]
      exact ((hL.1.sublist List.filter_sublist).sublist List.filter_sublist).imp fun {a b} h => by
        show (a : Int) < (b : Int)
        omega
    · rw [hq.2 p, List.mem_map]
      constructor
      · rintro ⟨x, rfl, h1, h2, h3⟩
        exact ⟨x, List.mem_filter.mpr ⟨List.mem_filter.mpr ⟨(hL.2.1 x).mpr ⟨h1, by omega⟩, decide_eq_true h3⟩, decide_eq_true ((hL.2.1 _).mpr ⟨h2, by omega⟩)⟩, rfl⟩
      · rintro ⟨x, hx, rfl⟩
        obtain ⟨h1, h2⟩ := List.mem_filter.mp hx
        obtain ⟨h4, h5⟩ := List.mem_filter.mp h1
        have h3 := (hL.2.1 _).mp (of_decide_eq_true h2)
        exact ⟨x, rfl, ((hL.2.1 x).mp h4).1, h3.1, of_decide_eq_true h5⟩
  rw [e, List.map_map]
  rfl
theorem oks_rows (L : List Nat) (f g : Nat → Nat) : Oks (L.map fun x : Nat => rowT " " (((f x : Nat) : Int), ((g x : Nat) : Int))) := by
  intro y hy
  obtain ⟨x, _, rfl⟩ := List.mem_map.mp hy
  exact ok_of (ok_app (ok_app (sN_low (f x)) (by rw [tl_blank]; decide)) (sN_low (g x)))
theorem yes_due {P : Prop} {b : Bool} (hb : b = true ↔ P) : ∀ zs, (∃ c, (c = true ↔ P) ∧ zs = [yesno c]) → zs = [yesno b] := by
  rintro zs ⟨c, hc, rfl⟩
  have : c = b := Bool.eq_iff_iff.mpr (hc.trans hb.symm)
  rw [this]
theorem oks_yes (b : Bool) : Oks [yesno b] := by
  intro y hy
  rw [List.mem_singleton] at hy
  subst hy
  cases b <;> decide +kernel
theorem at_yes (b : Bool) : atI [V.str "no", V.str "yes"] (if b = true then 1 else 0) = some (.str (yesno b)) := by
  cases b <;> rfl
section
variable {P : Program} {w : World} {K : PySem.W.Frag} {mg : PySem.Str → Option Value} {base : Heap}
theorem bi__law_dues {f : Addr} {fd : FuncData} (F : Fun K "_law_dues" "_law_dues" s__law_dues f fd) : Binds K fd ["seed"] [] := F.binds (ps := ["seed"]) fun _ _ _ _ _ _ us hl => match us, hl with | [_], _ => rfl
set_option maxHeartbeats 4000000 in
theorem ok__law_dues {f : Addr} {fd : FuncData} (F : Fun K "_law_dues" "_law_dues" s__law_dues f fd) (B : Bt mg) (g_DIG : NoDig K) (h__law_draw : Fn P w K mg base CX0 1 "_law_draw" ["seed", "most"] (sp__law_draw K)) (h__law_powers : Fn P w K mg base CX0 1 "_law_powers" ["most"] (sp__law_powers K)) (h__law_two : Fn P w K mg base CX0 1 "_law_two" ["one", "other"] (sp__law_two K)) (h__law_number : Fn P w K mg base CX0 3 "_law_number" ["seed", "most"] (sp__law_number K)) (h__law_fair : Fn P w K mg base CX0 4 "_law_fair" ["seed"] (sp__law_fair K)) (h__law_kin : Fn P w K mg base CX0 3 "_law_kin" ["number", "exponent"] (sp__law_kin K)) (h__law_text : Fn P w K mg base CX0 4 "_law_text" ["seed", "number"] (sp__law_text K)) : FnOk P w K mg base CX0 5 f fd ["seed"] (sp__law_dues K) := by
  refine F.ok sc__law_dues (fun vs H Q E h => ?_) (fun cdv A outer s H vs Q E hr h => ?_)
  · obtain ⟨a, rfl, hD, q⟩ := h
    rfl
  · obtain ⟨a, rfl, hD, q⟩ := h
    refine ⟨_, (pss_cons (ps_set (i := 1) sc__law_dues.nd rfl (Or.inl rfl) (pe_ix (k_ixL K) (pe_lst (pa_cons (pe_fn h__law_draw (hr.mono (by decide)) (by rfl) (pa_cons (pv 0) (pa_cons pe_int pa_nil))) (pa_cons (pe_fn h__law_draw (hr.mono (by decide)) (by rfl) (pa_cons (pv 0) (pa_cons (pe_op op_pow pe_int pe_int) pa_nil))) (pa_cons (pe_op op_pow pe_int pe_int) pa_nil)))) (pe_fn h__law_draw (hr.mono (by decide)) (by rfl) (pa_cons (pv 0) (pa_cons pe_int pa_nil))) (fun _ _ => rfl)))
      (pss_cons (ps_set (i := 2) sc__law_dues.nd rfl (Or.inl rfl) (pe_fn h__law_powers (hr.mono (by decide)) (by rfl) (pa_cons (pv 1) pa_nil)))
      (pss_cons (ps_set (i := 3) sc__law_dues.nd rfl (Or.inr rfl) (pe_op op_add pe_int (pe_fn h__law_draw (hr.mono (by decide)) (by rfl) (pa_cons (pv 0) (pa_cons (pe_ix (k_ixL K) (pe_lst (pa_cons pe_int (pa_cons (pe_op op_pow pe_int pe_int) pa_nil))) (pe_fn h__law_draw (hr.mono (by decide)) (by rfl) (pa_cons (pv 0) (pa_cons pe_int pa_nil))) (fun _ _ => rfl)) pa_nil)))))
      (pss_cons (ps_set (i := 4) sc__law_dues.nd rfl (Or.inr rfl) (pe_callTy (call_dictP rfl) (by rfl) B.dict (by decide +kernel) (pa_cons (pe_lc (own := [("power", 16)]) (g := gName 16) (tt := tYes) rfl sc__law_dues.nd (pi_list (pv 2)) (blkOk_by (own := [("power", 16)]) (N := ["seed", "most", "powers", "apart", "there", "pairs", "number", "below", "known", "some", "sums", "fair", "exponent", "full", "free", "dues", "power"]) (sc := defScope s__law_dues) (by decide +kernel)) (fun _ _ _ _ _ => (pg_name (i := 16) sc__law_dues.nd rfl (Or.inl rfl))) (fun _ _ _ _ _ => pts_nil) (fun _ _ _ _ _ => (pe_tup (pa_cons (pv 16) (pa_cons pe_bl pa_nil))))) pa_nil)))
      (Evl.pss_cut (ps_setLc (i := 5) (own := [("power", 16)]) (g := gName 16) rfl sc__law_dues.nd rfl rfl (sw_true rfl rfl rfl (by decide +kernel)) (pi_list (pv 2)) (blkOk_by (own := [("power", 16)]) (N := ["seed", "most", "powers", "apart", "there", "pairs", "number", "below", "known", "some", "sums", "fair", "exponent", "full", "free", "dues", "power"]) (sc := defScope s__law_dues) (by decide +kernel)) (fun _ _ _ _ _ => (pg_name (i := 16) sc__law_dues.nd rfl (Or.inl rfl))) (fun _ _ _ _ _ => (pts_one (pt_cmp (pc_din (hu_of hr) (pe_op op_add (pv 16) (pv 3)) (pv 4))))) (fun _ _ _ _ _ => (pe_fn h__law_two (hr.mono (by decide)) (by rfl) (pa_cons (pv 16) (pa_cons (pe_op op_add (pv 16) (pv 3)) pa_nil)))))
      (pss_cons (ps_set (i := 6) sc__law_dues.nd rfl (Or.inr rfl) (pe_ix (k_ixL K) (pe_lst (pa_cons (pe_fn h__law_draw (hr.mono (by decide)) (by rfl) (pa_cons (pv 0) (pa_cons pe_int pa_nil))) (pa_cons (pe_fn h__law_number (hr.mono (by decide)) (by rfl) (pa_cons (pv 0) (pa_cons (pe_op op_pow pe_int pe_int) pa_nil))) pa_nil))) (pe_fn h__law_draw (hr.mono (by decide)) (by rfl) (pa_cons (pv 0) (pa_cons pe_int pa_nil))) (fun _ _ => rfl)))
      (Evl.pss_cut (ps_if (PW.pt (pw_and (pt_cmpR op_eq (pe_fn h__law_draw (hr.mono (by decide)) (by rfl) (pa_cons (pv 0) (pa_cons pe_int pa_nil))) pe_int (nomark _)) (pw_and1 (pt_cmpR (k_neD K rfl hr.units) (pv 2) (pe_lst pa_nil) (nomark _)))))
        (pss_one (ps_set (i := 6) sc__law_dues.nd rfl (Or.inr rfl) (pe_op op_add (pe_ix (k_ixL K) (pv 2) (pe_fn h__law_draw (hr.mono (by decide)) (by rfl) (pa_cons (pv 0) (pa_cons (pe_callB (k_len K) (by rfl) B.len (by decide +kernel) (pa_cons (pv 2) pa_nil)) pa_nil))) (fun _ _ => rfl)) (pe_ix (k_ixL K) (pv 2) (pe_fn h__law_draw (hr.mono (by decide)) (by rfl) (pa_cons (pv 0) (pa_cons (pe_callB (k_len K) (by rfl) B.len (by decide +kernel) (pa_cons (pv 2) pa_nil)) pa_nil))) (fun _ _ => rfl)))))
        pss_nil)
      (pss_cons (ps_set (i := 7) sc__law_dues.nd rfl (Or.inl rfl) (pe_fn h__law_powers (hr.mono (by decide)) (by rfl) (pa_cons (pv 6) pa_nil)))
      (pss_cons (ps_set (i := 8) sc__law_dues.nd rfl (Or.inr rfl) (pe_callTy (call_dictP rfl) (by rfl) B.dict (by decide +kernel) (pa_cons (pe_lc (own := [("power", 16)]) (g := gName 16) (tt := tYes) rfl sc__law_dues.nd (pi_list (pv 7)) (blkOk_by (own := [("power", 16)]) (N := ["seed", "most", "powers", "apart", "there", "pairs", "number", "below", "known", "some", "sums", "fair", "exponent", "full", "free", "dues", "power"]) (sc := defScope s__law_dues) (by decide +kernel)) (fun _ _ _ _ _ => (pg_name (i := 16) sc__law_dues.nd rfl (Or.inl rfl))) (fun _ _ _ _ _ => pts_nil) (fun _ _ _ _ _ => (pe_tup (pa_cons (pv 16) (pa_cons pe_bl pa_nil))))) pa_nil)))
      (pss_cons (ps_setLc (i := 9) (own := [("power", 16)]) (g := gName 16) rfl sc__law_dues.nd rfl rfl (sw_true rfl rfl rfl (by decide +kernel)) (pi_list (pv 7)) (blkOk_by (own := [("power", 16)]) (N := ["seed", "most", "powers", "apart", "there", "pairs", "number", "below", "known", "some", "sums", "fair", "exponent", "full", "free", "dues", "power"]) (sc := defScope s__law_dues) (by decide +kernel)) (fun _ _ _ _ _ => (pg_name (i := 16) sc__law_dues.nd rfl (Or.inl rfl))) (fun _ _ _ _ _ => (pts_one (pt_cmpR op_le (pe_op op_mul pe_int (pv 16)) (pv 6) (nomark _)))) (fun _ _ _ _ _ => (pv 16)))
      (Evl.pss_cut (ps_setLc (i := 10) (own := [("power", 16)]) (g := gName 16) rfl sc__law_dues.nd rfl rfl (sw_true rfl rfl rfl (by decide +kernel)) (pi_list (pv 9)) (blkOk_by (own := [("power", 16)]) (N := ["seed", "most", "powers", "apart", "there", "pairs", "number", "below", "known", "some", "sums", "fair", "exponent", "full", "free", "dues", "power"]) (sc := defScope s__law_dues) (by decide +kernel)) (fun _ _ _ _ _ => (pg_name (i := 16) sc__law_dues.nd rfl (Or.inl rfl))) (fun _ _ _ _ _ => (pts_one (pt_cmp (pc_din (hu_of hr) (pe_op op_sub (pv 6) (pv 16)) (pv 8))))) (fun _ _ _ _ _ => (pe_fn h__law_two (hr.mono (by decide)) (by rfl) (pa_cons (pv 16) (pa_cons (pe_op op_sub (pv 6) (pv 16)) pa_nil)))))
      (pss_cons (ps_set (i := 11) sc__law_dues.nd rfl (Or.inl rfl) (pe_fn h__law_fair (hr.mono (by decide)) (by rfl) (pa_cons (pv 0) pa_nil)))
      (pss_cons (ps_set (i := 12) sc__law_dues.nd rfl (Or.inl rfl) (pe_op op_add pe_int (pe_fn h__law_draw (hr.mono (by decide)) (by rfl) (pa_cons (pv 0) (pa_cons (pe_ix (k_ixL K) (pe_lst (pa_cons pe_int (pa_cons pe_int pa_nil))) (pe_fn h__law_draw (hr.mono (by decide)) (by rfl) (pa_cons (pv 0) (pa_cons pe_int pa_nil))) (fun _ _ => rfl)) pa_nil)))))
      (Evl.pss_cut (ps_asg (pe_fn h__law_kin (hr.mono (by decide)) (by rfl) (pa_cons (pv 11) (pa_cons (pv 12) pa_nil))) (k_lstG K rfl (pgs_cons (pg_name (i := 13) sc__law_dues.nd rfl (Or.inl rfl)) (pgs_cons (pg_name (i := 14) sc__law_dues.nd rfl (Or.inl rfl)) pgs_nil))))
      (pss_cons (ps_set (i := 15) sc__law_dues.nd rfl (Or.inl rfl) (pe_lst (pa_cons (pe_lst (pa_cons (pe_op op_add_str (k_join3 pe_str (k_fmtN K g_DIG (pv 3)) pe_str) (pe_fn h__law_text (hr.mono (by decide)) (by rfl) (pa_cons (pv 0) (pa_cons (pv 1) pa_nil)))) (pa_cons (pv 5) pa_nil))) (pa_cons (pe_lst (pa_cons (pe_op op_add_str pe_str (pe_fn h__law_text (hr.mono (by decide)) (by rfl) (pa_cons (pv 0) (pa_cons (pv 6) pa_nil)))) (pa_cons (pv 10) pa_nil))) pa_nil))))
      (pss_cons (ps_expr (pe_bm PySem.F.plainAttrs_list PySem.F.slot_list_append PySem.F.type_list_append mt_append (pv 15) (pa_cons (pe_lst (pa_cons (pe_op op_add_str pe_str (pe_fn h__law_text (hr.mono (by decide)) (by rfl) (pa_cons (pv 0) (pa_cons (pv 11) pa_nil)))) (pa_cons (pe_lst (pa_cons (pe_ix (k_ixL K) (pe_lst (pa_cons pe_str (pa_cons pe_str pa_nil))) (pe_callTy call_int1 (by rfl) B.int (by decide +kernel) (pa_cons (pv 13) pa_nil)) (fun _ _ => rfl)) pa_nil)) pa_nil))) pa_nil)))
      (pss_one (ps_ret (pe_op op_cat (pv 15) (pe_lst (pa_cons (pe_lst (pa_cons (pe_op op_add_str (k_join3 pe_str (k_fmtN K g_DIG (pv 12)) pe_str) (pe_fn h__law_text (hr.mono (by decide)) (by rfl) (pa_cons (pv 0) (pa_cons (pv 11) pa_nil)))) (pa_cons (pe_lst (pa_cons (pe_ix (k_ixL K) (pe_lst (pa_cons pe_str (pa_cons pe_str pa_nil))) (pe_callTy call_int1 (by rfl) B.int (by decide +kernel) (pa_cons (pv 14) pa_nil)) (fun _ _ => rfl)) pa_nil)) pa_nil))) pa_nil))))))))))))))))))))), ?_⟩
    have sz : 500000 ≤ sizeLine := by decide
    have hD0 := hD
    have e5 : (10 : Int) ^ Int.toNat 5 = ((100000 : Nat) : Int) := rfl
    have c5 : CPow 10 5 := by unfold CPow; omega
    have e8 : (10 : Int) ^ Int.toNat 8 = ((100000000 : Nat) : Int) := rfl
    have c8 : CPow 10 8 := by unfold CPow; omega
    walk_at "r"
    refine use_draw (Kp.refl a H) hD (by omega) (by omega) fun d1 H1 _ K1 D1 a1 b1 => ?_
    walk_at "r"
    rw [e5]
    refine ⟨c5, use_draw K1 D1 (by omega) (by omega) fun d2 H2 _ K2 D2 a2 b2 => ?_⟩
    walk_at "r"
    refine ⟨c5, by omega, fun p1 hp1 => ?_⟩
    refine use_pick (fun v => ∃ z : Nat, v = .int (z : Int) ∧ z ≤ 100000) (fun x hx => by
      simp only [List.mem_cons, List.not_mem_nil, or_false] at hx
      rcases hx with rfl | rfl | rfl
      · exact ⟨d1.toNat, congrArg V.int (by omega), by omega⟩
      · exact ⟨d2.toNat, congrArg V.int (by omega), by omega⟩
      · exact ⟨100000, rfl, by omega⟩) K2 D2 hp1 rfl (by omega) (by omega) fun v H3 hv _ K3 D3 => ?_
    obtain ⟨M, rfl, hM⟩ := hv
    walk_at "r"
    refine ⟨M, rfl, by omega, fun pw L H4 hpw s4 hP hL => ?_⟩
    have K4 := K3.trans (sm_kp s4)
    have D4 := D3.same s4
    have npw : pw ≠ a := D3.ne hpw
    have hlenA : ((ofN L).map V.int).length = L.length := by rw [List.length_map, ofN_len]
    have hLnA : L.Nodup := hL.1.imp fun {a b} h => by omega
    have hL3 := hL.2.2
    walk_at "r"
    refine ⟨c5, by omega, fun p2 hp2 => ?_⟩
    refine use_pick (fun v => ∃ z : Nat, v = .int (z : Int) ∧ 1 ≤ z ∧ z ≤ 100000) (fun x hx => by
      simp only [List.mem_cons, List.not_mem_nil, or_false] at hx
      rcases hx with rfl | rfl
      · exact ⟨30, rfl, by omega, by omega⟩
      · exact ⟨100000, rfl, by omega, by omega⟩) K4 D4 hp2 rfl (by omega) (by omega) fun v H5 hv k5 K5 D5 => ?_
    obtain ⟨z2, rfl, z3, z4⟩ := hv
    refine use_draw K5 D5 (by omega) (by omega) fun d3 H6 k6 K6 D6 a3 b3 => ?_
    obtain ⟨A, hA, A1, A2⟩ : ∃ A : Nat, (1 : Int) + d3 = (A : Int) ∧ 1 ≤ A ∧ A ≤ 100000 := ⟨(1 + d3).toNat, by omega, by omega, by omega⟩
    refine ⟨d3, rfl, ?_⟩
    rw [hA]
    have hPA := k6 _ _ npw (k5 _ _ npw hP)
    refine ⟨⟨_, SqL.of hPA⟩, lc_lI (xs := (ofN L).map V.int) (fun i acc H' => Same H6 H' ∧ acc.length ≤ i ∧ ∃ ts : List Addr, acc = ts.map V.ref ∧ Paired (fun t kv => H' t = some (.tup [kV kv.1, kv.2])) ts (dN (L.take i) fun _ => .bl true)) (fun D hD => ⟨same_new hD, Nat.le_refl _, [], rfl, .nil⟩) (fun i acc H' _ h => SqL.of (h.1 _ _ hPA)) ?_ ?_⟩
    · rintro i x acc D H6b hx hD hacc ⟨s2, hl2, ts, rfl, hts⟩ N0 N1 n0 n1
      obtain ⟨k, hk, rfl⟩ := ofN_at hx
      have hi : i < L.length := (List.getElem?_eq_some_iff.mp hk).1
      walk_at "z"
      refine ⟨by omega, fun u hu => ?_⟩
      have nu := ne_of_none hacc hu
      refine n1 _ _ ((upd_ne nu).trans hacc) (by omega) ⟨fun b o hb => ?_, by rw [List.length_append]; show _ + 1 ≤ i + 1; omega, ts ++ [u], by simp, ?_⟩
      · rw [upd_ne (ne_of_none hb hD), upd_ne (ne_of_none (s2 _ _ hb) hu)]
        exact s2 _ _ hb
      · have ed : dN (L.take (i + 1)) (fun _ => V.bl true) = dN (L.take i) (fun _ => V.bl true) ++ [(Sum.inl (k : Int), V.bl true)] := by
          rw [List.take_add_one, hk, Option.toList_some]
          simp [dN]
        rw [ed]
        exact (L2.Paired.mapP hts fun t kv h => (upd_ne (ne_of h hacc fun e => by cases e)).trans ((upd_ne (ne_of_none h hu)).trans h)).snoc ((upd_ne nu.symm).trans upd_same)
    rintro D acc H6b hD hacc ⟨s2, hl2, ts, rfl, hts⟩
    rw [hlenA, List.take_length] at hts
    refine ⟨D, rfl, ts, SqL.of hacc, dN L (fun _ => .bl true), L2.Paired.mapP hts fun t kv h => SqT.of h, fun kd hkd => ?_⟩
    have em : mergeK [] (dN L fun _ => V.bl true) = dN L fun _ => .bl true := merge_dN _ L [] (by simpa using hLnA)
    rw [em]
    have s3 := s2.trans (same_new (o := .dK (dN L fun _ => .bl true)) hkd)
    have hK3 : upd H6b kd (.dK (dN L fun _ => .bl true)) kd = _ := upd_same
    generalize upd H6b kd (.dK (dN L fun _ => .bl true)) = H6c at s3 hK3 ⊢
    have hP6 := s3 _ _ hPA
    have K6c := K6.trans (sm_kp s3)
    have D6c := D6.same s3
    walk_at "r"
    refine cut_m (fun σ H' => ∃ (th pr : Addr), σ = [some (.ref a), some (.int (M : Int)), some (.ref pw), some (.int (A : Int)), some (.ref th), some (.ref pr), none, none, none, none, none, none, none, none, none, none, none] ∧ Kp a H H' ∧ Sd H' a ∧ H pr = none ∧ H' pw = some (.lst ((ofN L).map V.int)) ∧ H' pr = some (.lst (((L.filter fun x => decide (x + A ∈ L)).map fun x : Nat => rowT " " ((x : Int), ((x + A : Nat) : Int))).map V.str))) (fun N hN => ?_) ?_
    · walk_at "r"
      refine ⟨⟨_, SqL.of hP6⟩, lc_l (pickS (fun x => decide (x + A ∈ L)) fun x : Nat => rowT " " ((x : Int), ((x + A : Nat) : Int))) (SqL.of hP6) (by omega) ?_ ?_⟩
      · intro i x H5 hx s5 N0 N1 n0 nn1
        obtain ⟨k, hk, rfl⟩ := ofN_at hx
        have hkm := ((hL.2.1 k).mp (List.mem_of_getElem? hk)).2
        walk_at "z"
        simp only [w_dIn]
        walk_at "z"
        have ek : (k : Int) + (A : Int) = ((k + A : Nat) : Int) := by omega
        rw [ek]
        refine ⟨_, dN_get (s5 _ _ hK3), ?_⟩
        by_cases c : k + A ∈ L
        · rw [if_pos c]
          walk_at "r"
          exact ⟨k, k + A, rfl, Nat.lt_of_le_of_lt hkm (Nat.lt_of_le_of_lt hM (by decide)), Nat.lt_of_le_of_lt (show k + A ≤ 200000 by omega) (by decide), nn1 _ (by simp [pickS, c]) _ (Same.refl _)⟩
        · rw [if_neg c]
          exact n0 (by simp [pickS, c]) _ (Same.refl _)
      · intro D H5 hD5 s5 hLL
        rw [filt_pickS] at hLL
        exact hN _ _ ⟨_, D, rfl, K6c.trans (sm_kp s5), D6c.same s5, K6c.free (D6c.ne hD5) hD5, s5 _ _ hP6, hLL⟩
    · rintro σ H7 ⟨th, pr, rfl, K7, D7, fpr, hP7, hpr⟩
      walk_at "r"
      refine use_draw (Kp.refl a H7) D7 (by omega) (by omega) fun e1 H8 _ K8 D8 f1 f2 => ?_
      walk_at "r"
      rw [e8]
      refine ⟨c8, a, 100000000, rfl, D8, by omega, by decide, fun r H9 k9 D9 hr => ⟨by omega, fun p3 hp3 => ?_⟩⟩
      refine use_pick (fun v => ∃ z : Nat, v = .int (z : Int) ∧ z ≤ 10 ^ 8) (fun x hx => by
        simp only [List.mem_cons, List.not_mem_nil, or_false] at hx
        rcases hx with rfl | rfl
        · exact ⟨e1.toNat, congrArg V.int (by omega), by omega⟩
        · exact ⟨r, rfl, by omega⟩) (K8.trans k9) D9 hp3 rfl (by omega) (by omega) fun v H10 hv _ K10 D10 => ?_
      obtain ⟨N0, rfl, hN0⟩ := hv
      refine cut_m (fun σ H' => ∃ N : Nat, σ = [some (.ref a), some (.int (M : Int)), some (.ref pw), some (.int (A : Int)), some (.ref th), some (.ref pr), some (.int (N : Int)), none, none, none, none, none, none, none, none, none, none] ∧ N ≤ 10 ^ 8 ∧ Kp a H7 H' ∧ Sd H' a) (fun Nx hNx => ?_) ?_
      · walk_at "r"
        have fin : ∀ (H' : Hp) (x : Nat), x ≤ 10 ^ 8 → Kp a H7 H' → Sd H' a → Nx [some (.ref a), some (.int (M : Int)), some (.ref pw), some (.int (A : Int)), some (.ref th), some (.ref pr), some (.int (x : Int)), none, none, none, none, none, none, none, none, none, none] H' := fun H' x hx kk dd => hNx _ _ ⟨x, rfl, hx, kk, dd⟩
        refine use_draw K10 D10 (by omega) (by omega) fun e2 H11 _ K11 D11 _ _ => ⟨rfl, ite2 (fun _ => ?_) (fun _ => fin _ _ hN0 K11 D11)⟩
        refine ⟨by omega, fun u hu => ?_⟩
        have hP11 := K11 _ _ npw hP7
        have su := same_new (o := .lst []) hu
        refine r_neL (ns := ofN L) (ms := []) (SqL.of (su _ _ hP11)) (SqL.of upd_same) ?_
        have k12 := K11.trans (sm_kp su)
        have d12 := D11.same su
        have hP12 := su _ _ hP11
        generalize upd H11 u (.lst []) = H12 at k12 d12 hP12 ⊢
        refine ⟨_, rfl, ite2 (fun hne => ?_) (fun _ => fin _ _ hN0 k12 d12)⟩
        have hLp : 1 ≤ L.length := by
          have : ofN L ≠ [] := by simpa using hne
          cases L with
          | nil => exact absurd rfl this
          | cons y ys => simp
        have pick : ∀ (Ha : Hp) (Q2 : VK), Ha pw = some (.lst ((ofN L).map V.int)) → Kp a H7 Ha → Sd Ha a → (∀ (x : Nat) (H' : Hp), x ∈ L → Kp a H7 H' → Sd H' a → H' pw = some (.lst ((ofN L).map V.int)) → Q2 (.int (x : Int)) H') → rLen K [.ref pw] Ha fun x H1 => sp__law_draw K [.ref a, x] H1 (fun y H2 => rIxL K (.ref pw) y H2 Q2) E0 := by
          intro Ha Q2 hPa ka da q2
          refine r_len (SqL.of hPa) (use_draw ka da (by omega) (by omega) fun e3 Hb kb Kb Db g1 g2 => ?_)
          obtain ⟨j, rfl⟩ := Int.eq_ofNat_of_zero_le g1
          have hj : j < L.length := by omega
          have hPb := kb _ _ npw hPa
          refine r_ixL (v := .int ((L[j] : Nat) : Int)) (SqL.of hPb) (atI_nat ?_) (q2 _ _ (List.getElem_mem hj) Kb Db hPb)
          unfold ofN
          rw [List.getElem?_map, List.getElem?_map, List.getElem?_eq_getElem hj]
          rfl
        refine pick _ _ hP12 k12 d12 fun x1 H13 hx1 k13 d13 hP13 => pick _ _ hP13 k13 d13 fun x2 H14 hx2 k14 d14 _ => ⟨_, rfl, _, rfl, ?_⟩
        have y1 := ((hL.2.1 x1).mp hx1).2
        have y2 := ((hL.2.1 x2).mp hx2).2
        rw [show (x1 : Int) + (x2 : Int) = ((x1 + x2 : Nat) : Int) by omega]
        exact fin _ _ (by omega) k14 d14
      · rintro σ H11 ⟨N, rfl, hN, K11, D11⟩
        have npr : pr ≠ a := hD0.ne fpr
        walk_at "r"
        refine ⟨N, rfl, hN, fun bw LB H12 hbw s12 hPB hLB => ?_⟩
        have hlenB : ((ofN LB).map V.int).length = LB.length := by rw [List.length_map, ofN_len]
        have hLnB : LB.Nodup := hLB.1.imp fun {a b} h => by omega
        have hLB3 := hLB.2.2
        walk_at "r"
        refine ⟨⟨_, SqL.of hPB⟩, lc_lI (xs := (ofN LB).map V.int) (fun i acc H' => Same H12 H' ∧ acc.length ≤ i ∧ ∃ ts : List Addr, acc = ts.map V.ref ∧ Paired (fun t kv => H' t = some (.tup [kV kv.1, kv.2])) ts (dN (LB.take i) fun _ => .bl true)) (fun D hD => ⟨same_new hD, Nat.le_refl _, [], rfl, .nil⟩) (fun i acc H' _ h => SqL.of (h.1 _ _ hPB)) ?_ ?_⟩
        · rintro i x acc D H12b hx hD hacc ⟨s2, hl2, ts, rfl, hts⟩ N0 N1 n0 n1
          obtain ⟨k, hk, rfl⟩ := ofN_at hx
          have hi : i < LB.length := (List.getElem?_eq_some_iff.mp hk).1
          walk_at "z"
          refine ⟨by omega, fun u hu => ?_⟩
          have nu := ne_of_none hacc hu
          refine n1 _ _ ((upd_ne nu).trans hacc) (by omega) ⟨fun b o hb => ?_, by rw [List.length_append]; show _ + 1 ≤ i + 1; omega, ts ++ [u], by simp, ?_⟩
          · rw [upd_ne (ne_of_none hb hD), upd_ne (ne_of_none (s2 _ _ hb) hu)]
            exact s2 _ _ hb
          · have ed : dN (LB.take (i + 1)) (fun _ => V.bl true) = dN (LB.take i) (fun _ => V.bl true) ++ [(Sum.inl (k : Int), V.bl true)] := by
              rw [List.take_add_one, hk, Option.toList_some]
              simp [dN]
            rw [ed]
            exact (L2.Paired.mapP hts fun t kv h => (upd_ne (ne_of h hacc fun e => by cases e)).trans ((upd_ne (ne_of_none h hu)).trans h)).snoc ((upd_ne nu.symm).trans upd_same)
        rintro D acc H12b hD hacc ⟨s2, hl2, ts, rfl, hts⟩
        rw [hlenB, List.take_length] at hts
        refine ⟨D, rfl, ts, SqL.of hacc, dN LB (fun _ => .bl true), L2.Paired.mapP hts fun t kv h => SqT.of h, fun kd hkd => ?_⟩
        have em : mergeK [] (dN LB fun _ => V.bl true) = dN LB fun _ => .bl true := merge_dN _ LB [] (by simpa using hLnB)
        rw [em]
        have s3 := s2.trans (same_new (o := .dK (dN LB fun _ => .bl true)) hkd)
        have hKB : upd H12b kd (.dK (dN LB fun _ => .bl true)) kd = _ := upd_same
        generalize upd H12b kd (.dK (dN LB fun _ => .bl true)) = H12c at s3 hKB ⊢
        have hPB3 := s3 _ _ hPB
        have K12 := K11.trans (sm_kp (s12.trans s3))
        have D12 := D11.same (s12.trans s3)
        walk_at "r"
        refine ⟨⟨_, SqL.of hPB3⟩, lc_l (pickN fun x => decide (2 * x ≤ N)) (SqL.of hPB3) (by omega) ?_ ?_⟩
        · intro i x H5 hx s5 N0 N1 n0 nn1
          obtain ⟨k, hk, rfl⟩ := ofN_at hx
          have hkm := ((hLB.2.1 k).mp (List.mem_of_getElem? hk)).2
          walk_at "z"
          refine ⟨by unfold CMul; omega, ?_⟩
          exact ite2 (fun h => nn1 _ (by simp [pickN]; omega) _ (Same.refl _)) (fun h => n0 (by simp [pickN]; omega) _ (Same.refl _))
        · intro DS H13 hDS s13 hLS
          rw [filt_pickN] at hLS
          have K13 := K12.trans (sm_kp s13)
          have D13 := D12.same s13
          have hlS : (LB.filter fun x => decide (2 * x ≤ N)).length ≤ LB.length := List.length_filter_le _ _
          refine cut_m (fun σ H' => ∃ (v7 v8 v9 : Option V) (su : Addr), σ = [some (.ref a), some (.int (M : Int)), some (.ref pw), some (.int (A : Int)), some (.ref th), some (.ref pr), some (.int (N : Int)), v7, v8, v9, some (.ref su), none, none, none, none, none, none] ∧ Kp a H7 H' ∧ Sd H' a ∧ su ≠ a ∧ H' su = some (.lst ((((LB.filter fun x => decide (2 * x ≤ N)).filter fun x => decide (N - x ∈ LB)).map fun x : Nat => rowT " " ((x : Int), ((N - x : Nat) : Int))).map V.str))) (fun Nx hNx => ?_) ?_
          · walk_at "r"
            refine ⟨⟨_, SqL.of hLS⟩, lc_l (pickS (fun x => decide (N - x ∈ LB)) fun x : Nat => rowT " " ((x : Int), ((N - x : Nat) : Int))) (SqL.of hLS) (by rw [List.length_map, ofN_len]; omega) ?_ ?_⟩
            · intro i x H5 hx s5 N0 N1 n0 nn1
              obtain ⟨k, hk, rfl⟩ := ofN_at hx
              have hkS := List.mem_filter.mp (List.mem_of_getElem? hk)
              have hkm := ((hLB.2.1 k).mp hkS.1).2
              walk_at "z"
              simp only [w_dIn]
              walk_at "z"
              have ek : (N : Int) - (k : Int) = ((N - k : Nat) : Int) := by omega
              rw [ek]
              refine ⟨_, dN_get (s5 _ _ (s13 _ _ hKB)), ?_⟩
              by_cases c : N - k ∈ LB
              · rw [if_pos c]
                walk_at "r"
                exact ⟨k, N - k, rfl, Nat.lt_of_le_of_lt hkm (Nat.lt_of_le_of_lt hN (by decide)), Nat.lt_of_le_of_lt (show N - k ≤ 10 ^ 8 by omega) (by decide), nn1 _ (by simp [pickS, c]) _ (Same.refl _)⟩
              · rw [if_neg c]
                exact n0 (by simp [pickS, c]) _ (Same.refl _)
            · intro D H5 hD5 s5 hLL
              rw [filt_pickS] at hLL
              exact hNx _ _ ⟨_, _, _, D, rfl, K13.trans (sm_kp s5), D13.same s5, D13.ne hD5, hLL⟩
          · rintro σ H14 ⟨v7, v8, v9, su, rfl, K14, D14, nsu, hSU⟩
            walk_at "r"
            refine ⟨a, rfl, D14, fun F H15 k15 D15 hF1 hF2 => ⟨by omega, fun p4 hp4 => ?_⟩⟩
            refine use_pick (fun v => ∃ z : Nat, v = .int (z : Int) ∧ 1 ≤ z ∧ z ≤ 199) (fun x hx => by
              simp only [List.mem_cons, List.not_mem_nil, or_false] at hx
              rcases hx with rfl | rfl
              · exact ⟨3, rfl, by omega, by omega⟩
              · exact ⟨199, rfl, by omega, by omega⟩) ((Kp.refl a H14).trans k15) D15 hp4 rfl (by omega) (by omega) fun v H16 hv _ K16 D16 => ?_
            obtain ⟨z5, rfl, z6, z7⟩ := hv
            refine use_draw K16 D16 (by omega) (by omega) fun e4 H17 _ K17 D17 g1 g2 => ⟨e4, rfl, ?_⟩
            obtain ⟨E2, hE, E3, E4⟩ : ∃ x : Nat, (2 : Int) + e4 = (x : Int) ∧ 2 ≤ x ∧ x ≤ 200 := ⟨(2 + e4).toNat, by omega, by omega, by omega⟩
            rw [hE]
            refine cut_m (fun σ H' => ∃ (b1 b2 : Bool), σ = [some (.ref a), some (.int (M : Int)), some (.ref pw), some (.int (A : Int)), some (.ref th), some (.ref pr), some (.int (N : Int)), v7, v8, v9, some (.ref su), some (.int (F : Int)), some (.int (E2 : Int)), some (.bl b1), some (.bl b2), none, none] ∧ Kp a H14 H' ∧ Sd H' a ∧ (b1 = true ↔ FullN F) ∧ (b2 = true ↔ FreeN F E2)) (fun Nx hNx => ?_) ?_
            · walk_at "r"
              refine ⟨F, E2, rfl, hF1, hF2, by omega, by omega, fun b1 b2 t H18 ht s18 hb1 hb2 hT => ?_⟩
              walk_at "r"
              refine ⟨_, SqL.of hT, rfl, ?_⟩
              walk_at "r"
              exact hNx _ _ ⟨b1, b2, rfl, K17.trans (sm_kp s18), D17.same s18, hb1, hb2⟩
            · rintro σ H18 ⟨b1, b2, rfl, K18, D18, hb1, hb2⟩
              walk_at "r"
              have nA := small_txt (x := A) (Nat.lt_of_le_of_lt A2 (by decide))
              have nE := small_txt (x := E2) (Nat.lt_of_le_of_lt E4 (by decide))
              have e6 : (Str.empty ++ "apart " : PySem.Str).length = 6 := by decide +kernel
              have e5' : (Str.empty ++ "free " : PySem.Str).length = 5 := by decide +kernel
              have es : ("sums " : PySem.Str).length = 5 := by decide +kernel
              have ef : ("full " : PySem.Str).length = 5 := by decide +kernel
              have eb : (" " : PySem.Str).length = 1 := by decide +kernel
              have l1 : (Str.empty ++ "apart " ++ Str.ofString (toString (A : Int))).length ≤ 60 := by
                rw [len_app, e6]
                omega
              have l2 : (Str.empty ++ "apart " ++ Str.ofString (toString (A : Int)) ++ " ").length ≤ 61 := by
                rw [len_app, eb]
                omega
              have l3 : (Str.empty ++ "free " ++ Str.ofString (toString (E2 : Int))).length ≤ 60 := by
                rw [len_app, e5']
                omega
              have l4 : (Str.empty ++ "free " ++ Str.ofString (toString (E2 : Int)) ++ " ").length ≤ 61 := by
                rw [len_app, eb]
                omega
              have ezA : ∀ z : PySem.Str, Str.empty ++ "apart " ++ Str.ofString (toString (A : Int)) ++ " " ++ z = "apart" ++ " " ++ sN A ++ " " ++ z := fun z => by
                rw [empty_app, show ("apart " : PySem.Str) = "apart" ++ " " from str_ext (by decide +kernel)]
                rfl
              have ezF : ∀ z : PySem.Str, Str.empty ++ "free " ++ Str.ofString (toString (E2 : Int)) ++ " " ++ z = "free" ++ " " ++ sN E2 ++ " " ++ z := fun z => by
                rw [empty_app, show ("free " : PySem.Str) = "free" ++ " " from str_ext (by decide +kernel)]
                rfl
              have ezS : ∀ z : PySem.Str, ("sums " : PySem.Str) ++ z = lnT "sums" z := fun z => by
                rw [show ("sums " : PySem.Str) = "sums" ++ " " from str_ext (by decide +kernel)]
                rfl
              have ezU : ∀ z : PySem.Str, ("full " : PySem.Str) ++ z = lnT "full" z := fun z => by
                rw [show ("full " : PySem.Str) = "full" ++ " " from str_ext (by decide +kernel)]
                rfl
              have hpr18 := (K14.trans K18) _ _ npr hpr
              have hsu18 := K18 _ _ nsu hSU
              refine ⟨by omega, nA.1, by omega, by omega, a, M, rfl, D18, by omega, fun z1 H19 k19 D19 hz1 => ⟨z1, rfl, by have := hz1.len; omega, by omega, fun r1 hr1 => ?_⟩⟩
              rw [ezA]
              have hpr19 := same_new (o := .lst [V.str ("apart" ++ " " ++ sN A ++ " " ++ z1), V.ref pr]) hr1 _ _ (k19 _ _ npr hpr18)
              have hsu19 := same_new (o := .lst [V.str ("apart" ++ " " ++ sN A ++ " " ++ z1), V.ref pr]) hr1 _ _ (k19 _ _ nsu hsu18)
              have D19r := D19.same (same_new (o := .lst [V.str ("apart" ++ " " ++ sN A ++ " " ++ z1), V.ref pr]) hr1)
              have K19r := (K18.trans k19).trans (sm_kp (same_new (o := .lst [V.str ("apart" ++ " " ++ sN A ++ " " ++ z1), V.ref pr]) hr1))
              have due1 : DueAt (upd H19 r1 (.lst [V.str ("apart" ++ " " ++ sN A ++ " " ++ z1), V.ref pr])) (.ref r1) := ⟨r1, pr, _, _, _, rfl, upd_same, hpr19, .apart A z1 M hz1 A1 (by omega) (by omega), apart_due hL, oks_rows _ (fun x => x) (fun x => x + A), by rw [List.length_map]; exact Nat.le_trans (List.length_filter_le _ _) hL3⟩
              generalize upd H19 r1 (.lst [V.str ("apart" ++ " " ++ sN A ++ " " ++ z1), V.ref pr]) = H19r at due1 hpr19 hsu19 D19r K19r ⊢
              refine ⟨a, N, rfl, D19r, by omega, fun z2 H20 k20 D20 hz2 => ⟨z2, rfl, by have := hz2.len; omega, by omega, fun r2 hr2 => ⟨by omega, fun rd hrd => ?_⟩⟩⟩
              rw [ezS] at hrd ⊢
              have s20 := same_new (o := .lst [V.str (lnT "sums" z2), V.ref su]) hr2
              have hsu20 := s20 _ _ (k20 _ _ nsu hsu19)
              have due1b := (due1.kp D19r k20).same s20
              have D20r := D20.same s20
              have K20r := (K19r.trans k20).trans (sm_kp s20)
              have due2 : DueAt (upd H20 r2 (.lst [V.str (lnT "sums" z2), V.ref su])) (.ref r2) := ⟨r2, su, _, _, _, rfl, upd_same, hsu20, .sums z2 N hz2 hN, sums_due hLB, oks_rows _ (fun x => x) (fun x => N - x), by rw [List.length_map]; exact Nat.le_trans (List.length_filter_le _ _) (Nat.le_trans (List.length_filter_le _ _) hLB3)⟩
              generalize upd H20 r2 (.lst [V.str (lnT "sums" z2), V.ref su]) = H20r at due1b due2 D20r K20r hrd ⊢
              have s21 := same_new (o := .lst [V.ref r1, V.ref r2]) hrd
              have due1c := due1b.same s21
              have due2c := due2.same s21
              have D21 := D20r.same s21
              have K21 := K20r.trans (sm_kp s21)
              have hrd21 : upd H20r rd (.lst [V.ref r1, V.ref r2]) rd = some (.lst [V.ref r1, V.ref r2]) := upd_same
              have frd : H rd = none := (K7.trans (K14.trans K20r)).free (D20r.ne hrd) hrd
              have nrd : rd ≠ a := D20r.ne hrd
              generalize upd H20r rd (.lst [V.ref r1, V.ref r2]) = H21 at due1c due2c D21 K21 hrd21 ⊢
              refine ⟨ty_list (SqL.of hrd21), a, F, rfl, D21, hF2, fun z3 H22 k22 D22 hz3 => ⟨z3, rfl, by have := hz3.len; omega, by omega, fun p5 hp5 => r_ixL (SqL.of upd_same) (at_yes b1) ⟨by omega, fun p6 hp6 => ⟨by omega, fun r3 hr3 => ?_⟩⟩⟩⟩
              rw [ezU]
              have s22 := (same_new (o := .lst [V.str "no", V.str "yes"]) hp5).trans (same_new (o := .lst [V.str (yesno b1)]) hp6)
              have hp6' : upd (upd H22 p5 (.lst [V.str "no", V.str "yes"])) p6 (.lst [V.str (yesno b1)]) p6 = some (.lst [V.str (yesno b1)]) := upd_same
              have due1d := (due1c.kp D21 k22).same s22
              have due2d := (due2c.kp D21 k22).same s22
              have D22b := D22.same s22
              have K22b := (K21.trans k22).trans (sm_kp s22)
              have hrd22 := s22 _ _ (k22 _ _ nrd hrd21)
              generalize upd (upd H22 p5 (.lst [V.str "no", V.str "yes"])) p6 (.lst [V.str (yesno b1)]) = H23 at hp6' due1d due2d D22b K22b hrd22 hr3 ⊢
              have s24 := same_new (o := .lst [V.str (lnT "full" z3), V.ref p6]) hr3
              have due3 : DueAt (upd H23 r3 (.lst [V.str (lnT "full" z3), V.ref p6])) (.ref r3) := ⟨r3, p6, _, [yesno b1], _, rfl, upd_same, s24 _ _ hp6', .full z3 F hz3 hF1 hF2, yes_due hb1, oks_yes b1, by show 1 ≤ 400000; omega⟩
              have due1e := due1d.same s24
              have due2e := due2d.same s24
              have D24 := D22b.same s24
              have K24 := K22b.trans (sm_kp s24)
              have hrd24 := s24 _ _ hrd22
              generalize upd H23 r3 (.lst [V.str (lnT "full" z3), V.ref p6]) = H24 at due1e due2e due3 D24 K24 hrd24 ⊢
              refine r_app hrd24 (by show 2 < sizeLine; omega) ?_
              have due1f := due1e.upd (o := .lst ([V.ref r1, V.ref r2] ++ [V.ref r3])) hrd24
              have due2f := due2e.upd (o := .lst ([V.ref r1, V.ref r2] ++ [V.ref r3])) hrd24
              have due3f := due3.upd (o := .lst ([V.ref r1, V.ref r2] ++ [V.ref r3])) hrd24
              have D25 : Sd (upd H24 rd (.lst ([V.ref r1, V.ref r2] ++ [V.ref r3]))) a := D24.upd nrd
              have K25 : Kp a H (upd H24 rd (.lst ([V.ref r1, V.ref r2] ++ [V.ref r3]))) := fun b o n h => (upd_ne (ne_of_none h frd)).trans ((K7.trans (K14.trans K24)) b o n h)
              have hrd25 : upd H24 rd (.lst ([V.ref r1, V.ref r2] ++ [V.ref r3])) rd = some (.lst ([V.ref r1, V.ref r2] ++ [V.ref r3])) := upd_same
              generalize upd H24 rd (.lst ([V.ref r1, V.ref r2] ++ [V.ref r3])) = H25 at due1f due2f due3f D25 K25 hrd25 ⊢
              refine ⟨by omega, nE.1, by omega, by omega, a, F, rfl, D25, hF2, fun z4 H26 k26 D26 hz4 => ⟨z4, rfl, by have := hz4.len; omega, by omega, fun p7 hp7 => r_ixL (SqL.of upd_same) (at_yes b2) ⟨by omega, fun p8 hp8 => ⟨by omega, fun r4 hr4 => ?_⟩⟩⟩⟩
              rw [ezF]
              have s26 := (same_new (o := .lst [V.str "no", V.str "yes"]) hp7).trans (same_new (o := .lst [V.str (yesno b2)]) hp8)
              have hp8' : upd (upd H26 p7 (.lst [V.str "no", V.str "yes"])) p8 (.lst [V.str (yesno b2)]) p8 = some (.lst [V.str (yesno b2)]) := upd_same
              have K26b := (K25.trans k26).trans (sm_kp s26)
              have hrd26 := s26 _ _ (k26 _ _ nrd hrd25)
              have D26b := D26.same s26
              have due1g := (due1f.kp D25 k26).same s26
              have due2g := (due2f.kp D25 k26).same s26
              have due3g := (due3f.kp D25 k26).same s26
              generalize upd (upd H26 p7 (.lst [V.str "no", V.str "yes"])) p8 (.lst [V.str (yesno b2)]) = H27 at hp8' K26b hrd26 D26b due1g due2g due3g hr4 ⊢
              have s27 := same_new (o := .lst [V.str ("free" ++ " " ++ sN E2 ++ " " ++ z4), V.ref p8]) hr4
              have due4 : DueAt (upd H27 r4 (.lst [V.str ("free" ++ " " ++ sN E2 ++ " " ++ z4), V.ref p8])) (.ref r4) := ⟨r4, p8, _, [yesno b2], _, rfl, upd_same, s27 _ _ hp8', .free E2 z4 F hz4 E3 E4 hF1 hF2, yes_due hb2, oks_yes b2, by show 1 ≤ 400000; omega⟩
              have due1h := due1g.same s27
              have due2h := due2g.same s27
              have due3h := due3g.same s27
              have K27 := K26b.trans (sm_kp s27)
              have D27 := D26b.same s27
              have hrd27 := s27 _ _ hrd26
              generalize upd H27 r4 (.lst [V.str ("free" ++ " " ++ sN E2 ++ " " ++ z4), V.ref p8]) = H28 at due1h due2h due3h due4 K27 D27 hrd27 ⊢
              refine ⟨by omega, fun p9 hp9 => r_cat (same_new hp9 _ _ hrd27) upd_same (by show 4 ≤ sizeLine; omega) fun t ht => ?_⟩
              have s28 := (same_new (o := .lst [V.ref r4]) hp9).trans (same_new (o := .lst ([V.ref r1, V.ref r2] ++ [V.ref r3] ++ [V.ref r4])) ht)
              have ht0 : H28 t = none := upd_free ht
              refine q t _ _ (K27.trans (sm_kp s28)) (D27.same s28) (K27.free (D27.ne ht0) ht0) upd_same fun x hx => ?_
              have hx' : x = .ref r1 ∨ x = .ref r2 ∨ x = .ref r3 ∨ x = .ref r4 := by simpa using hx
              rcases hx' with rfl | rfl | rfl | rfl
              · exact due1h.same s28
              · exact due2h.same s28
              · exact due3h.same s28
              · exact due4.same s28
end
abbrev s_law : Stmt := top 82
theorem sc_law : FnScope ["script", "desk", "cell", "line", "due", "told"] ["script"] (defScope s_law) := ⟨rfl, rfl, rfl, by decide +kernel, rfl, by decide +kernel, by decide +kernel⟩
def sp_law (K : PySem.W.Frag) : Sp := fun vs H Q _ => ∃ (a : Addr) (ns : List Int), vs = [.ref a] ∧ SqL K H a (ns.map V.int) ∧ ns.length ≤ 63 ∧ ∀ H', Q (.bl true) H'
section
variable {P : Program} {w : World} {K : PySem.W.Frag} {mg : PySem.Str → Option Value} {base : Heap}
theorem bi_law {f : Addr} {fd : FuncData} (F : Fun K "law" "law" s_law f fd) : Binds K fd ["script"] [] := F.binds (ps := ["script"]) fun _ _ _ _ _ _ us hl => match us, hl with | [_], _ => rfl
set_option maxHeartbeats 4000000 in
theorem ok_law {f : Addr} {fd : FuncData} (F : Fun K "law" "law" s_law f fd) (B : Bt mg)  (h_Desk___init__ : FnK P w K mg base CX0 3 "Desk" ["kept"] ["self"] (sp_Desk___init__ K)) (h__law_cells : Fn P w K mg base CX0 1 "_law_cells" ["script", "many"] (sp__law_cells K)) (h__law_dues : Fn P w K mg base CX0 5 "_law_dues" ["seed"] (sp__law_dues K)) (h__law_seed : Fn P w K mg base CX0 1 "_law_seed" ["cell"] (sp__law_seed K)) (h_Desk_ask : FnM P w K mg base CX0 15 "Desk" ["kept"] "ask" ["self", "line"] (sp_Desk_ask K)) : FnOk P w K mg base CX0 16 f fd ["script"] (sp_law K) := by
  refine F.ok sc_law (fun vs H Q E h => ?_) (fun cdv A outer s H vs Q E hr h => ?_)
  · obtain ⟨a, ns, rfl, hS, hlen, q⟩ := h
    rfl
  · obtain ⟨a, ns, rfl, hS, hlen, q⟩ := h
    refine ⟨_, (pss_cons (ps_set (i := 1) sc_law.nd rfl (Or.inl rfl) (pe_mk0 h_Desk___init__ (hr.mono (by decide)) (by rfl)))
      (pss_cons (ps_for PassesOwn.never rfl (pi_list (pe_fn h__law_cells (hr.mono (by decide)) (by rfl) (pa_cons (pv 0) (pa_cons pe_int pa_nil)))) (pg_name (i := 2) sc_law.nd rfl (Or.inl rfl))
        (pss_one (ps_for PassesOwn.never rfl (pi_list (pe_fn h__law_dues (hr.mono (by decide)) (by rfl) (pa_cons (pe_fn h__law_seed (hr.mono (by decide)) (by rfl) (pa_cons (pv 2) pa_nil)) pa_nil))) (k_lstG K rfl (pgs_cons (pg_name (i := 3) sc_law.nd rfl (Or.inl rfl)) (pgs_cons (pg_name (i := 4) sc_law.nd rfl (Or.inl rfl)) pgs_nil)))
          (pss_cons (ps_set (i := 5) sc_law.nd rfl (Or.inl rfl) (pe_mt (K := K) h_Desk_ask (hr.mono (by decide)) (pv 1) (pa_cons (pv 3) pa_nil)))
          (pss_cons (ps_if (PW.pt (pw_or (pt_not (pt_val (pe_callB (k_isi K) (by rfl) B.isinstance (by decide +kernel) (pa_cons (pv 5) (pa_cons (pe_bltn (v := .ty "list") (u := .type "list") (by rfl) B.list (by decide +kernel) rfl) pa_nil))))) (pw_or1 (pt_cmpR (k_neD K rfl hr.units) (pv 5) (pv 4) (nomark _)))))
            (pss_one (ps_ret pe_bl))
            pss_nil)
          (pss_cons (ps_expr (pe_bm PySem.F.plainAttrs_list PySem.F.slot_list_append PySem.F.type_list_append mt_append (pv 5) (pa_cons pe_str pa_nil)))
          (pss_one (ps_if (pt_cmpR (k_neD K rfl hr.units) (pe_mt (K := K) h_Desk_ask (hr.mono (by decide)) (pv 1) (pa_cons (pv 3) pa_nil)) (pv 4) (nomark _))
            (pss_one (ps_ret pe_bl))
            pss_nil))))))))
      (pss_one (ps_ret pe_bl)))), ?_⟩
    have sz : 500000 ≤ sizeLine := by decide
    walk_at "r"
    intro C q0 dx hC hq0 hdx hne
    refine ⟨q0, C, dx, rfl, hC, upd_same, fun p ln lo H1 hp hln hlo hO hfr => ⟨rfl, ?_⟩⟩
    have up : Same H H1 := fun b o h => hfr b o (ne_of_none h hq0) (by rw [upd_ne (ne_of_none h hq0), upd_ne (ne_of_none h hdx)]; exact h)
    walk_at "r"
    refine ⟨a, ns, 4, rfl, up.seq hS, hlen, fun cl cs H2 hcl s2 hCL _ hcl64 => ?_⟩
    have hO2 := hO.same s2
    walk_at "r"
    refine ⟨⟨_, SqL.of hCL⟩, for_l (xs := cs.map V.int) (fun i σ H' => ∃ v2 v3 v4 v5 : Option V, σ = [some (.ref a), some (.ref q0), v2, v3, v4, v5] ∧ DO K H' q0 p ln lo [] ∧ H' cl = some (.lst (cs.map V.int))) ⟨_, _, _, _, rfl, hO2, hCL⟩ ?_ ?_ ?_⟩
    · rintro i σ H' _ ⟨v2, v3, v4, v5, rfl, hO5, h5⟩
      exact SqL.of h5
    · rintro i x σ H3 hx ⟨v2, v3, v4, v5, rfl, hO3, h3⟩ N hN
      obtain ⟨c, _, rfl⟩ := int_at hx
      walk_at "r"
      refine ⟨c, rfl, fun a1 H4 ha1 s4 d4 => ?_⟩
      have m1 : cl ≠ a1 := ne_of_none h3 ha1
      have m2 : ln ≠ a1 := ne_of_none hO3.kp.ns ha1
      have hO4 := hO3.same s4
      refine ⟨a1, rfl, d4, fun t xs H5 k5 d5 ht h5 hdue => ?_⟩
      have hO5 : DO K H5 q0 p ln lo [] := hO4.keep (a := a1) (b := a1) (fun c o n1 _ e => k5 c o n1 e) d4.lst d4.lst m2 m2
      have h5c := k5 _ _ m1 (s4 _ _ h3)
      walk_at "r"
      refine ⟨⟨_, SqL.of h5⟩, for_l (xs := xs) (fun i σ H' => ∃ v3 v4 v5 : Option V, σ = [some (.ref a), some (.ref q0), some (.int c), v3, v4, v5] ∧ Same H5 H') ⟨_, _, _, rfl, Same.refl _⟩ ?_ ?_ ?_⟩
      · rintro i σ H' _ ⟨v3, v4, v5, rfl, s5⟩
        exact SqL.of (s5 _ _ h5)
      · rintro i x σ H6 hx ⟨v3, v4, v5, rfl, s5⟩ N2 hN2
        obtain ⟨r, d, z, ys, R, rfl, hr, hd, hA, hu, hok, hl⟩ := (hdue x (List.mem_of_getElem? hx)).same s5
        have hO6 := hO5.same s5
        walk_at "r"
        refine ⟨r, _, rfl, SqL.of hr, rfl, ?_⟩
        walk_at "r"
        refine ⟨hO6.dk.isO (by decide +kernel), ?_⟩
        refine ⟨q0, p, ln, lo, [], z, rfl, hO6, Nat.zero_le _, .inr (.inr (.inr ⟨R, hA, fun zs t2 H7 ht2 s7 hR h7 => ?_⟩))⟩
        have ez := hu zs hR
        subst ez
        walk_at "r"
        refine r_isi (ty_lst (SqL.of h7)) (c := true) (by decide +kernel) ?_
        walk_at "r"
        refine r_neLX (SqL.of h7) (SqL.of (s7 _ _ hd)) hok hok ?_
        walk_at "r"
        refine ⟨ty_list (SqL.of h7), r_app h7 (by rw [List.length_map]; omega) ?_⟩
        have s8 : Same H6 (upd H7 t2 (.lst (zs.map V.str ++ [V.str "x"]))) := fun b o hb => (upd_ne (ne_of_none hb ht2)).trans (s7 _ _ hb)
        generalize upd H7 t2 (.lst (zs.map V.str ++ [V.str "x"])) = H8 at s8 ⊢
        have hO8 := hO6.same s8
        refine ⟨hO8.dk.isO (by decide +kernel), ?_⟩
        refine ⟨q0, p, ln, lo, [], z, rfl, hO8, Nat.zero_le _, .inr (.inr (.inr ⟨R, hA, fun ys2 t3 H9 ht3 s9 hR3 h9 => ?_⟩))⟩
        have ez := hu ys2 hR3
        subst ez
        walk_at "r"
        refine r_neLX (SqL.of h9) (SqL.of (s9 _ _ (s8 _ _ hd))) hok hok ?_
        walk_at "r"
        exact hN2 _ _ ⟨_, _, _, rfl, s5.trans (s8.trans s9)⟩
      · rintro σ H6 ⟨v3, v4, v5, rfl, s5⟩
        walk_at "r"
        exact hN _ _ ⟨_, _, _, _, rfl, hO5.same s5, s5 _ _ h5c⟩
    · rintro σ H5 ⟨v2, v3, v4, v5, rfl, hO5, h5⟩
      walk_at "r"
      exact q _
end
theorem all_mk {l : PySem.W.OpenLaw} {w : World} {K : PySem.W.Frag} {h : Heap} {mg : PySem.Str → Option Value} {fa : Addr} (X : K.In h) (G : h.Ns mainGlobals mg) (hfa : mg "law" = some (.ref fa))
    {C0 : Addr} (aC0 : PySem.W.nsIn K mainGlobals "KeptProduct" = some (some (.ref C0))) (pg0 : PySem.W.plainGet K C0 Str.empty = true) (hd0 : PySem.W.hasDictIn K C0 = true) (po0 : PySem.W.plainOver K C0 = true) (sa0 : PySem.W.findIn K (.ref C0) "__setattr__" = some (some (.builtin "object.__setattr__"))) (mk0 : PySem.W.makesIn K C0 = true) (kc0 : PySem.W.keepIn K (.ref C0) = true)
    (n0_0 : PySem.W.findIn K (.ref C0) "numbers" = some none)
    (n0_1 : PySem.W.findIn K (.ref C0) "often" = some none)
    {C1 : Addr} (aC1 : PySem.W.nsIn K mainGlobals "Desk" = some (some (.ref C1))) (pg1 : PySem.W.plainGet K C1 Str.empty = true) (hd1 : PySem.W.hasDictIn K C1 = true) (po1 : PySem.W.plainOver K C1 = true) (sa1 : PySem.W.findIn K (.ref C1) "__setattr__" = some (some (.builtin "object.__setattr__"))) (mk1 : PySem.W.makesIn K C1 = true) (kc1 : PySem.W.keepIn K (.ref C1) = true)
    (n1_0 : PySem.W.findIn K (.ref C1) "kept" = some none)
    {f0 : Addr} {od0 an0 : Option Addr} {sl0 : Array (Option Value)} {oc0 kV0 dc0 pm0 cd0 ct0 : Value}
    (a0 : PySem.W.nsIn K mainGlobals "power_of" = some (some (.ref f0))) (l0 : K.lookup f0 = some ⟨oc0, od0, .func (PySem.W.fnOf "power_of" "power_of" (defArgs s_power_of) (defBody s_power_of) (defScope s_power_of) .none kV0 dc0 pm0 an0 cd0 ct0), sl0⟩) (c0 : PySem.W.codeIn K cd0 "power_of" = true) (k0 : PySem.W.keepIn K (.ref f0) = true)
    {f1 : Addr} {od1 an1 : Option Addr} {sl1 : Array (Option Value)} {oc1 kV1 dc1 pm1 cd1 ct1 : Value}
    (a1 : PySem.W.nsIn K mainGlobals "floor_root" = some (some (.ref f1))) (l1 : K.lookup f1 = some ⟨oc1, od1, .func (PySem.W.fnOf "floor_root" "floor_root" (defArgs s_floor_root) (defBody s_floor_root) (defScope s_floor_root) .none kV1 dc1 pm1 an1 cd1 ct1), sl1⟩) (c1 : PySem.W.codeIn K cd1 "floor_root" = true) (k1 : PySem.W.keepIn K (.ref f1) = true)
    {f2 : Addr} {od2 an2 : Option Addr} {sl2 : Array (Option Value)} {oc2 kV2 dc2 pm2 cd2 ct2 : Value}
    (a2 : PySem.W.nsIn K mainGlobals "most_exponent" = some (some (.ref f2))) (l2 : K.lookup f2 = some ⟨oc2, od2, .func (PySem.W.fnOf "most_exponent" "most_exponent" (defArgs s_most_exponent) (defBody s_most_exponent) (defScope s_most_exponent) .none kV2 dc2 pm2 an2 cd2 ct2), sl2⟩) (c2 : PySem.W.codeIn K cd2 "most_exponent" = true) (k2 : PySem.W.keepIn K (.ref f2) = true)
    {f3 : Addr} {od3 an3 : Option Addr} {sl3 : Array (Option Value)} {oc3 kV3 dc3 pm3 cd3 ct3 : Value}
    (a3 : PySem.W.nsIn K mainGlobals "just_by" = some (some (.ref f3))) (l3 : K.lookup f3 = some ⟨oc3, od3, .func (PySem.W.fnOf "just_by" "just_by" (defArgs s_just_by) (defBody s_just_by) (defScope s_just_by) .none kV3 dc3 pm3 an3 cd3 ct3), sl3⟩) (c3 : PySem.W.codeIn K cd3 "just_by" = true) (k3 : PySem.W.keepIn K (.ref f3) = true)
    {f4 : Addr} {od4 an4 : Option Addr} {sl4 : Array (Option Value)} {oc4 kV4 dc4 pm4 cd4 ct4 : Value}
    (a4 : PySem.W.nsIn K mainGlobals "powers_to_floors" = some (some (.ref f4))) (l4 : K.lookup f4 = some ⟨oc4, od4, .func (PySem.W.fnOf "powers_to" "powers_to" (defArgs s_powers_to_floors) (defBody s_powers_to_floors) (defScope s_powers_to_floors) .none kV4 dc4 pm4 an4 cd4 ct4), sl4⟩) (c4 : PySem.W.codeIn K cd4 "powers_to" = true) (k4 : PySem.W.keepIn K (.ref f4) = true)
    {f5 : Addr} {od5 an5 : Option Addr} {sl5 : Array (Option Value)} {oc5 kV5 dc5 pm5 cd5 ct5 : Value}
    (a5 : PySem.W.nsIn K mainGlobals "count_to" = some (some (.ref f5))) (l5 : K.lookup f5 = some ⟨oc5, od5, .func (PySem.W.fnOf "count_to" "count_to" (defArgs s_count_to) (defBody s_count_to) (defScope s_count_to) .none kV5 dc5 pm5 an5 cd5 ct5), sl5⟩) (c5 : PySem.W.codeIn K cd5 "count_to" = true) (k5 : PySem.W.keepIn K (.ref f5) = true)
    {f6 : Addr} {od6 an6 : Option Addr} {sl6 : Array (Option Value)} {oc6 kV6 dc6 pm6 cd6 ct6 : Value}
    (a6 : PySem.W.nsIn K mainGlobals "taken" = some (some (.ref f6))) (l6 : K.lookup f6 = some ⟨oc6, od6, .func (PySem.W.fnOf "taken" "taken" (defArgs s_taken) (defBody s_taken) (defScope s_taken) .none kV6 dc6 pm6 an6 cd6 ct6), sl6⟩) (c6 : PySem.W.codeIn K cd6 "taken" = true) (k6 : PySem.W.keepIn K (.ref f6) = true)
    {f7 : Addr} {od7 an7 : Option Addr} {sl7 : Array (Option Value)} {oc7 kV7 dc7 pm7 cd7 ct7 : Value}
    (a7 : PySem.W.nsIn K mainGlobals "root_of" = some (some (.ref f7))) (l7 : K.lookup f7 = some ⟨oc7, od7, .func (PySem.W.fnOf "root_of" "root_of" (defArgs s_root_of) (defBody s_root_of) (defScope s_root_of) .none kV7 dc7 pm7 an7 cd7 ct7), sl7⟩) (c7 : PySem.W.codeIn K cd7 "root_of" = true) (k7 : PySem.W.keepIn K (.ref f7) = true)
    {f8 : Addr} {od8 an8 : Option Addr} {sl8 : Array (Option Value)} {oc8 kV8 dc8 pm8 cd8 ct8 : Value}
    (a8 : PySem.W.nsIn K mainGlobals "figures_from" = some (some (.ref f8))) (l8 : K.lookup f8 = some ⟨oc8, od8, .func (PySem.W.fnOf "figures_from" "figures_from" (defArgs s_figures_from) (defBody s_figures_from) (defScope s_figures_from) .none kV8 dc8 pm8 an8 cd8 ct8), sl8⟩) (c8 : PySem.W.codeIn K cd8 "figures_from" = true) (k8 : PySem.W.keepIn K (.ref f8) = true)
    {f9 : Addr} {od9 an9 : Option Addr} {sl9 : Array (Option Value)} {oc9 kV9 dc9 pm9 cd9 ct9 : Value}
    (a9 : PySem.W.nsIn K mainGlobals "read_number" = some (some (.ref f9))) (l9 : K.lookup f9 = some ⟨oc9, od9, .func (PySem.W.fnOf "read_number" "read_number" (defArgs s_read_number) (defBody s_read_number) (defScope s_read_number) .none kV9 dc9 pm9 an9 cd9 ct9), sl9⟩) (c9 : PySem.W.codeIn K cd9 "read_number" = true) (k9 : PySem.W.keepIn K (.ref f9) = true)
    {f10 : Addr} {od10 an10 : Option Addr} {sl10 : Array (Option Value)} {oc10 kV10 dc10 pm10 cd10 ct10 : Value}
    (a10 : PySem.W.nsIn K mainGlobals "primes_in_kin" = some (some (.ref f10))) (l10 : K.lookup f10 = some ⟨oc10, od10, .func (PySem.W.fnOf "primes_in" "primes_in" (defArgs s_primes_in_kin) (defBody s_primes_in_kin) (defScope s_primes_in_kin) .none kV10 dc10 pm10 an10 cd10 ct10), sl10⟩) (c10 : PySem.W.codeIn K cd10 "primes_in" = true) (k10 : PySem.W.keepIn K (.ref f10) = true)
    {f11 : Addr} {od11 an11 : Option Addr} {sl11 : Array (Option Value)} {oc11 kV11 dc11 pm11 cd11 ct11 : Value}
    (a11 : PySem.W.nsIn K mainGlobals "is_full" = some (some (.ref f11))) (l11 : K.lookup f11 = some ⟨oc11, od11, .func (PySem.W.fnOf "is_full" "is_full" (defArgs s_is_full) (defBody s_is_full) (defScope s_is_full) .none kV11 dc11 pm11 an11 cd11 ct11), sl11⟩) (c11 : PySem.W.codeIn K cd11 "is_full" = true) (k11 : PySem.W.keepIn K (.ref f11) = true)
    {f12 : Addr} {od12 an12 : Option Addr} {sl12 : Array (Option Value)} {oc12 kV12 dc12 pm12 cd12 ct12 : Value}
    (a12 : PySem.W.nsIn K mainGlobals "greatest_in" = some (some (.ref f12))) (l12 : K.lookup f12 = some ⟨oc12, od12, .func (PySem.W.fnOf "greatest_in" "greatest_in" (defArgs s_greatest_in) (defBody s_greatest_in) (defScope s_greatest_in) .none kV12 dc12 pm12 an12 cd12 ct12), sl12⟩) (c12 : PySem.W.codeIn K cd12 "greatest_in" = true) (k12 : PySem.W.keepIn K (.ref f12) = true)
    {f13 : Addr} {od13 an13 : Option Addr} {sl13 : Array (Option Value)} {oc13 kV13 dc13 pm13 cd13 ct13 : Value}
    (a13 : PySem.W.nsIn K mainGlobals "is_free" = some (some (.ref f13))) (l13 : K.lookup f13 = some ⟨oc13, od13, .func (PySem.W.fnOf "is_free" "is_free" (defArgs s_is_free) (defBody s_is_free) (defScope s_is_free) .none kV13 dc13 pm13 an13 cd13 ct13), sl13⟩) (c13 : PySem.W.codeIn K cd13 "is_free" = true) (k13 : PySem.W.keepIn K (.ref f13) = true)
    {f14 : Addr} {od14 an14 : Option Addr} {sl14 : Array (Option Value)} {oc14 kV14 dc14 pm14 cd14 ct14 : Value}
    (a14 : PySem.W.nsIn K mainGlobals "place_of" = some (some (.ref f14))) (l14 : K.lookup f14 = some ⟨oc14, od14, .func (PySem.W.fnOf "place_of" "place_of" (defArgs s_place_of) (defBody s_place_of) (defScope s_place_of) .none kV14 dc14 pm14 an14 cd14 ct14), sl14⟩) (c14 : PySem.W.codeIn K cd14 "place_of" = true) (k14 : PySem.W.keepIn K (.ref f14) = true)
    {f15 : Addr} {od15 an15 : Option Addr} {sl15 : Array (Option Value)} {oc15 kV15 dc15 pm15 cd15 ct15 : Value}
    (a15 : PySem.W.nsIn K mainGlobals "greater_one" = some (some (.ref f15))) (l15 : K.lookup f15 = some ⟨oc15, od15, .func (PySem.W.fnOf "greater_one" "greater_one" (defArgs s_greater_one) (defBody s_greater_one) (defScope s_greater_one) .none kV15 dc15 pm15 an15 cd15 ct15), sl15⟩) (c15 : PySem.W.codeIn K cd15 "greater_one" = true) (k15 : PySem.W.keepIn K (.ref f15) = true)
    {f16 : Addr} {od16 an16 : Option Addr} {sl16 : Array (Option Value)} {oc16 kV16 dc16 pm16 cd16 ct16 : Value}
    (a16 : PySem.W.nsIn K mainGlobals "power_to" = some (some (.ref f16))) (l16 : K.lookup f16 = some ⟨oc16, od16, .func (PySem.W.fnOf "power_to" "power_to" (defArgs s_power_to) (defBody s_power_to) (defScope s_power_to) .none kV16 dc16 pm16 an16 cd16 ct16), sl16⟩) (c16 : PySem.W.codeIn K cd16 "power_to" = true) (k16 : PySem.W.keepIn K (.ref f16) = true)
    {f17 : Addr} {od17 an17 : Option Addr} {sl17 : Array (Option Value)} {oc17 kV17 dc17 pm17 cd17 ct17 : Value}
    (a17 : PySem.W.nsIn K mainGlobals "nth_power" = some (some (.ref f17))) (l17 : K.lookup f17 = some ⟨oc17, od17, .func (PySem.W.fnOf "nth_power" "nth_power" (defArgs s_nth_power) (defBody s_nth_power) (defScope s_nth_power) .none kV17 dc17 pm17 an17 cd17 ct17), sl17⟩) (c17 : PySem.W.codeIn K cd17 "nth_power" = true) (k17 : PySem.W.keepIn K (.ref f17) = true)
    {f18 : Addr} {od18 an18 : Option Addr} {sl18 : Array (Option Value)} {oc18 kV18 dc18 pm18 cd18 ct18 : Value}
    (a18 : PySem.W.nsIn K mainGlobals "beside" = some (some (.ref f18))) (l18 : K.lookup f18 = some ⟨oc18, od18, .func (PySem.W.fnOf "beside" "beside" (defArgs s_beside) (defBody s_beside) (defScope s_beside) .none kV18 dc18 pm18 an18 cd18 ct18), sl18⟩) (c18 : PySem.W.codeIn K cd18 "beside" = true) (k18 : PySem.W.keepIn K (.ref f18) = true)
    {f19 : Addr} {od19 an19 : Option Addr} {sl19 : Array (Option Value)} {oc19 kV19 dc19 pm19 cd19 ct19 : Value}
    (a19 : PySem.W.nsIn K mainGlobals "nearest" = some (some (.ref f19))) (l19 : K.lookup f19 = some ⟨oc19, od19, .func (PySem.W.fnOf "nearest" "nearest" (defArgs s_nearest) (defBody s_nearest) (defScope s_nearest) .none kV19 dc19 pm19 an19 cd19 ct19), sl19⟩) (c19 : PySem.W.codeIn K cd19 "nearest" = true) (k19 : PySem.W.keepIn K (.ref f19) = true)
    {f20 : Addr} {od20 an20 : Option Addr} {sl20 : Array (Option Value)} {oc20 kV20 dc20 pm20 cd20 ct20 : Value}
    (a20 : PySem.W.nsIn K mainGlobals "primes_in_kept" = some (some (.ref f20))) (l20 : K.lookup f20 = some ⟨oc20, od20, .func (PySem.W.fnOf "primes_in" "primes_in" (defArgs s_primes_in_kept) (defBody s_primes_in_kept) (defScope s_primes_in_kept) .none kV20 dc20 pm20 an20 cd20 ct20), sl20⟩) (c20 : PySem.W.codeIn K cd20 "primes_in" = true) (k20 : PySem.W.keepIn K (.ref f20) = true)
    {f21 : Addr} {od21 an21 : Option Addr} {sl21 : Array (Option Value)} {oc21 kV21 dc21 pm21 cd21 ct21 : Value}
    (a21 : PySem.W.nsIn K mainGlobals "common_divisor" = some (some (.ref f21))) (l21 : K.lookup f21 = some ⟨oc21, od21, .func (PySem.W.fnOf "common_divisor" "common_divisor" (defArgs s_common_divisor) (defBody s_common_divisor) (defScope s_common_divisor) .none kV21 dc21 pm21 an21 cd21 ct21), sl21⟩) (c21 : PySem.W.codeIn K cd21 "common_divisor" = true) (k21 : PySem.W.keepIn K (.ref f21) = true)
    {f22 : Addr} {od22 an22 : Option Addr} {sl22 : Array (Option Value)} {oc22 kV22 dc22 pm22 cd22 ct22 : Value}
    (a22 : PySem.W.findIn K (.ref C0) "__init__" = some (some (.ref f22))) (i22 : PySem.W.isFn K (.ref f22) = true) (l22 : K.lookup f22 = some ⟨oc22, od22, .func (PySem.W.fnOf "__init__" "KeptProduct.__init__" (defArgs s_KeptProduct___init__) (defBody s_KeptProduct___init__) (defScope s_KeptProduct___init__) .none kV22 dc22 pm22 an22 cd22 ct22), sl22⟩) (c22 : PySem.W.codeIn K cd22 "KeptProduct.__init__" = true) (k22 : PySem.W.keepIn K (.ref f22) = true)
    {f23 : Addr} {od23 an23 : Option Addr} {sl23 : Array (Option Value)} {oc23 kV23 dc23 pm23 cd23 ct23 : Value}
    (a23 : PySem.W.findIn K (.ref C0) "put_primes" = some (some (.ref f23))) (i23 : PySem.W.isFn K (.ref f23) = true) (l23 : K.lookup f23 = some ⟨oc23, od23, .func (PySem.W.fnOf "put_primes" "KeptProduct.put_primes" (defArgs s_KeptProduct_put_primes) (defBody s_KeptProduct_put_primes) (defScope s_KeptProduct_put_primes) .none kV23 dc23 pm23 an23 cd23 ct23), sl23⟩) (c23 : PySem.W.codeIn K cd23 "KeptProduct.put_primes" = true) (k23 : PySem.W.keepIn K (.ref f23) = true)
    {f24 : Addr} {od24 an24 : Option Addr} {sl24 : Array (Option Value)} {oc24 kV24 dc24 pm24 cd24 ct24 : Value}
    (a24 : PySem.W.findIn K (.ref C0) "come" = some (some (.ref f24))) (i24 : PySem.W.isFn K (.ref f24) = true) (l24 : K.lookup f24 = some ⟨oc24, od24, .func (PySem.W.fnOf "come" "KeptProduct.come" (defArgs s_KeptProduct_come) (defBody s_KeptProduct_come) (defScope s_KeptProduct_come) .none kV24 dc24 pm24 an24 cd24 ct24), sl24⟩) (c24 : PySem.W.codeIn K cd24 "KeptProduct.come" = true) (k24 : PySem.W.keepIn K (.ref f24) = true)
    {f25 : Addr} {od25 an25 : Option Addr} {sl25 : Array (Option Value)} {oc25 kV25 dc25 pm25 cd25 ct25 : Value}
    (a25 : PySem.W.findIn K (.ref C0) "go" = some (some (.ref f25))) (i25 : PySem.W.isFn K (.ref f25) = true) (l25 : K.lookup f25 = some ⟨oc25, od25, .func (PySem.W.fnOf "go" "KeptProduct.go" (defArgs s_KeptProduct_go) (defBody s_KeptProduct_go) (defScope s_KeptProduct_go) .none kV25 dc25 pm25 an25 cd25 ct25), sl25⟩) (c25 : PySem.W.codeIn K cd25 "KeptProduct.go" = true) (k25 : PySem.W.keepIn K (.ref f25) = true)
    {f26 : Addr} {od26 an26 : Option Addr} {sl26 : Array (Option Value)} {oc26 kV26 dc26 pm26 cd26 ct26 : Value}
    (a26 : PySem.W.findIn K (.ref C0) "numbers_now" = some (some (.ref f26))) (i26 : PySem.W.isFn K (.ref f26) = true) (l26 : K.lookup f26 = some ⟨oc26, od26, .func (PySem.W.fnOf "numbers_now" "KeptProduct.numbers_now" (defArgs s_KeptProduct_numbers_now) (defBody s_KeptProduct_numbers_now) (defScope s_KeptProduct_numbers_now) .none kV26 dc26 pm26 an26 cd26 ct26), sl26⟩) (c26 : PySem.W.codeIn K cd26 "KeptProduct.numbers_now" = true) (k26 : PySem.W.keepIn K (.ref f26) = true)
    {f27 : Addr} {od27 an27 : Option Addr} {sl27 : Array (Option Value)} {oc27 kV27 dc27 pm27 cd27 ct27 : Value}
    (a27 : PySem.W.findIn K (.ref C0) "exponent_now" = some (some (.ref f27))) (i27 : PySem.W.isFn K (.ref f27) = true) (l27 : K.lookup f27 = some ⟨oc27, od27, .func (PySem.W.fnOf "exponent_now" "KeptProduct.exponent_now" (defArgs s_KeptProduct_exponent_now) (defBody s_KeptProduct_exponent_now) (defScope s_KeptProduct_exponent_now) .none kV27 dc27 pm27 an27 cd27 ct27), sl27⟩) (c27 : PySem.W.codeIn K cd27 "KeptProduct.exponent_now" = true) (k27 : PySem.W.keepIn K (.ref f27) = true)
    {f28 : Addr} {od28 an28 : Option Addr} {sl28 : Array (Option Value)} {oc28 kV28 dc28 pm28 cd28 ct28 : Value}
    (a28 : PySem.W.findIn K (.ref C0) "lacks_now" = some (some (.ref f28))) (i28 : PySem.W.isFn K (.ref f28) = true) (l28 : K.lookup f28 = some ⟨oc28, od28, .func (PySem.W.fnOf "lacks_now" "KeptProduct.lacks_now" (defArgs s_KeptProduct_lacks_now) (defBody s_KeptProduct_lacks_now) (defScope s_KeptProduct_lacks_now) .none kV28 dc28 pm28 an28 cd28 ct28), sl28⟩) (c28 : PySem.W.codeIn K cd28 "KeptProduct.lacks_now" = true) (k28 : PySem.W.keepIn K (.ref f28) = true)
    {f29 : Addr} {od29 an29 : Option Addr} {sl29 : Array (Option Value)} {oc29 kV29 dc29 pm29 cd29 ct29 : Value}
    (a29 : PySem.W.nsIn K mainGlobals "taken_to" = some (some (.ref f29))) (l29 : K.lookup f29 = some ⟨oc29, od29, .func (PySem.W.fnOf "taken_to" "taken_to" (defArgs s_taken_to) (defBody s_taken_to) (defScope s_taken_to) .none kV29 dc29 pm29 an29 cd29 ct29), sl29⟩) (c29 : PySem.W.codeIn K cd29 "taken_to" = true) (k29 : PySem.W.keepIn K (.ref f29) = true)
    {f30 : Addr} {od30 an30 : Option Addr} {sl30 : Array (Option Value)} {oc30 kV30 dc30 pm30 cd30 ct30 : Value}
    (a30 : PySem.W.nsIn K mainGlobals "higher_powers" = some (some (.ref f30))) (l30 : K.lookup f30 = some ⟨oc30, od30, .func (PySem.W.fnOf "higher_powers" "higher_powers" (defArgs s_higher_powers) (defBody s_higher_powers) (defScope s_higher_powers) .none kV30 dc30 pm30 an30 cd30 ct30), sl30⟩) (c30 : PySem.W.codeIn K cd30 "higher_powers" = true) (k30 : PySem.W.keepIn K (.ref f30) = true)
    {f31 : Addr} {od31 an31 : Option Addr} {sl31 : Array (Option Value)} {oc31 kV31 dc31 pm31 cd31 ct31 : Value}
    (a31 : PySem.W.nsIn K mainGlobals "is_square" = some (some (.ref f31))) (l31 : K.lookup f31 = some ⟨oc31, od31, .func (PySem.W.fnOf "is_square" "is_square" (defArgs s_is_square) (defBody s_is_square) (defScope s_is_square) .none kV31 dc31 pm31 an31 cd31 ct31), sl31⟩) (c31 : PySem.W.codeIn K cd31 "is_square" = true) (k31 : PySem.W.keepIn K (.ref f31) = true)
    {f32 : Addr} {od32 an32 : Option Addr} {sl32 : Array (Option Value)} {oc32 kV32 dc32 pm32 cd32 ct32 : Value}
    (a32 : PySem.W.nsIn K mainGlobals "squares_apart" = some (some (.ref f32))) (l32 : K.lookup f32 = some ⟨oc32, od32, .func (PySem.W.fnOf "squares_apart" "squares_apart" (defArgs s_squares_apart) (defBody s_squares_apart) (defScope s_squares_apart) .none kV32 dc32 pm32 an32 cd32 ct32), sl32⟩) (c32 : PySem.W.codeIn K cd32 "squares_apart" = true) (k32 : PySem.W.keepIn K (.ref f32) = true)
    {f33 : Addr} {od33 an33 : Option Addr} {sl33 : Array (Option Value)} {oc33 kV33 dc33 pm33 cd33 ct33 : Value}
    (a33 : PySem.W.nsIn K mainGlobals "pairs_apart" = some (some (.ref f33))) (l33 : K.lookup f33 = some ⟨oc33, od33, .func (PySem.W.fnOf "pairs_apart" "pairs_apart" (defArgs s_pairs_apart) (defBody s_pairs_apart) (defScope s_pairs_apart) .none kV33 dc33 pm33 an33 cd33 ct33), sl33⟩) (c33 : PySem.W.codeIn K cd33 "pairs_apart" = true) (k33 : PySem.W.keepIn K (.ref f33) = true)
    {f34 : Addr} {od34 an34 : Option Addr} {sl34 : Array (Option Value)} {oc34 kV34 dc34 pm34 cd34 ct34 : Value}
    (a34 : PySem.W.nsIn K mainGlobals "powers_to_sums" = some (some (.ref f34))) (l34 : K.lookup f34 = some ⟨oc34, od34, .func (PySem.W.fnOf "powers_to" "powers_to" (defArgs s_powers_to_sums) (defBody s_powers_to_sums) (defScope s_powers_to_sums) .none kV34 dc34 pm34 an34 cd34 ct34), sl34⟩) (c34 : PySem.W.codeIn K cd34 "powers_to" = true) (k34 : PySem.W.keepIn K (.ref f34) = true)
    {f35 : Addr} {od35 an35 : Option Addr} {sl35 : Array (Option Value)} {oc35 kV35 dc35 pm35 cd35 ct35 : Value}
    (a35 : PySem.W.nsIn K mainGlobals "pairs_with" = some (some (.ref f35))) (l35 : K.lookup f35 = some ⟨oc35, od35, .func (PySem.W.fnOf "pairs_with" "pairs_with" (defArgs s_pairs_with) (defBody s_pairs_with) (defScope s_pairs_with) .none kV35 dc35 pm35 an35 cd35 ct35), sl35⟩) (c35 : PySem.W.codeIn K cd35 "pairs_with" = true) (k35 : PySem.W.keepIn K (.ref f35) = true)
    {f36 : Addr} {od36 an36 : Option Addr} {sl36 : Array (Option Value)} {oc36 kV36 dc36 pm36 cd36 ct36 : Value}
    (a36 : PySem.W.nsIn K mainGlobals "ways_of" = some (some (.ref f36))) (l36 : K.lookup f36 = some ⟨oc36, od36, .func (PySem.W.fnOf "ways_of" "ways_of" (defArgs s_ways_of) (defBody s_ways_of) (defScope s_ways_of) .none kV36 dc36 pm36 an36 cd36 ct36), sl36⟩) (c36 : PySem.W.codeIn K cd36 "ways_of" = true) (k36 : PySem.W.keepIn K (.ref f36) = true)
    {f37 : Addr} {od37 an37 : Option Addr} {sl37 : Array (Option Value)} {oc37 kV37 dc37 pm37 cd37 ct37 : Value}
    (a37 : PySem.W.nsIn K mainGlobals "need_words" = some (some (.ref f37))) (l37 : K.lookup f37 = some ⟨oc37, od37, .func (PySem.W.fnOf "need_words" "need_words" (defArgs s_need_words) (defBody s_need_words) (defScope s_need_words) .none kV37 dc37 pm37 an37 cd37 ct37), sl37⟩) (c37 : PySem.W.codeIn K cd37 "need_words" = true) (k37 : PySem.W.keepIn K (.ref f37) = true)
    {f38 : Addr} {od38 an38 : Option Addr} {sl38 : Array (Option Value)} {oc38 kV38 dc38 pm38 cd38 ct38 : Value}
    (a38 : PySem.W.nsIn K mainGlobals "plain_number" = some (some (.ref f38))) (l38 : K.lookup f38 = some ⟨oc38, od38, .func (PySem.W.fnOf "plain_number" "plain_number" (defArgs s_plain_number) (defBody s_plain_number) (defScope s_plain_number) .none kV38 dc38 pm38 an38 cd38 ct38), sl38⟩) (c38 : PySem.W.codeIn K cd38 "plain_number" = true) (k38 : PySem.W.keepIn K (.ref f38) = true)
    {f39 : Addr} {od39 an39 : Option Addr} {sl39 : Array (Option Value)} {oc39 kV39 dc39 pm39 cd39 ct39 : Value}
    (a39 : PySem.W.nsIn K mainGlobals "bounded" = some (some (.ref f39))) (l39 : K.lookup f39 = some ⟨oc39, od39, .func (PySem.W.fnOf "bounded" "bounded" (defArgs s_bounded) (defBody s_bounded) (defScope s_bounded) .none kV39 dc39 pm39 an39 cd39 ct39), sl39⟩) (c39 : PySem.W.codeIn K cd39 "bounded" = true) (k39 : PySem.W.keepIn K (.ref f39) = true)
    {f40 : Addr} {od40 an40 : Option Addr} {sl40 : Array (Option Value)} {oc40 kV40 dc40 pm40 cd40 ct40 : Value}
    (a40 : PySem.W.findIn K (.ref C1) "__init__" = some (some (.ref f40))) (i40 : PySem.W.isFn K (.ref f40) = true) (l40 : K.lookup f40 = some ⟨oc40, od40, .func (PySem.W.fnOf "__init__" "Desk.__init__" (defArgs s_Desk___init__) (defBody s_Desk___init__) (defScope s_Desk___init__) .none kV40 dc40 pm40 an40 cd40 ct40), sl40⟩) (c40 : PySem.W.codeIn K cd40 "Desk.__init__" = true) (k40 : PySem.W.keepIn K (.ref f40) = true)
    {f41 : Addr} {od41 an41 : Option Addr} {sl41 : Array (Option Value)} {oc41 kV41 dc41 pm41 cd41 ct41 : Value}
    (a41 : PySem.W.findIn K (.ref C1) "change_by" = some (some (.ref f41))) (i41 : PySem.W.isFn K (.ref f41) = true) (l41 : K.lookup f41 = some ⟨oc41, od41, .func (PySem.W.fnOf "change_by" "Desk.change_by" (defArgs s_Desk_change_by) (defBody s_Desk_change_by) (defScope s_Desk_change_by) .none kV41 dc41 pm41 an41 cd41 ct41), sl41⟩) (c41 : PySem.W.codeIn K cd41 "Desk.change_by" = true) (k41 : PySem.W.keepIn K (.ref f41) = true)
    {f42 : Addr} {od42 an42 : Option Addr} {sl42 : Array (Option Value)} {oc42 kV42 dc42 pm42 cd42 ct42 : Value}
    (a42 : PySem.W.findIn K (.ref C1) "told_of_two" = some (some (.ref f42))) (i42 : PySem.W.isFn K (.ref f42) = true) (l42 : K.lookup f42 = some ⟨oc42, od42, .func (PySem.W.fnOf "told_of_two" "Desk.told_of_two" (defArgs s_Desk_told_of_two) (defBody s_Desk_told_of_two) (defScope s_Desk_told_of_two) .none kV42 dc42 pm42 an42 cd42 ct42), sl42⟩) (c42 : PySem.W.codeIn K cd42 "Desk.told_of_two" = true) (k42 : PySem.W.keepIn K (.ref f42) = true)
    {f43 : Addr} {od43 an43 : Option Addr} {sl43 : Array (Option Value)} {oc43 kV43 dc43 pm43 cd43 ct43 : Value}
    (a43 : PySem.W.findIn K (.ref C1) "told_of" = some (some (.ref f43))) (i43 : PySem.W.isFn K (.ref f43) = true) (l43 : K.lookup f43 = some ⟨oc43, od43, .func (PySem.W.fnOf "told_of" "Desk.told_of" (defArgs s_Desk_told_of) (defBody s_Desk_told_of) (defScope s_Desk_told_of) .none kV43 dc43 pm43 an43 cd43 ct43), sl43⟩) (c43 : PySem.W.codeIn K cd43 "Desk.told_of" = true) (k43 : PySem.W.keepIn K (.ref f43) = true)
    {f44 : Addr} {od44 an44 : Option Addr} {sl44 : Array (Option Value)} {oc44 kV44 dc44 pm44 cd44 ct44 : Value}
    (a44 : PySem.W.findIn K (.ref C1) "told" = some (some (.ref f44))) (i44 : PySem.W.isFn K (.ref f44) = true) (l44 : K.lookup f44 = some ⟨oc44, od44, .func (PySem.W.fnOf "told" "Desk.told" (defArgs s_Desk_told) (defBody s_Desk_told) (defScope s_Desk_told) .none kV44 dc44 pm44 an44 cd44 ct44), sl44⟩) (c44 : PySem.W.codeIn K cd44 "Desk.told" = true) (k44 : PySem.W.keepIn K (.ref f44) = true)
    {f45 : Addr} {od45 an45 : Option Addr} {sl45 : Array (Option Value)} {oc45 kV45 dc45 pm45 cd45 ct45 : Value}
    (a45 : PySem.W.findIn K (.ref C1) "ask" = some (some (.ref f45))) (i45 : PySem.W.isFn K (.ref f45) = true) (l45 : K.lookup f45 = some ⟨oc45, od45, .func (PySem.W.fnOf "ask" "Desk.ask" (defArgs s_Desk_ask) (defBody s_Desk_ask) (defScope s_Desk_ask) .none kV45 dc45 pm45 an45 cd45 ct45), sl45⟩) (c45 : PySem.W.codeIn K cd45 "Desk.ask" = true) (k45 : PySem.W.keepIn K (.ref f45) = true)
    {f46 : Addr} {od46 an46 : Option Addr} {sl46 : Array (Option Value)} {oc46 kV46 dc46 pm46 cd46 ct46 : Value}
    (a46 : PySem.W.nsIn K mainGlobals "_law_seed" = some (some (.ref f46))) (l46 : K.lookup f46 = some ⟨oc46, od46, .func (PySem.W.fnOf "_law_seed" "_law_seed" (defArgs s__law_seed) (defBody s__law_seed) (defScope s__law_seed) .none kV46 dc46 pm46 an46 cd46 ct46), sl46⟩) (c46 : PySem.W.codeIn K cd46 "_law_seed" = true) (k46 : PySem.W.keepIn K (.ref f46) = true)
    {f47 : Addr} {od47 an47 : Option Addr} {sl47 : Array (Option Value)} {oc47 kV47 dc47 pm47 cd47 ct47 : Value}
    (a47 : PySem.W.nsIn K mainGlobals "_law_draw" = some (some (.ref f47))) (l47 : K.lookup f47 = some ⟨oc47, od47, .func (PySem.W.fnOf "_law_draw" "_law_draw" (defArgs s__law_draw) (defBody s__law_draw) (defScope s__law_draw) .none kV47 dc47 pm47 an47 cd47 ct47), sl47⟩) (c47 : PySem.W.codeIn K cd47 "_law_draw" = true) (k47 : PySem.W.keepIn K (.ref f47) = true)
    {f48 : Addr} {od48 an48 : Option Addr} {sl48 : Array (Option Value)} {oc48 kV48 dc48 pm48 cd48 ct48 : Value}
    (a48 : PySem.W.nsIn K mainGlobals "_law_cells" = some (some (.ref f48))) (l48 : K.lookup f48 = some ⟨oc48, od48, .func (PySem.W.fnOf "_law_cells" "_law_cells" (defArgs s__law_cells) (defBody s__law_cells) (defScope s__law_cells) .none kV48 dc48 pm48 an48 cd48 ct48), sl48⟩) (c48 : PySem.W.codeIn K cd48 "_law_cells" = true) (k48 : PySem.W.keepIn K (.ref f48) = true)
    {f49 : Addr} {od49 an49 : Option Addr} {sl49 : Array (Option Value)} {oc49 kV49 dc49 pm49 cd49 ct49 : Value}
    (a49 : PySem.W.nsIn K mainGlobals "_law_taken" = some (some (.ref f49))) (l49 : K.lookup f49 = some ⟨oc49, od49, .func (PySem.W.fnOf "_law_taken" "_law_taken" (defArgs s__law_taken) (defBody s__law_taken) (defScope s__law_taken) .none kV49 dc49 pm49 an49 cd49 ct49), sl49⟩) (c49 : PySem.W.codeIn K cd49 "_law_taken" = true) (k49 : PySem.W.keepIn K (.ref f49) = true)
    {f50 : Addr} {od50 an50 : Option Addr} {sl50 : Array (Option Value)} {oc50 kV50 dc50 pm50 cd50 ct50 : Value}
    (a50 : PySem.W.nsIn K mainGlobals "_law_root" = some (some (.ref f50))) (l50 : K.lookup f50 = some ⟨oc50, od50, .func (PySem.W.fnOf "_law_root" "_law_root" (defArgs s__law_root) (defBody s__law_root) (defScope s__law_root) .none kV50 dc50 pm50 an50 cd50 ct50), sl50⟩) (c50 : PySem.W.codeIn K cd50 "_law_root" = true) (k50 : PySem.W.keepIn K (.ref f50) = true)
    {f51 : Addr} {od51 an51 : Option Addr} {sl51 : Array (Option Value)} {oc51 kV51 dc51 pm51 cd51 ct51 : Value}
    (a51 : PySem.W.nsIn K mainGlobals "_law_ways" = some (some (.ref f51))) (l51 : K.lookup f51 = some ⟨oc51, od51, .func (PySem.W.fnOf "_law_ways" "_law_ways" (defArgs s__law_ways) (defBody s__law_ways) (defScope s__law_ways) .none kV51 dc51 pm51 an51 cd51 ct51), sl51⟩) (c51 : PySem.W.codeIn K cd51 "_law_ways" = true) (k51 : PySem.W.keepIn K (.ref f51) = true)
    {f52 : Addr} {od52 an52 : Option Addr} {sl52 : Array (Option Value)} {oc52 kV52 dc52 pm52 cd52 ct52 : Value}
    (a52 : PySem.W.nsIn K mainGlobals "_law_number" = some (some (.ref f52))) (l52 : K.lookup f52 = some ⟨oc52, od52, .func (PySem.W.fnOf "_law_number" "_law_number" (defArgs s__law_number) (defBody s__law_number) (defScope s__law_number) .none kV52 dc52 pm52 an52 cd52 ct52), sl52⟩) (c52 : PySem.W.codeIn K cd52 "_law_number" = true) (k52 : PySem.W.keepIn K (.ref f52) = true)
    {f53 : Addr} {od53 an53 : Option Addr} {sl53 : Array (Option Value)} {oc53 kV53 dc53 pm53 cd53 ct53 : Value}
    (a53 : PySem.W.nsIn K mainGlobals "_law_text" = some (some (.ref f53))) (l53 : K.lookup f53 = some ⟨oc53, od53, .func (PySem.W.fnOf "_law_text" "_law_text" (defArgs s__law_text) (defBody s__law_text) (defScope s__law_text) .none kV53 dc53 pm53 an53 cd53 ct53), sl53⟩) (c53 : PySem.W.codeIn K cd53 "_law_text" = true) (k53 : PySem.W.keepIn K (.ref f53) = true)
    {f54 : Addr} {od54 an54 : Option Addr} {sl54 : Array (Option Value)} {oc54 kV54 dc54 pm54 cd54 ct54 : Value}
    (a54 : PySem.W.nsIn K mainGlobals "_law_powers" = some (some (.ref f54))) (l54 : K.lookup f54 = some ⟨oc54, od54, .func (PySem.W.fnOf "_law_powers" "_law_powers" (defArgs s__law_powers) (defBody s__law_powers) (defScope s__law_powers) .none kV54 dc54 pm54 an54 cd54 ct54), sl54⟩) (c54 : PySem.W.codeIn K cd54 "_law_powers" = true) (k54 : PySem.W.keepIn K (.ref f54) = true)
    {f55 : Addr} {od55 an55 : Option Addr} {sl55 : Array (Option Value)} {oc55 kV55 dc55 pm55 cd55 ct55 : Value}
    (a55 : PySem.W.nsIn K mainGlobals "_law_often" = some (some (.ref f55))) (l55 : K.lookup f55 = some ⟨oc55, od55, .func (PySem.W.fnOf "_law_often" "_law_often" (defArgs s__law_often) (defBody s__law_often) (defScope s__law_often) .none kV55 dc55 pm55 an55 cd55 ct55), sl55⟩) (c55 : PySem.W.codeIn K cd55 "_law_often" = true) (k55 : PySem.W.keepIn K (.ref f55) = true)
    {f56 : Addr} {od56 an56 : Option Addr} {sl56 : Array (Option Value)} {oc56 kV56 dc56 pm56 cd56 ct56 : Value}
    (a56 : PySem.W.nsIn K mainGlobals "_law_kin" = some (some (.ref f56))) (l56 : K.lookup f56 = some ⟨oc56, od56, .func (PySem.W.fnOf "_law_kin" "_law_kin" (defArgs s__law_kin) (defBody s__law_kin) (defScope s__law_kin) .none kV56 dc56 pm56 an56 cd56 ct56), sl56⟩) (c56 : PySem.W.codeIn K cd56 "_law_kin" = true) (k56 : PySem.W.keepIn K (.ref f56) = true)
    {f57 : Addr} {od57 an57 : Option Addr} {sl57 : Array (Option Value)} {oc57 kV57 dc57 pm57 cd57 ct57 : Value}
    (a57 : PySem.W.nsIn K mainGlobals "_law_fair" = some (some (.ref f57))) (l57 : K.lookup f57 = some ⟨oc57, od57, .func (PySem.W.fnOf "_law_fair" "_law_fair" (defArgs s__law_fair) (defBody s__law_fair) (defScope s__law_fair) .none kV57 dc57 pm57 an57 cd57 ct57), sl57⟩) (c57 : PySem.W.codeIn K cd57 "_law_fair" = true) (k57 : PySem.W.keepIn K (.ref f57) = true)
    {f58 : Addr} {od58 an58 : Option Addr} {sl58 : Array (Option Value)} {oc58 kV58 dc58 pm58 cd58 ct58 : Value}
    (a58 : PySem.W.nsIn K mainGlobals "_law_two" = some (some (.ref f58))) (l58 : K.lookup f58 = some ⟨oc58, od58, .func (PySem.W.fnOf "_law_two" "_law_two" (defArgs s__law_two) (defBody s__law_two) (defScope s__law_two) .none kV58 dc58 pm58 an58 cd58 ct58), sl58⟩) (c58 : PySem.W.codeIn K cd58 "_law_two" = true) (k58 : PySem.W.keepIn K (.ref f58) = true)
    {f59 : Addr} {od59 an59 : Option Addr} {sl59 : Array (Option Value)} {oc59 kV59 dc59 pm59 cd59 ct59 : Value}
    (a59 : PySem.W.nsIn K mainGlobals "_law_dues" = some (some (.ref f59))) (l59 : K.lookup f59 = some ⟨oc59, od59, .func (PySem.W.fnOf "_law_dues" "_law_dues" (defArgs s__law_dues) (defBody s__law_dues) (defScope s__law_dues) .none kV59 dc59 pm59 an59 cd59 ct59), sl59⟩) (c59 : PySem.W.codeIn K cd59 "_law_dues" = true) (k59 : PySem.W.keepIn K (.ref f59) = true)
    {f60 : Addr} {od60 an60 : Option Addr} {sl60 : Array (Option Value)} {oc60 kV60 dc60 pm60 cd60 ct60 : Value}
    (a60 : PySem.W.nsIn K mainGlobals "law" = some (some (.ref f60))) (l60 : K.lookup f60 = some ⟨oc60, od60, .func (PySem.W.fnOf "law" "law" (defArgs s_law) (defBody s_law) (defScope s_law) .none kV60 dc60 pm60 an60 cd60 ct60), sl60⟩) (c60 : PySem.W.codeIn K cd60 "law" = true) (k60 : PySem.W.keepIn K (.ref f60) = true)
    {gt0 : Tok} (gg0 : PySem.W.nsIn K mainGlobals "FIGURES_exact" = some (some (.str "0123456789" gt0)))
    {gt1 : Tok} (gg1 : PySem.W.nsIn K mainGlobals "MOST_EXPONENT_exact" = some (some (.int 200 gt1)))
    {gt2 : Tok} (gg2 : PySem.W.nsIn K mainGlobals "FIGURES_whole" = some (some (.str "0123456789" gt2)))
    {gt3 : Tok} (gg3 : PySem.W.nsIn K mainGlobals "MOST_FIGURES" = some (some (.int 18 gt3)))
    {gt4 : Tok} (gg4 : PySem.W.nsIn K mainGlobals "MOST_NUMBERS" = some (some (.int 60 gt4)))
    (gg5 : PySem.W.nsIn K cStatics "sys.int_max_str_digits" = some none)
    {gt6 : Tok} (gg6 : PySem.W.nsIn K mainGlobals "FAIR" = some (some (.int 1000000000000 gt6)))
    {gt7 : Tok} (gg7 : PySem.W.nsIn K mainGlobals "GREATEST" = some (some (.int 10000000000000000000000000000000000000000 gt7)))
    {gt8 : Tok} (gg8 : PySem.W.nsIn K mainGlobals "GREATEST_SUM" = some (some (.int 100000000 gt8)))
    {gt9 : Tok} (gg9 : PySem.W.nsIn K mainGlobals "SMALL" = some (some (.int 1000000 gt9)))
    {gt10 : Tok} (gg10 : PySem.W.nsIn K mainGlobals "MOST_EXPONENT_whole" = some (some (.int 200 gt10)))
    {gt11 : Tok} (gg11 : PySem.W.nsIn K mainGlobals "MOST_LACKING" = some (some (.int 10 gt11)))
    {gA12 : Addr} {gd12 : Option Addr} {gn12 : Nat} {gs12 : Array (Option Value)} {gq12_0 : Tok} {gq12_1 : Tok} {gq12_2 : Tok} {gq12_3 : Tok} {gq12_4 : Tok} {gq12_5 : Tok} {gq12_6 : Tok}
    (gg12 : PySem.W.nsIn K mainGlobals "OF_TEXT" = some (some (.ref gA12))) (gl12 : K.lookup gA12 = some ⟨.type "tuple", gd12, .seq #[.str "is" gq12_0, .str "count" gq12_1, .str "place" gq12_2, .str "near" gq12_3, .str "beside" gq12_4, .str "sums" gq12_5, .str "full" gq12_6] gn12, gs12⟩)
    (z_range : PySem.W.nsIn K mainGlobals "range" = some none)
    (z_len : PySem.W.nsIn K mainGlobals "len" = some none)
    (z_sum : PySem.W.nsIn K mainGlobals "sum" = some none)
    (z_min : PySem.W.nsIn K mainGlobals "min" = some none)
    (z_max : PySem.W.nsIn K mainGlobals "max" = some none)
    (z_abs : PySem.W.nsIn K mainGlobals "abs" = some none)
    (z_sorted : PySem.W.nsIn K mainGlobals "sorted" = some none)
    (z_isinstance : PySem.W.nsIn K mainGlobals "isinstance" = some none)
    (z_enumerate : PySem.W.nsIn K mainGlobals "enumerate" = some none)
    (z_zip : PySem.W.nsIn K mainGlobals "zip" = some none)
    (z_int : PySem.W.nsIn K mainGlobals "int" = some none)
    (z_bool : PySem.W.nsIn K mainGlobals "bool" = some none)
    (z_str : PySem.W.nsIn K mainGlobals "str" = some none)
    (z_list : PySem.W.nsIn K mainGlobals "list" = some none)
    (z_tuple : PySem.W.nsIn K mainGlobals "tuple" = some none)
    (z_dict : PySem.W.nsIn K mainGlobals "dict" = some none)
    (z_set : PySem.W.nsIn K mainGlobals "set" = some none)
    (z_ValueError : PySem.W.nsIn K mainGlobals "ValueError" = some none)
    : ∃ fd : FuncData, (∀ (s : Shared) (v : Value), BindsTo s fd ⟨[v], []⟩ [("script", v)]) ∧ ∀ base : Heap, K.In base → base.Ns mainGlobals mg → FnOk l.prog w K mg base CX0 16 fa fd ["script"] (sp_law K) := by
  have e := hfa.symm.trans (PySem.W.mg_of X G a60)
  cases e
  have B : Bt mg := ⟨PySem.W.mg_none_of X G z_range, PySem.W.mg_none_of X G z_len, PySem.W.mg_none_of X G z_sum, PySem.W.mg_none_of X G z_min, PySem.W.mg_none_of X G z_max, PySem.W.mg_none_of X G z_abs, PySem.W.mg_none_of X G z_sorted, PySem.W.mg_none_of X G z_isinstance, PySem.W.mg_none_of X G z_enumerate, PySem.W.mg_none_of X G z_zip, PySem.W.mg_none_of X G z_int, PySem.W.mg_none_of X G z_bool, PySem.W.mg_none_of X G z_str, PySem.W.mg_none_of X G z_list, PySem.W.mg_none_of X G z_tuple, PySem.W.mg_none_of X G z_dict, PySem.W.mg_none_of X G z_set, PySem.W.mg_none_of X G z_ValueError⟩
  have kcl0 : KCl K "KeptProduct" ["numbers", "often"] C0 := ⟨aC0, ⟨pg0, hd0, po0, sa0⟩, fun a ha => by
    simp only [List.mem_cons, List.not_mem_nil, or_false] at ha
    rcases ha with rfl | rfl
    · exact n0_0
    · exact n0_1⟩
  have kcl1 : KCl K "Desk" ["kept"] C1 := ⟨aC1, ⟨pg1, hd1, po1, sa1⟩, fun a ha => by
    simp only [List.mem_cons, List.not_mem_nil, or_false] at ha
    rcases ha with rfl
    · exact n1_0⟩
  refine ⟨PySem.W.fnOf "law" "law" (defArgs s_law) (defBody s_law) (defScope s_law) .none kV60 dc60 pm60 an60 cd60 ct60, fun s v => .of_eq rfl, fun base _ _ => ?_⟩
  have g_FIGURES_exact : GS mg "FIGURES_exact" "0123456789" := ⟨_, PySem.W.mg_of X G gg0⟩
  have g_MOST_EXPONENT_exact : GI mg "MOST_EXPONENT_exact" 200 := ⟨_, PySem.W.mg_of X G gg1⟩
  have g_FIGURES_whole : GS mg "FIGURES_whole" "0123456789" := ⟨_, PySem.W.mg_of X G gg2⟩
  have g_MOST_FIGURES : GI mg "MOST_FIGURES" 18 := ⟨_, PySem.W.mg_of X G gg3⟩
  have g_MOST_NUMBERS : GI mg "MOST_NUMBERS" 60 := ⟨_, PySem.W.mg_of X G gg4⟩
  have g_DIG : NoDig K := gg5
  have g_FAIR : GI mg "FAIR" 1000000000000 := ⟨_, PySem.W.mg_of X G gg6⟩
  have g_GREATEST : GI mg "GREATEST" 10000000000000000000000000000000000000000 := ⟨_, PySem.W.mg_of X G gg7⟩
  have g_GREATEST_SUM : GI mg "GREATEST_SUM" 100000000 := ⟨_, PySem.W.mg_of X G gg8⟩
  have g_SMALL : GI mg "SMALL" 1000000 := ⟨_, PySem.W.mg_of X G gg9⟩
  have g_MOST_EXPONENT_whole : GI mg "MOST_EXPONENT_whole" 200 := ⟨_, PySem.W.mg_of X G gg10⟩
  have g_MOST_LACKING : GI mg "MOST_LACKING" 10 := ⟨_, PySem.W.mg_of X G gg11⟩
  have g_OF_TEXT : GT K mg "OF_TEXT" ["is", "count", "place", "near", "beside", "sums", "full"] := ⟨gA12, PySem.W.mg_of X G gg12, _, _, _, gl12, rfl, rfl, by show 7 ≤ sizeLine; decide, (.cons ⟨_, rfl⟩ (.cons ⟨_, rfl⟩ (.cons ⟨_, rfl⟩ (.cons ⟨_, rfl⟩ (.cons ⟨_, rfl⟩ (.cons ⟨_, rfl⟩ (.cons ⟨_, rfl⟩ .nil)))))))⟩
  have F0 := fun_mk (st := s_power_of) l0 c0 k0
  have h_power_of : Fn l.prog w K mg base CX0 9 "power_of" ["base", "exponent"] (sp_power_of K) := ⟨_, _, PySem.W.mg_of X G a0, k0, bi_power_of F0, ok_power_of F0 B (PySem.W.mg_of X G a0) 9⟩
  have F1 := fun_mk (st := s_floor_root) l1 c1 k1
  have h_floor_root : Fn l.prog w K mg base CX0 10 "floor_root" ["number", "exponent"] (sp_floor_root K) := ⟨_, _, PySem.W.mg_of X G a1, k1, bi_floor_root F1, ok_floor_root F1 B h_power_of⟩
  have F2 := fun_mk (st := s_most_exponent) l2 c2 k2
  have h_most_exponent : Fn l.prog w K mg base CX0 1 "most_exponent" ["number"] (sp_most_exponent K) := ⟨_, _, PySem.W.mg_of X G a2, k2, bi_most_exponent F2, ok_most_exponent F2 B⟩
  have F3 := fun_mk (st := s_just_by) l3 c3 k3
  have h_just_by : Fn l.prog w K mg base CX0 11 "just_by" ["number"] (sp_just_by K) := ⟨_, _, PySem.W.mg_of X G a3, k3, bi_just_by F3, ok_just_by F3 B h_most_exponent h_floor_root⟩
  have F4 := fun_mk (st := s_powers_to_floors) l4 c4 k4
  have h_powers_to_floors : Fn l.prog w K mg base CX0 12 "powers_to_floors" ["number"] (sp_powers_to_floors K) := ⟨_, _, PySem.W.mg_of X G a4, k4, bi_powers_to_floors F4, ok_powers_to_floors F4 B h_just_by⟩
  have F5 := fun_mk (st := s_count_to) l5 c5 k5
  have h_count_to : Fn l.prog w K mg base CX0 13 "count_to" ["number"] (sp_count_to K) := ⟨_, _, PySem.W.mg_of X G a5, k5, bi_count_to F5, ok_count_to F5 B h_powers_to_floors⟩
  have F6 := fun_mk (st := s_taken) l6 c6 k6
  have h_taken : Fn l.prog w K mg base CX0 1 "taken" ["base", "exponent"] (sp_taken K) := ⟨_, _, PySem.W.mg_of X G a6, k6, bi_taken F6, ok_taken F6 B⟩
  have F7 := fun_mk (st := s_root_of) l7 c7 k7
  have h_root_of : Fn l.prog w K mg base CX0 2 "root_of" ["number", "exponent"] (sp_root_of K) := ⟨_, _, PySem.W.mg_of X G a7, k7, bi_root_of F7, ok_root_of F7 B h_taken⟩
  have F8 := fun_mk (st := s_figures_from) l8 c8 k8
  have h_figures_from : Fn l.prog w K mg base CX0 1 "figures_from" ["text", "first"] (sp_figures_from K) := ⟨_, _, PySem.W.mg_of X G a8, k8, bi_figures_from F8, ok_figures_from F8 B g_FIGURES_exact⟩
  have F9 := fun_mk (st := s_read_number) l9 c9 k9
  have h_read_number : Fn l.prog w K mg base CX0 2 "read_number" ["text"] (sp_read_number K) := ⟨_, _, PySem.W.mg_of X G a9, k9, bi_read_number F9, ok_read_number F9 B g_MOST_EXPONENT_exact h_figures_from h_taken⟩
  have F10 := fun_mk (st := s_primes_in_kin) l10 c10 k10
  have h_primes_in_kin : Fn l.prog w K mg base CX0 1 "primes_in_kin" ["number"] (sp_primes_in_kin K) := ⟨_, _, PySem.W.mg_of X G a10, k10, bi_primes_in_kin F10, ok_primes_in_kin F10 B⟩
  have F11 := fun_mk (st := s_is_full) l11 c11 k11
  have h_is_full : Fn l.prog w K mg base CX0 3 "is_full" ["number"] (sp_is_full K) := ⟨_, _, PySem.W.mg_of X G a11, k11, bi_is_full F11, ok_is_full F11 B h_primes_in_kin h_root_of⟩
  have F12 := fun_mk (st := s_greatest_in) l12 c12 k12
  have h_greatest_in : Fn l.prog w K mg base CX0 3 "greatest_in" ["number", "exponent"] (sp_greatest_in K) := ⟨_, _, PySem.W.mg_of X G a12, k12, bi_greatest_in F12, ok_greatest_in F12 B h_primes_in_kin h_taken h_root_of⟩
  have F13 := fun_mk (st := s_is_free) l13 c13 k13
  have h_is_free : Fn l.prog w K mg base CX0 4 "is_free" ["number", "exponent"] (sp_is_free K) := ⟨_, _, PySem.W.mg_of X G a13, k13, bi_is_free F13, ok_is_free F13 B h_greatest_in⟩
  have F14 := fun_mk (st := s_place_of) l14 c14 k14
  have h_place_of : Fn l.prog w K mg base CX0 13 "place_of" ["number"] (sp_place_of K) := ⟨_, _, PySem.W.mg_of X G a14, k14, bi_place_of F14, ok_place_of F14 B h_powers_to_floors⟩
  have F15 := fun_mk (st := s_greater_one) l15 c15 k15
  have h_greater_one : Fn l.prog w K mg base CX0 11 "greater_one" ["number"] (sp_greater_one K) := ⟨_, _, PySem.W.mg_of X G a15, k15, bi_greater_one F15, ok_greater_one F15 B h_power_of h_floor_root h_most_exponent⟩
  have F16 := fun_mk (st := s_power_to) l16 c16 k16
  have h_power_to : Fn l.prog w K mg base CX0 11 "power_to" ["number"] (sp_power_to K) := ⟨_, _, PySem.W.mg_of X G a16, k16, bi_power_to F16, ok_power_to F16 B h_power_of h_floor_root h_most_exponent⟩
  have F17 := fun_mk (st := s_nth_power) l17 c17 k17
  have h_nth_power : Fn l.prog w K mg base CX0 13 "nth_power" ["place"] (sp_nth_power K) := ⟨_, _, PySem.W.mg_of X G a17, k17, bi_nth_power F17, ok_nth_power F17 B h_powers_to_floors h_greater_one⟩
  have F18 := fun_mk (st := s_beside) l18 c18 k18
  have h_beside : Fn l.prog w K mg base CX0 12 "beside" ["number"] (sp_beside K) := ⟨_, _, PySem.W.mg_of X G a18, k18, bi_beside F18, ok_beside F18 B h_power_to h_greater_one⟩
  have F19 := fun_mk (st := s_nearest) l19 c19 k19
  have h_nearest : Fn l.prog w K mg base CX0 12 "nearest" ["number"] (sp_nearest K) := ⟨_, _, PySem.W.mg_of X G a19, k19, bi_nearest F19, ok_nearest F19 B h_power_to h_greater_one⟩
  have F20 := fun_mk (st := s_primes_in_kept) l20 c20 k20
  have h_primes_in_kept : Fn l.prog w K mg base CX0 1 "primes_in_kept" ["number"] (sp_primes_in_kept K) := ⟨_, _, PySem.W.mg_of X G a20, k20, bi_primes_in_kept F20, ok_primes_in_kept F20 B⟩
  have F21 := fun_mk (st := s_common_divisor) l21 c21 k21
  have h_common_divisor : Fn l.prog w K mg base CX0 1 "common_divisor" ["one", "other"] (sp_common_divisor K) := ⟨_, _, PySem.W.mg_of X G a21, k21, bi_common_divisor F21, ok_common_divisor F21 B⟩
  have F22 := fun_mk (st := s_KeptProduct___init__) l22 c22 k22
  have h_KeptProduct___init__ : FnK l.prog w K mg base CX0 1 "KeptProduct" ["numbers", "often"] ["self"] (sp_KeptProduct___init__ K) := ⟨_, _, _, kcl0, ⟨mk0, a22, i22, kc0⟩, PySem.W.mg_of X G aC0, bi_KeptProduct___init__ F22, ok_KeptProduct___init__ F22 B⟩
  have F23 := fun_mk (st := s_KeptProduct_put_primes) l23 c23 k23
  have h_KeptProduct_put_primes : FnM l.prog w K mg base CX0 2 "KeptProduct" ["numbers", "often"] "put_primes" ["self", "number", "sign"] (sp_KeptProduct_put_primes K) := ⟨_, _, _, kcl0, ⟨a23, i23, k23⟩, bi_KeptProduct_put_primes F23, ok_KeptProduct_put_primes F23 B h_primes_in_kept⟩
  have F24 := fun_mk (st := s_KeptProduct_come) l24 c24 k24
  have h_KeptProduct_come : FnM l.prog w K mg base CX0 3 "KeptProduct" ["numbers", "often"] "come" ["self", "number"] (sp_KeptProduct_come K) := ⟨_, _, _, kcl0, ⟨a24, i24, k24⟩, bi_KeptProduct_come F24, ok_KeptProduct_come F24 B h_KeptProduct_put_primes⟩
  have F25 := fun_mk (st := s_KeptProduct_go) l25 c25 k25
  have h_KeptProduct_go : FnM l.prog w K mg base CX0 3 "KeptProduct" ["numbers", "often"] "go" ["self", "number"] (sp_KeptProduct_go K) := ⟨_, _, _, kcl0, ⟨a25, i25, k25⟩, bi_KeptProduct_go F25, ok_KeptProduct_go F25 B h_KeptProduct_put_primes⟩
  have F26 := fun_mk (st := s_KeptProduct_numbers_now) l26 c26 k26
  have h_KeptProduct_numbers_now : FnM l.prog w K mg base CX0 1 "KeptProduct" ["numbers", "often"] "numbers_now" ["self"] (sp_KeptProduct_numbers_now K) := ⟨_, _, _, kcl0, ⟨a26, i26, k26⟩, bi_KeptProduct_numbers_now F26, ok_KeptProduct_numbers_now F26 B⟩
  have F27 := fun_mk (st := s_KeptProduct_exponent_now) l27 c27 k27
  have h_KeptProduct_exponent_now : FnM l.prog w K mg base CX0 2 "KeptProduct" ["numbers", "often"] "exponent_now" ["self"] (sp_KeptProduct_exponent_now K) := ⟨_, _, _, kcl0, ⟨a27, i27, k27⟩, bi_KeptProduct_exponent_now F27, ok_KeptProduct_exponent_now F27 B h_common_divisor⟩
  have F28 := fun_mk (st := s_KeptProduct_lacks_now) l28 c28 k28
  have h_KeptProduct_lacks_now : FnM l.prog w K mg base CX0 2 "KeptProduct" ["numbers", "often"] "lacks_now" ["self", "exponent"] (sp_KeptProduct_lacks_now K) := ⟨_, _, _, kcl0, ⟨a28, i28, k28⟩, bi_KeptProduct_lacks_now F28, ok_KeptProduct_lacks_now F28 B h_taken⟩
  have F29 := fun_mk (st := s_taken_to) l29 c29 k29
  have h_taken_to : Fn l.prog w K mg base CX0 1 "taken_to" ["base", "exponent"] (sp_taken_to K) := ⟨_, _, PySem.W.mg_of X G a29, k29, bi_taken_to F29, ok_taken_to F29 B⟩
  have F30 := fun_mk (st := s_higher_powers) l30 c30 k30
  have h_higher_powers : Fn l.prog w K mg base CX0 3 "higher_powers" ["most"] (sp_higher_powers K) := ⟨_, _, PySem.W.mg_of X G a30, k30, bi_higher_powers F30, ok_higher_powers F30 B h_root_of h_taken_to⟩
  have F31 := fun_mk (st := s_is_square) l31 c31 k31
  have h_is_square : Fn l.prog w K mg base CX0 3 "is_square" ["number"] (sp_is_square K) := ⟨_, _, PySem.W.mg_of X G a31, k31, bi_is_square F31, ok_is_square F31 B h_root_of⟩
  have F32 := fun_mk (st := s_squares_apart) l32 c32 k32
  have h_squares_apart : Fn l.prog w K mg base CX0 1 "squares_apart" ["difference", "most"] (sp_squares_apart K) := ⟨_, _, PySem.W.mg_of X G a32, k32, bi_squares_apart F32, ok_squares_apart F32 B⟩
  have F33 := fun_mk (st := s_pairs_apart) l33 c33 k33
  have h_pairs_apart : Fn l.prog w K mg base CX0 4 "pairs_apart" ["difference", "most"] (sp_pairs_apart K) := ⟨_, _, PySem.W.mg_of X G a33, k33, bi_pairs_apart F33, ok_pairs_apart F33 B h_higher_powers h_squares_apart h_is_square⟩
  have F34 := fun_mk (st := s_powers_to_sums) l34 c34 k34
  have h_powers_to_sums : Fn l.prog w K mg base CX0 3 "powers_to_sums" ["most"] (sp_powers_to_sums K) := ⟨_, _, PySem.W.mg_of X G a34, k34, bi_powers_to_sums F34, ok_powers_to_sums F34 B h_root_of h_taken⟩
  have F35 := fun_mk (st := s_pairs_with) l35 c35 k35
  have h_pairs_with : Fn l.prog w K mg base CX0 4 "pairs_with" ["number"] (sp_pairs_with K) := ⟨_, _, PySem.W.mg_of X G a35, k35, bi_pairs_with F35, ok_pairs_with F35 B h_powers_to_sums⟩
  have F36 := fun_mk (st := s_ways_of) l36 c36 k36
  have h_ways_of : Fn l.prog w K mg base CX0 3 "ways_of" ["number"] (sp_ways_of K) := ⟨_, _, PySem.W.mg_of X G a36, k36, bi_ways_of F36, ok_ways_of F36 B h_root_of⟩
  have F37 := fun_mk (st := s_need_words) l37 c37 k37
  have h_need_words : Fn l.prog w K mg base CX0 1 "need_words" ["words", "many"] (sp_need_words K) := ⟨_, _, PySem.W.mg_of X G a37, k37, bi_need_words F37, ok_need_words F37 B⟩
  have F38 := fun_mk (st := s_plain_number) l38 c38 k38
  have h_plain_number : Fn l.prog w K mg base CX0 1 "plain_number" ["word", "least", "most"] (sp_plain_number K) := ⟨_, _, PySem.W.mg_of X G a38, k38, bi_plain_number F38, ok_plain_number F38 B g_FIGURES_whole g_MOST_FIGURES⟩
  have F39 := fun_mk (st := s_bounded) l39 c39 k39
  have h_bounded : Fn l.prog w K mg base CX0 3 "bounded" ["text", "least", "most"] (sp_bounded K) := ⟨_, _, PySem.W.mg_of X G a39, k39, bi_bounded F39, ok_bounded F39 B h_read_number⟩
  have F40 := fun_mk (st := s_Desk___init__) l40 c40 k40
  have h_Desk___init__ : FnK l.prog w K mg base CX0 3 "Desk" ["kept"] ["self"] (sp_Desk___init__ K) := ⟨_, _, _, kcl1, ⟨mk1, a40, i40, kc1⟩, PySem.W.mg_of X G aC1, bi_Desk___init__ F40, ok_Desk___init__ F40 B h_KeptProduct___init__⟩
  have F41 := fun_mk (st := s_Desk_change_by) l41 c41 k41
  have h_Desk_change_by : FnM l.prog w K mg base CX0 4 "Desk" ["kept"] "change_by" ["self", "word", "number"] (sp_Desk_change_by K) := ⟨_, _, _, kcl1, ⟨a41, i41, k41⟩, bi_Desk_change_by F41, ok_Desk_change_by F41 B g_MOST_NUMBERS h_KeptProduct_go h_KeptProduct_numbers_now h_KeptProduct_come⟩
  have F42 := fun_mk (st := s_Desk_told_of_two) l42 c42 k42
  have h_Desk_told_of_two : FnM l.prog w K mg base CX0 5 "Desk" ["kept"] "told_of_two" ["self", "word", "number", "text"] (sp_Desk_told_of_two K) := ⟨_, _, _, kcl1, ⟨a42, i42, k42⟩, bi_Desk_told_of_two F42, ok_Desk_told_of_two F42 B g_DIG g_FAIR h_bounded h_is_free h_pairs_apart⟩
  have F43 := fun_mk (st := s_Desk_told_of) l43 c43 k43
  have h_Desk_told_of : FnM l.prog w K mg base CX0 14 "Desk" ["kept"] "told_of" ["self", "word", "text"] (sp_Desk_told_of K) := ⟨_, _, _, kcl1, ⟨a43, i43, k43⟩, bi_Desk_told_of F43, ok_Desk_told_of F43 B g_DIG g_FAIR g_GREATEST g_GREATEST_SUM h_is_full h_bounded h_pairs_with h_ways_of h_beside h_count_to h_place_of h_nearest⟩
  have F44 := fun_mk (st := s_Desk_told) l44 c44 k44
  have h_Desk_told : FnM l.prog w K mg base CX0 3 "Desk" ["kept"] "told" ["self", "word"] (sp_Desk_told K) := ⟨_, _, _, kcl1, ⟨a44, i44, k44⟩, bi_Desk_told F44, ok_Desk_told F44 B g_DIG h_KeptProduct_numbers_now h_KeptProduct_exponent_now⟩
  have F45 := fun_mk (st := s_Desk_ask) l45 c45 k45
  have h_Desk_ask : FnM l.prog w K mg base CX0 15 "Desk" ["kept"] "ask" ["self", "line"] (sp_Desk_ask K) := ⟨_, _, _, kcl1, ⟨a45, i45, k45⟩, bi_Desk_ask F45, ok_Desk_ask F45 B g_DIG g_SMALL g_FAIR g_MOST_EXPONENT_whole g_MOST_LACKING g_OF_TEXT h_need_words h_Desk_change_by h_plain_number h_KeptProduct_lacks_now h_nth_power h_Desk_told_of_two h_Desk_told_of h_Desk_told⟩
  have F46 := fun_mk (st := s__law_seed) l46 c46 k46
  have h__law_seed : Fn l.prog w K mg base CX0 1 "_law_seed" ["cell"] (sp__law_seed K) := ⟨_, _, PySem.W.mg_of X G a46, k46, bi__law_seed F46, ok__law_seed F46 B⟩
  have F47 := fun_mk (st := s__law_draw) l47 c47 k47
  have h__law_draw : Fn l.prog w K mg base CX0 1 "_law_draw" ["seed", "most"] (sp__law_draw K) := ⟨_, _, PySem.W.mg_of X G a47, k47, bi__law_draw F47, ok__law_draw F47 B⟩
  have F48 := fun_mk (st := s__law_cells) l48 c48 k48
  have h__law_cells : Fn l.prog w K mg base CX0 1 "_law_cells" ["script", "many"] (sp__law_cells K) := ⟨_, _, PySem.W.mg_of X G a48, k48, bi__law_cells F48, ok__law_cells F48 B⟩
  have F49 := fun_mk (st := s__law_taken) l49 c49 k49
  have h__law_taken : Fn l.prog w K mg base CX0 1 "_law_taken" ["base", "exponent"] (sp__law_taken K) := ⟨_, _, PySem.W.mg_of X G a49, k49, bi__law_taken F49, ok__law_taken F49 B⟩
  have F50 := fun_mk (st := s__law_root) l50 c50 k50
  have h__law_root : Fn l.prog w K mg base CX0 2 "_law_root" ["number", "exponent"] (sp__law_root K) := ⟨_, _, PySem.W.mg_of X G a50, k50, bi__law_root F50, ok__law_root F50 B h__law_taken⟩
  have F51 := fun_mk (st := s__law_ways) l51 c51 k51
  have h__law_ways : Fn l.prog w K mg base CX0 3 "_law_ways" ["number"] (sp__law_ways K) := ⟨_, _, PySem.W.mg_of X G a51, k51, bi__law_ways F51, ok__law_ways F51 B h__law_taken h__law_root⟩
  have F52 := fun_mk (st := s__law_number) l52 c52 k52
  have h__law_number : Fn l.prog w K mg base CX0 3 "_law_number" ["seed", "most"] (sp__law_number K) := ⟨_, _, PySem.W.mg_of X G a52, k52, bi__law_number F52, ok__law_number F52 B h__law_draw h__law_root h__law_taken⟩
  have F53 := fun_mk (st := s__law_text) l53 c53 k53
  have h__law_text : Fn l.prog w K mg base CX0 4 "_law_text" ["seed", "number"] (sp__law_text K) := ⟨_, _, PySem.W.mg_of X G a53, k53, bi__law_text F53, ok__law_text F53 B g_DIG h__law_ways h__law_draw⟩
  have F54 := fun_mk (st := s__law_powers) l54 c54 k54
  have h__law_powers : Fn l.prog w K mg base CX0 1 "_law_powers" ["most"] (sp__law_powers K) := ⟨_, _, PySem.W.mg_of X G a54, k54, bi__law_powers F54, ok__law_powers F54 B⟩
  have F55 := fun_mk (st := s__law_often) l55 c55 k55
  have h__law_often : Fn l.prog w K mg base CX0 1 "_law_often" ["number"] (sp__law_often K) := ⟨_, _, PySem.W.mg_of X G a55, k55, bi__law_often F55, ok__law_often F55 B⟩
  have F56 := fun_mk (st := s__law_kin) l56 c56 k56
  have h__law_kin : Fn l.prog w K mg base CX0 3 "_law_kin" ["number", "exponent"] (sp__law_kin K) := ⟨_, _, PySem.W.mg_of X G a56, k56, bi__law_kin F56, ok__law_kin F56 B h__law_often h__law_root⟩
  have F57 := fun_mk (st := s__law_fair) l57 c57 k57
  have h__law_fair : Fn l.prog w K mg base CX0 4 "_law_fair" ["seed"] (sp__law_fair K) := ⟨_, _, PySem.W.mg_of X G a57, k57, bi__law_fair F57, ok__law_fair F57 B h__law_draw h__law_number⟩
  have F58 := fun_mk (st := s__law_two) l58 c58 k58
  have h__law_two : Fn l.prog w K mg base CX0 1 "_law_two" ["one", "other"] (sp__law_two K) := ⟨_, _, PySem.W.mg_of X G a58, k58, bi__law_two F58, ok__law_two F58 B g_DIG⟩
  have F59 := fun_mk (st := s__law_dues) l59 c59 k59
  have h__law_dues : Fn l.prog w K mg base CX0 5 "_law_dues" ["seed"] (sp__law_dues K) := ⟨_, _, PySem.W.mg_of X G a59, k59, bi__law_dues F59, ok__law_dues F59 B g_DIG h__law_draw h__law_powers h__law_two h__law_number h__law_fair h__law_kin h__law_text⟩
  exact ok_law (fun_mk (st := s_law) l60 c60 k60) B h_Desk___init__ h__law_cells h__law_dues h__law_seed h_Desk_ask
end Pn
open PySem PySem.W PyProof.Rows
set_option maxHeartbeats 0 in
theorem PySem.Challenge.cw_powernumbers_k31_desk_pairs_and_kin_holds : PySem.Challenge.rw_powernumbers_k31_desk_pairs_and_kin.Holds := by
  w_on; o_law; k_head; (case hw => w_witness2)
  k_fill
  refine L2.walk_of (l := PySem.Challenge.rw_powernumbers_k31_desk_pairs_and_kin) (n := 63) (k := 16) (x := "script") (CX := fun _ => L2.CX0) (sp := fun w => Pn.sp_law _) rfl (by decide) rfl ⟨rfl, by decide, by decide⟩ (fun w h Y => PySem.W.kIn_of Y) ?F (fun _ _ a ns hl _ hS => ⟨a, ns, rfl, hS, hl, fun _ => rfl⟩) (fun _ _ _ _ _ h => h)
  case F =>
    intro w mg fa h KX G hmg
    refine' Pn.all_mk KX G hmg ?aC0 ?pg0 ?hd0 ?po0 ?sa0 ?mk0 ?kc0 ?n0_0 ?n0_1 ?aC1 ?pg1 ?hd1 ?po1 ?sa1 ?mk1 ?kc1 ?n1_0 ?a0 ?l0 ?c0 ?k0 ?a1 ?l1 ?c1 ?k1 ?a2 ?l2 ?c2 ?k2 ?a3 ?l3 ?c3 ?k3 ?a4 ?l4 ?c4 ?k4 ?a5 ?l5 ?c5 ?k5 ?a6 ?l6 ?c6 ?k6 ?a7 ?l7 ?c7 ?k7 ?a8 ?l8 ?c8 ?k8 ?a9 ?l9 ?c9 ?k9 ?a10 ?l10 ?c10 ?k10 ?a11 ?l11 ?c11 ?k11 ?a12 ?l12 ?c12 ?k12 ?a13 ?l13 ?c13 ?k13 ?a14 ?l14 ?c14 ?k14 ?a15 ?l15 ?c15 ?k15 ?a16 ?l16 ?c16 ?k16 ?a17 ?l17 ?c17 ?k17 ?a18 ?l18 ?c18 ?k18 ?a19 ?l19 ?c19 ?k19 ?a20 ?l20 ?c20 ?k20 ?a21 ?l21 ?c21 ?k21 ?a22 ?i22 ?l22 ?c22 ?k22 ?a23 ?i23 ?l23 ?c23 ?k23 ?a24 ?i24 ?l24 ?c24 ?k24 ?a25 ?i25 ?l25 ?c25 ?k25 ?a26 ?i26 ?l26 ?c26 ?k26 ?a27 ?i27 ?l27 ?c27 ?k27 ?a28 ?i28 ?l28 ?c28 ?k28 ?a29 ?l29 ?c29 ?k29 ?a30 ?l30 ?c30 ?k30 ?a31 ?l31 ?c31 ?k31 ?a32 ?l32 ?c32 ?k32 ?a33 ?l33 ?c33 ?k33 ?a34 ?l34 ?c34 ?k34 ?a35 ?l35 ?c35 ?k35 ?a36 ?l36 ?c36 ?k36 ?a37 ?l37 ?c37 ?k37 ?a38 ?l38 ?c38 ?k38 ?a39 ?l39 ?c39 ?k39 ?a40 ?i40 ?l40 ?c40 ?k40 ?a41 ?i41 ?l41 ?c41 ?k41 ?a42 ?i42 ?l42 ?c42 ?k42 ?a43 ?i43 ?l43 ?c43 ?k43 ?a44 ?i44 ?l44 ?c44 ?k44 ?a45 ?i45 ?l45 ?c45 ?k45 ?a46 ?l46 ?c46 ?k46 ?a47 ?l47 ?c47 ?k47 ?a48 ?l48 ?c48 ?k48 ?a49 ?l49 ?c49 ?k49 ?a50 ?l50 ?c50 ?k50 ?a51 ?l51 ?c51 ?k51 ?a52 ?l52 ?c52 ?k52 ?a53 ?l53 ?c53 ?k53 ?a54 ?l54 ?c54 ?k54 ?a55 ?l55 ?c55 ?k55 ?a56 ?l56 ?c56 ?k56 ?a57 ?l57 ?c57 ?k57 ?a58 ?l58 ?c58 ?k58 ?a59 ?l59 ?c59 ?k59 ?a60 ?l60 ?c60 ?k60 ?gg0 ?gg1 ?gg2 ?gg3 ?gg4 ?gg5 ?gg6 ?gg7 ?gg8 ?gg9 ?gg10 ?gg11 ?gg12 ?gl12 ?z_range ?z_len ?z_sum ?z_min ?z_max ?z_abs ?z_sorted ?z_isinstance ?z_enumerate ?z_zip ?z_int ?z_bool ?z_str ?z_list ?z_tuple ?z_dict ?z_set ?z_ValueError
    (case aC0 => k_is)
    (case pg0 => k_is)
    (case hd0 => k_is)
    (case po0 => k_is)
    (case sa0 => k_is)
    (case mk0 => k_is)
    (case kc0 => k_is)
    (case n0_0 => k_is)
    (case n0_1 => k_is)
    (case aC1 => k_is)
    (case pg1 => k_is)
    (case hd1 => k_is)
    (case po1 => k_is)
    (case sa1 => k_is)
    (case mk1 => k_is)
    (case kc1 => k_is)
    (case n1_0 => k_is)
    (case a0 => k_is)
    (case l0 => k_is)
    (case c0 => k_is)
    (case k0 => k_is)
    (case a1 => k_is)
    (case l1 => k_is)
    (case c1 => k_is)
    (case k1 => k_is)
    (case a2 => k_is)
    (case l2 => k_is)
    (case c2 => k_is)
    (case k2 => k_is)
    (case a3 => k_is)
    (case l3 => k_is)
    (case c3 => k_is)
    (case k3 => k_is)
    (case a4 => k_is)
    (case l4 => k_is)
    (case c4 => k_is)
    (case k4 => k_is)
    (case a5 => k_is)
    (case l5 => k_is)
    (case c5 => k_is)
    (case k5 => k_is)
    (case a6 => k_is)
    (case l6 => k_is)
    (case c6 => k_is)
    (case k6 => k_is)
    (case a7 => k_is)
    (case l7 => k_is)
    (case c7 => k_is)
    (case k7 => k_is)
    (case a8 => k_is)
    (case l8 => k_is)
    (case c8 => k_is)
    (case k8 => k_is)
    (case a9 => k_is)
    (case l9 => k_is)
    (case c9 => k_is)
    (case k9 => k_is)
    (case a10 => k_is)
    (case l10 => k_is)
    (case c10 => k_is)
    (case k10 => k_is)
    (case a11 => k_is)
    (case l11 => k_is)
    (case c11 => k_is)
    (case k11 => k_is)
    (case a12 => k_is)
    (case l12 => k_is)
    (case c12 => k_is)
    (case k12 => k_is)
    (case a13 => k_is)
    (case l13 => k_is)
    (case c13 => k_is)
    (case k13 => k_is)
    (case a14 => k_is)
    (case l14 => k_is)
    (case c14 => k_is)
    (case k14 => k_is)
    (case a15 => k_is)
    (case l15 => k_is)
    (case c15 => k_is)
    (case k15 => k_is)
    (case a16 => k_is)
    (case l16 => k_is)
    (case c16 => k_is)
    (case k16 => k_is)
    (case a17 => k_is)
    (case l17 => k_is)
    (case c17 => k_is)
    (case k17 => k_is)
    (case a18 => k_is)
    (case l18 => k_is)
    (case c18 => k_is)
    (case k18 => k_is)
    (case a19 => k_is)
    (case l19 => k_is)
    (case c19 => k_is)
    (case k19 => k_is)
    (case a20 => k_is)
    (case l20 => k_is)
    (case c20 => k_is)
    (case k20 => k_is)
    (case a21 => k_is)
    (case l21 => k_is)
    (case c21 => k_is)
    (case k21 => k_is)
    (case a22 => k_is)
    (case i22 => k_is)
    (case l22 => k_is)
    (case c22 => k_is)
    (case k22 => k_is)
    (case a23 => k_is)
    (case i23 => k_is)
    (case l23 => k_is)
    (case c23 => k_is)
    (case k23 => k_is)
    (case a24 => k_is)
    (case i24 => k_is)
    (case l24 => k_is)
    (case c24 => k_is)
    (case k24 => k_is)
    (case a25 => k_is)
    (case i25 => k_is)
    (case l25 => k_is)
    (case c25 => k_is)
    (case k25 => k_is)
    (case a26 => k_is)
    (case i26 => k_is)
    (case l26 => k_is)
    (case c26 => k_is)
    (case k26 => k_is)
    (case a27 => k_is)
    (case i27 => k_is)
    (case l27 => k_is)
    (case c27 => k_is)
    (case k27 => k_is)
    (case a28 => k_is)
    (case i28 => k_is)
    (case l28 => k_is)
    (case c28 => k_is)
    (case k28 => k_is)
    (case a29 => k_is)
    (case l29 => k_is)
    (case c29 => k_is)
    (case k29 => k_is)
    (case a30 => k_is)
    (case l30 => k_is)
    (case c30 => k_is)
    (case k30 => k_is)
    (case a31 => k_is)
    (case l31 => k_is)
    (case c31 => k_is)
    (case k31 => k_is)
    (case a32 => k_is)
    (case l32 => k_is)
    (case c32 => k_is)
    (case k32 => k_is)
    (case a33 => k_is)
    (case l33 => k_is)
    (case c33 => k_is)
    (case k33 => k_is)
    (case a34 => k_is)
    (case l34 => k_is)
    (case c34 => k_is)
    (case k34 => k_is)
    (case a35 => k_is)
    (case l35 => k_is)
    (case c35 => k_is)
    (case k35 => k_is)
    (case a36 => k_is)
    (case l36 => k_is)
    (case c36 => k_is)
    (case k36 => k_is)
    (case a37 => k_is)
    (case l37 => k_is)
    (case c37 => k_is)
    (case k37 => k_is)
    (case a38 => k_is)
    (case l38 => k_is)
    (case c38 => k_is)
    (case k38 => k_is)
    (case a39 => k_is)
    (case l39 => k_is)
    (case c39 => k_is)
    (case k39 => k_is)
    (case a40 => k_is)
    (case i40 => k_is)
    (case l40 => k_is)
    (case c40 => k_is)
    (case k40 => k_is)
    (case a41 => k_is)
    (case i41 => k_is)
    (case l41 => k_is)
    (case c41 => k_is)
    (case k41 => k_is)
    (case a42 => k_is)
    (case i42 => k_is)
    (case l42 => k_is)
    (case c42 => k_is)
    (case k42 => k_is)
    (case a43 => k_is)
    (case i43 => k_is)
    (case l43 => k_is)
    (case c43 => k_is)
    (case k43 => k_is)
    (case a44 => k_is)
    (case i44 => k_is)
    (case l44 => k_is)
    (case c44 => k_is)
    (case k44 => k_is)
    (case a45 => k_is)
    (case i45 => k_is)
    (case l45 => k_is)
    (case c45 => k_is)
    (case k45 => k_is)
    (case a46 => k_is)
    (case l46 => k_is)
    (case c46 => k_is)
    (case k46 => k_is)
    (case a47 => k_is)
    (case l47 => k_is)
    (case c47 => k_is)
    (case k47 => k_is)
    (case a48 => k_is)
    (case l48 => k_is)
    (case c48 => k_is)
    (case k48 => k_is)
    (case a49 => k_is)
    (case l49 => k_is)
    (case c49 => k_is)
    (case k49 => k_is)
    (case a50 => k_is)
    (case l50 => k_is)
    (case c50 => k_is)
    (case k50 => k_is)
    (case a51 => k_is)
    (case l51 => k_is)
    (case c51 => k_is)
    (case k51 => k_is)
    (case a52 => k_is)
    (case l52 => k_is)
    (case c52 => k_is)
    (case k52 => k_is)
    (case a53 => k_is)
    (case l53 => k_is)
    (case c53 => k_is)
    (case k53 => k_is)
    (case a54 => k_is)
    (case l54 => k_is)
    (case c54 => k_is)
    (case k54 => k_is)
    (case a55 => k_is)
    (case l55 => k_is)
    (case c55 => k_is)
    (case k55 => k_is)
    (case a56 => k_is)
    (case l56 => k_is)
    (case c56 => k_is)
    (case k56 => k_is)
    (case a57 => k_is)
    (case l57 => k_is)
    (case c57 => k_is)
    (case k57 => k_is)
    (case a58 => k_is)
    (case l58 => k_is)
    (case c58 => k_is)
    (case k58 => k_is)
    (case a59 => k_is)
    (case l59 => k_is)
    (case c59 => k_is)
    (case k59 => k_is)
    (case a60 => k_is)
    (case l60 => k_is)
    (case c60 => k_is)
    (case k60 => k_is)
    (case gg0 => k_is)
    (case gg1 => k_is)
    (case gg2 => k_is)
    (case gg3 => k_is)
    (case gg4 => k_is)
    (case gg5 => k_is)
    (case gg6 => k_is)
    (case gg7 => k_is)
    (case gg8 => k_is)
    (case gg9 => k_is)
    (case gg10 => k_is)
    (case gg11 => k_is)
    (case gg12 => k_is)
    (case gl12 => k_is)
    (case z_range => k_is)
    (case z_len => k_is)
    (case z_sum => k_is)
    (case z_min => k_is)
    (case z_max => k_is)
    (case z_abs => k_is)
    (case z_sorted => k_is)
    (case z_isinstance => k_is)
    (case z_enumerate => k_is)
    (case z_zip => k_is)
    (case z_int => k_is)
    (case z_bool => k_is)
    (case z_str => k_is)
    (case z_list => k_is)
    (case z_tuple => k_is)
    (case z_dict => k_is)
    (case z_set => k_is)
    (case z_ValueError => k_is)
