import PyProof.Rows.All
import Wide.All
import OpenK.AllK
import Wide.FinOn
import HandS.ForMost
import HandS.Wide
import HandS.IsInst
import HandS.SortInts
import HandS.TupAny
import PySem.Challenge.RW_powernumbers_k06_greatest_ways
set_option Elab.async false
set_option linter.all false
set_option maxRecDepth 100000
namespace Pn
open PySem PySem.Spec PyProof.Rows L2
/-! ### a def that stands in the module, with its promise -/
structure Fn (P : Program) (w : World) (K : PySem.W.Frag) (mg : PySem.Str → Option Value) (base : Heap) (CX : CXT) (k : Nat) (x : PySem.Str) (ps : List PySem.Str) (sp : Sp) : Prop where
  ex : ∃ (f : Addr) (fd : FuncData), mg x = some (.ref f) ∧ PySem.W.keepIn K (.ref f) = true ∧ Binds K fd ps [] ∧ FnOk P w K mg base CX k f fd ps sp
def tFn (sp : Sp) (E : XK) (t : TA) : TE := fun σ H Q => t σ H fun vs H1 => sp vs H1 Q E
section
variable {X : Cx} {CX : CXT} {k : Nat} {x : PySem.Str} {ps : List PySem.Str} {sp : Sp} {E : XK} {t : TA} {e : Expr} {es : List Expr} {p pos : Pos}
theorem pe_fnX (h : Fn X.prog X.w X.K X.mg X.base CX k x ps sp) (hr : Room k X.A) (hg : Gl X x) (hx : Passes CX X E) (ha : PA X (e :: es) t) (hdb : (x == ("__debug__" : PySem.Str)) = false := by decide)
    (he : starEach (e :: es) X.env = (false, eval e X.env) :: starEach es X.env := by rfl) (hpl : (backTo pos (starEach es X.env)).any (·.1) = false := by rfl) :
    PE X (.Call (.Name x p) (e :: es) [] pos) (tFn sp E t) := by
  obtain ⟨f, fd, hm, hk, hb, F⟩ := h.ex
  have g := pe_call (p := p) (pos := pos) F hr hg hm hk hb .nil hx ha hdb he hpl
  have e1 : tCall sp [] E t = tFn sp E t := by
    unfold tCall tFn
    simp only [List.append_nil]
  rw [← e1]
  exact g
theorem pe_fn (h : Fn X.prog X.w X.K X.mg X.base CX0 k x ps sp) (hr : Room k X.A) (hg : Gl X x) (ha : PA X (e :: es) t) (hdb : (x == ("__debug__" : PySem.Str)) = false := by decide)
    (he : starEach (e :: es) X.env = (false, eval e X.env) :: starEach es X.env := by rfl) (hpl : (backTo pos (starEach es X.env)).any (·.1) = false := by rfl) :
    PE X (.Call (.Name x p) (e :: es) [] pos) (tFn sp E0 t) := pe_fnX h hr hg pass0 ha hdb he hpl
end
/-! ### rules by values, the written part named (in a comprehension's block X is another one) -/
def rLen (K : PySem.W.Frag) : List V → Hp → VK → Prop := fun xs H Q => ∃ p ys, xs = [.ref p] ∧ (SqL K H p ys ∨ SqT K H p ys) ∧ Q (.int ys.length) H
def rListO (K : PySem.W.Frag) : List V → Hp → VK → Prop := fun xs H Q => ∃ p ys, xs = [.ref p] ∧ (SqL K H p ys ∨ SqT K H p ys) ∧ ∀ l, H l = none → Q (.ref l) (upd H l (.lst ys))
def rTupO (K : PySem.W.Frag) : List V → Hp → VK → Prop := fun xs H Q => ∃ p ys, xs = [.ref p] ∧ ((SqL K H p ys ∧ ∀ l, H l = none → Q (.ref l) (upd H l (.tup ys))) ∨ (SqT K H p ys ∧ Q (.ref p) H))
section
variable {X : Cx} (K : PySem.W.Frag)
theorem k_len (h : X.K = K := by rfl) : CallR X (.builtin "len") (rLen K) := by subst h; exact call_len_seq
theorem k_isi (h : X.K = K := by rfl) : CallR X (.builtin "isinstance") (rIsi K) := by subst h; exact call_isi
theorem k_sum (h : X.K = K := by rfl) (hc : X.calm = true := by rfl) : CallR X (.builtin "sum") (rSum K) := by subst h; exact cr_sum hc
theorem k_min (h : X.K = K := by rfl) (hc : X.calm = true := by rfl) : CallR X (.builtin "min") (rMin K) := by subst h; exact cr_min hc
theorem k_max (h : X.K = K := by rfl) (hc : X.calm = true := by rfl) : CallR X (.builtin "max") (rMax K) := by subst h; exact cr_max hc
theorem k_sorted (h : X.K = K := by rfl) : CallR X (.builtin "sorted") (rSortedI K) := by subst h; exact cr_sortedI
theorem k_list (h : X.K = K := by rfl) : CallR X (.type "list") (rListO K) := by subst h; exact call_list_of
theorem k_tuple (h : X.K = K := by rfl) : CallR X (.type "tuple") (rTupO K) := by subst h; exact call_tuple_of
theorem k_ixL (h : X.K = K := by rfl) : IxR X (rIxL K) := by subst h; exact ix_list
theorem k_ixT (h : X.K = K := by rfl) : IxR X (rIxT K) := by subst h; exact ix_tup
theorem k_slL (h : X.K = K := by rfl) : SlR X (rSlL K) := by subst h; exact sl_list
theorem k_eqD (h : X.K = K := by rfl) (hu : X.A.units + 64 < cLine) : OpR X (compareOp .Eq) (rEqD K) := by subst h; exact op_eqD hu
theorem k_neD (h : X.K = K := by rfl) (hu : X.A.units + 64 < cLine) : OpR X (compareOp .NotEq) (rNeD K) := by subst h; exact op_neD hu
theorem k_in (h : X.K = K := by rfl) : OpR X (compareOp .In) (rIn K false) := by subst h; exact op_in_seq
theorem k_notIn (h : X.K = K := by rfl) : OpR X (compareOp .NotIn) (rIn K true) := by subst h; exact op_notIn_seq
theorem k_catT (h : X.K = K := by rfl) : OpR X (binaryOp .Add) (rCatA K) := by subst h; exact op_catA
def tTru (K : PySem.W.Frag) (ta : TE) : TT := fun σ H Q => ta σ H fun x H' => ∃ k, TruV K x H' k ∧ Q k H'
theorem pt_tru {a : Expr} {ta : TE} (ha : PE X a ta) (he : ∀ whole, isTrue a X.env whole = (do let v ← whole; standAt a.pos; holding [v] (truthy v)) := by intro _; rfl) (h : X.K = K := by rfl) : PT X a (tTru K ta) := by subst h; exact pt_truth ha he
end
/-! ### readings, applied -/
section
variable {σ : L2.St} {H : Hp} {Q : VK} {QT : Bool → Hp → Prop} {QA : List V → Hp → Prop} {K : PySem.W.Frag} {ta tb te : TE} {t u : TT} {tr : TA} {D : Ends} {s1 s2 : TS} {x y v : V}
theorem w_var {i : Nat} : tVar i σ H Q = ∃ v, σ[i]? = some (some v) ∧ Q v H := rfl
theorem w_c : tC v σ H Q = Q v H := rfl
theorem w_op {r : R2} : tOp r ta tb σ H Q = ta σ H fun x H1 => tb σ H1 fun y H2 => r x y H2 Q := rfl
theorem w_I0 {g : Int → Int → V} : rI0 g x y H Q = ∃ i j, x = .int i ∧ y = .int j ∧ Q (g i j) H := rfl
theorem w_I {C : Int → Int → Prop} {g : Int → Int → V} : rI C g x y H Q = ∃ i j, x = .int i ∧ y = .int j ∧ C i j ∧ Q (g i j) H := rfl
theorem w_un {r : V → Hp → VK → Prop} : tUn r ta σ H Q = ta σ H fun x H1 => r x H1 Q := rfl
theorem w_U {g : Int → V} : rU g x H Q = ∃ i, x = .int i ∧ Q (g i) H := rfl
theorem w_eq : rEq x y H Q = (scal x y = true ∧ Q (.bl (decide (x = y))) H) := rfl
theorem w_ne : rNe x y H Q = (scal x y = true ∧ Q (.bl (!decide (x = y))) H) := rfl
theorem w_test : tTest ta σ H QT = ta σ H fun x H1 => ∃ k, x = .bl k ∧ QT k H1 := rfl
theorem w_B : tB ta σ H QT = ta σ H fun x H1 => ∃ k, x = .bl k ∧ QT k H1 := rfl
theorem w_and : tAnd t u σ H QT = t σ H fun c H1 => if c = true then u σ H1 QT else QT false H1 := rfl
theorem w_or : tOr t u σ H QT = t σ H fun c H1 => if c = true then QT true H1 else u σ H1 QT := rfl
theorem w_not : tNot t σ H QT = t σ H fun c H1 => QT (!c) H1 := rfl
theorem w_andV : tAndV ta tb σ H Q = ta σ H fun x H1 => ∃ c, x = .bl c ∧ if c = true then tb σ H1 Q else Q (.bl false) H1 := rfl
theorem w_orV : tOrV ta tb σ H Q = ta σ H fun x H1 => ∃ c, x = .bl c ∧ if c = true then Q (.bl true) H1 else tb σ H1 Q := rfl
theorem w_notV : tNotV ta σ H Q = ta σ H fun x H1 => ∃ c, x = .bl c ∧ Q (.bl (!c)) H1 := rfl
theorem w_ife : tIf t ta tb σ H Q = t σ H fun c H1 => if c = true then ta σ H1 Q else tb σ H1 Q := rfl
theorem w_nil : tNil σ H QA = QA [] H := rfl
theorem w_cons : tCons ta tr σ H QA = ta σ H fun x H1 => tr σ H1 fun xs H2 => QA (x :: xs) H2 := rfl
theorem w_fn {sp : Sp} {E : XK} : tFn sp E tr σ H Q = tr σ H fun vs H1 => sp vs H1 Q E := rfl
theorem w_cb {r : List V → Hp → VK → Prop} : tCB r tr σ H Q = tr σ H fun vs H1 => r vs H1 Q := rfl
theorem w_tup : tTup tr σ H Q = tr σ H fun xs H1 => xs.length ≤ sizeLine ∧ ∀ p, H1 p = none → Q (.ref p) (upd H1 p (.tup xs)) := rfl
theorem w_lst : tLst tr σ H Q = tr σ H fun xs H1 => xs.length ≤ sizeLine ∧ ∀ p, H1 p = none → Q (.ref p) (upd H1 p (.lst xs)) := rfl
theorem w_seq : tSeq s1 s2 D σ H = s1 { D with nx := s2 D } σ H := rfl
theorem w_next : tNext D σ H = D.nx σ H := rfl
theorem w_brk : tBreak D σ H = D.bk σ H := rfl
theorem w_ct : tCont D σ H = D.ct σ H := rfl
theorem w_drop : tDrop te D σ H = te σ H fun _ H1 => D.nx σ H1 := rfl
theorem w_ret : tRet te D σ H = te σ H D.rt := rfl
theorem w_retN : tRetN D σ H = D.rt .non H := rfl
theorem w_ifS : tIfS t s1 s2 D σ H = t σ H fun b H1 => if b = true then s1 D σ H1 else s2 D σ H1 := rfl
theorem w_asgN {i : Nat} : tAsg te (gName i) D σ H = te σ H fun x H1 => D.nx (σ.set i (some x)) H1 := rfl
theorem w_asgT {n : Nat} {t : TGs} : tAsg te (gTup K n t) D σ H = te σ H fun v H1 => ∃ a xs, v = .ref a ∧ SqT K H1 a xs ∧ xs.length = n ∧ t xs σ H1 D.nx := rfl
theorem w_asgS {to ti : TE} {ts : TSet} : tAsg te (gSub to ti ts) D σ H = te σ H fun v H1 => to σ H1 fun o H2 => ti σ H2 fun i H3 => ts o i v H3 fun H4 => D.nx σ H4 := rfl
theorem w_gName {i : Nat} {QN : L2.St → Hp → Prop} : gName i v σ H QN = QN (σ.set i (some v)) H := rfl
theorem w_gNil {vs : List V} {QN : L2.St → Hp → Prop} : gNil vs σ H QN = (vs = [] ∧ QN σ H) := rfl
theorem w_gCons {g : TG} {gs : TGs} {vs : List V} {QN : L2.St → Hp → Prop} : gCons g gs vs σ H QN = ∃ v r, vs = v :: r ∧ g v σ H fun σ' H' => gs r σ' H' QN := rfl
theorem w_par {i j : Nat} : tPar i j tr D σ H = tr σ H fun vs H1 => ∃ v w, vs = [v, w] ∧ D.nx ((σ.set i (some v)).set j (some w)) H1 := rfl
theorem w_sl {r : V → Option Int → Option Int → Hp → VK → Prop} {tl th : TO} : tSl r te tl th σ H Q = te σ H fun x H1 => tl σ H1 fun l H2 => th σ H2 fun u H3 => r x l u H3 Q := rfl
theorem w_np {QO : Option Int → Hp → Prop} : tNoPart σ H QO = QO none H := rfl
theorem w_part {QO : Option Int → Hp → Prop} : tPart te σ H QO = te σ H fun x H1 => ∃ i, x = .int i ∧ QO (some i) H1 := rfl
theorem w_bm {T : String} {r : V → List V → Hp → VK → Prop} : tBM K T r te tr σ H Q = te σ H fun x H1 => tyV K T x H1 ∧ tr σ H1 fun xs H2 => r x xs H2 Q := rfl
theorem w_bm0 {T : String} {r : V → List V → Hp → VK → Prop} : tBM0 K T r te σ H Q = te σ H fun x H1 => tyV K T x H1 ∧ r x [] H1 Q := rfl
theorem w_cxK {CX : CXT} {P : Program} {w : World} {mg : PySem.Str → Option Value} {base : Heap} {N : List PySem.Str} {qual : PySem.Str} {scope : Scope} {f : Addr} {cd : Value} {A : Around} {outer : List Env} {s : Shared} {E : XK} : (cxOf CX P w K mg base N qual scope f cd A outer s H E).K = K := rfl
theorem w_aug {i : Nat} {ti : TIp} : tAug i te ti D σ H = ∃ x, σ[i]? = some (some x) ∧ te σ H fun y H1 => ti x y H1 fun z H2 => D.nx (σ.set i (some z)) H2 := rfl
theorem w_ipI {f : Int → Int → Int} : ipI f x y H Q = ∃ i j, x = .int i ∧ y = .int j ∧ Q (.int (f i j)) H := rfl
/-! ### readings that look into the heap -/
theorem r_ixL {p : Addr} {xs : List V} {i : Int} (h : SqL K H p xs) (ha : atI xs i = some v) (q : Q v H) : rIxL K (.ref p) (.int i) H Q := ⟨p, xs, i, v, rfl, rfl, h, ha, q⟩
theorem r_ixT {p : Addr} {xs : List V} {i : Int} (h : SqT K H p xs) (ha : atI xs i = some v) (q : Q v H) : rIxT K (.ref p) (.int i) H Q := ⟨p, xs, i, v, rfl, rfl, h, ha, q⟩
theorem r_slL {p : Addr} {xs : List V} {lo hi : Option Int} (h : SqL K H p xs) (q : ∀ l, H l = none → Q (.ref l) (upd H l (.lst (cutV xs lo hi)))) : rSlL K (.ref p) lo hi H Q := ⟨p, xs, rfl, h, q⟩
theorem r_sum {p : Addr} {ns : List Int} (h : SqL K H p (ns.map V.int)) (q : Q (.int ns.sum) H) : rSum K [.ref p] H Q := ⟨p, ns, rfl, h, q⟩
theorem r_setL {p : Addr} {xs : List V} {k : Int} {j : Nat} {QH : Hp → Prop} (h : H p = some (.lst xs)) (hj : ixN xs.length k = some j) (q : QH (upd H p (.lst (xs.set j v)))) : rSetL (.ref p) (.int k) v H QH := ⟨p, xs, k, j, rfl, rfl, h, hj, q⟩
theorem r_app {p : Addr} {xs : List V} (h : H p = some (.lst xs)) (hl : xs.length < sizeLine) (q : Q .non (upd H p (.lst (xs ++ [v])))) : rAppend (.ref p) [v] H Q := ⟨p, xs, v, rfl, rfl, h, hl, q⟩
theorem r_len {p : Addr} {xs : List V} (h : SqL K H p xs) (q : Q (.int (xs.length : Int)) H) : rLen K [.ref p] H Q := ⟨p, xs, rfl, .inl h, q⟩
theorem r_lenT {p : Addr} {xs : List V} (h : SqT K H p xs) (q : Q (.int (xs.length : Int)) H) : rLen K [.ref p] H Q := ⟨p, xs, rfl, .inr h, q⟩
theorem r_listL {p : Addr} {xs : List V} (h : SqL K H p xs) (q : ∀ l, H l = none → Q (.ref l) (upd H l (.lst xs))) : rListO K [.ref p] H Q := ⟨p, xs, rfl, .inl h, q⟩
theorem r_listT {p : Addr} {xs : List V} (h : SqT K H p xs) (q : ∀ l, H l = none → Q (.ref l) (upd H l (.lst xs))) : rListO K [.ref p] H Q := ⟨p, xs, rfl, .inr h, q⟩
theorem r_tupL {p : Addr} {xs : List V} (h : SqL K H p xs) (q : ∀ l, H l = none → Q (.ref l) (upd H l (.tup xs))) : rTupO K [.ref p] H Q := ⟨p, xs, rfl, .inl ⟨h, q⟩⟩
theorem r_tupT {p : Addr} {xs : List V} (h : SqT K H p xs) (q : Q (.ref p) H) : rTupO K [.ref p] H Q := ⟨p, xs, rfl, .inr ⟨h, q⟩⟩
theorem r_min {p : Addr} {ns : List Int} (h : SqL K H p (ns.map V.int)) (h0 : 0 < ns.length) (q : ∀ m, m ∈ ns → (∀ y, y ∈ ns → m ≤ y) → Q (.int m) H) : rMin K [.ref p] H Q := ⟨p, ns, rfl, h, h0, q⟩
theorem r_max {p : Addr} {ns : List Int} (h : SqL K H p (ns.map V.int)) (h0 : 0 < ns.length) (q : ∀ m, m ∈ ns → (∀ y, y ∈ ns → y ≤ m) → Q (.int m) H) : rMax K [.ref p] H Q := ⟨p, ns, rfl, h, h0, q⟩
theorem r_sortedI {p : Addr} {ns : List Int} (h : SqL K H p (ns.map V.int)) (q : ∀ (ns' : List Int) (l : Addr), ns'.Perm ns → ns'.Pairwise (· ≤ ·) → H l = none → Q (.ref l) (upd H l (.lst (ns'.map V.int)))) : rSortedI K [.ref p] H Q := ⟨p, ns, rfl, h, q⟩
theorem r_cat {l b : Addr} {xs zs : List V} (h1 : H l = some (.lst xs)) (h2 : H b = some (.lst zs)) (hl : xs.length + zs.length ≤ sizeLine) (q : ∀ p, H p = none → Q (.ref p) (upd H p (.lst (xs ++ zs)))) : rCat (.ref l) (.ref b) H Q := ⟨l, b, xs, zs, rfl, rfl, h1, h2, hl, q⟩
theorem r_catA {a b : Addr} {xs ys : List V} (h1 : SqT K H a xs) (h2 : SqT K H b ys) (hl : xs.length + ys.length ≤ sizeLine) (q0 : xs = [] → Q (.ref b) H) (q1 : xs ≠ [] → ys = [] → Q (.ref a) H) (q2 : xs ≠ [] → ys ≠ [] → ∀ p, H p = none → Q (.ref p) (upd H p (.tup (xs ++ ys)))) : rCatA K (.ref a) (.ref b) H Q :=
  ⟨a, b, xs, ys, rfl, rfl, h1, h2, hl, q0, q1, q2⟩
theorem ty_list {p : Addr} {xs : List V} (h : SqL K H p xs) : tyV K "list" (.ref p) H := .inl ⟨rfl, xs, h⟩
/-- a while, by a word with its measure; G: a turn is wanted, N: what is wanted behind it -/
theorem while_m {c : TT} (Pv : Nat → L2.St → Hp → Prop) (m0 : Nat) (h0 : Pv m0 σ H)
    (hs : ∀ m σ H, Pv m σ H → ∀ G : L2.St → Hp → Prop, (∀ σ1 H1, (∀ N : L2.St → Hp → Prop, (∀ m' σ' H', m' < m → Pv m' σ' H' → N σ' H') → s1 { D with nx := N, ct := N, bk := D.nx } σ1 H1) → G σ1 H1) →
      c σ H fun b H1 => if b = true then G σ H1 else D.nx σ H1) : tWhile c s1 D σ H :=
  ⟨Pv, ⟨m0, h0⟩, fun m σ H p => hs m σ H p (fun σ1 H1 => ∃ N : L2.St → Hp → Prop, (∀ σ' H', N σ' H' → ∃ m', m' < m ∧ Pv m' σ' H') ∧ s1 { D with nx := N, ct := N, bk := D.nx } σ1 H1)
    fun σ1 H1 h => ⟨_, fun _ _ z => z, h (fun σ' H' => ∃ m', m' < m ∧ Pv m' σ' H') fun m' _ _ h1 h2 => ⟨m', h1, h2⟩⟩⟩
/-- the turns of a for: over a list at a, a tuple at a, lo, lo + 1, .. (n of them) -/
def FJ (J : It) (g : TG) (s1 : TS) (D : Ends) (σ : L2.St) (H : Hp) : Prop := ∃ W : Nat → Nat → L2.St → Hp → Prop, (∃ m, W 0 m σ H) ∧ ∀ i m σ H, W i m σ H →
  (J.stop i H ∧ D.nx σ H) ∨ (J.go i H ∧ ∃ N : L2.St → Hp → Prop, (∀ σ' H', N σ' H' → ∃ m', m' < m ∧ W (i + 1) m' σ' H') ∧ ∀ x H', J.yld i H x H' → g x σ H' fun σ2 H2 => s1 { D with nx := N, ct := N, bk := D.nx } σ2 H2)
theorem w_tru : tTru K te σ H QT = te σ H fun x H1 => ∃ k, TruV K x H1 k ∧ QT k H1 := rfl
theorem w_forL {g : TG} : tFor (iList K te) g s1 D σ H = te σ H fun x H1 => ∃ a, x = .ref a ∧ (∃ xs, SqL K H1 a xs) ∧ FJ (Itl K a) g s1 D σ H1 := rfl
theorem w_forT {g : TG} : tFor (iTup K te) g s1 D σ H = te σ H fun x H1 => ∃ a, x = .ref a ∧ (∃ xs, SqT K H1 a xs) ∧ FJ (Itt K a) g s1 D σ H1 := rfl
theorem w_for1 {g : TG} : tFor (iRng1 tr) g s1 D σ H = tr σ H fun vs H1 => ∃ j : Int, vs = [.int j] ∧ -(2 ^ 62) ≤ j ∧ j < 2 ^ 62 ∧ FJ (Itr 0 j.toNat) g s1 D σ H1 := rfl
theorem w_for2 {g : TG} : tFor (iRng2 tr) g s1 D σ H = tr σ H fun vs H1 => ∃ i j : Int, vs = [.int i, .int j] ∧ (-(2 ^ 62) ≤ i ∧ i < 2 ^ 62 ∧ -(2 ^ 62) ≤ j ∧ j < 2 ^ 62) ∧ FJ (Itr i (j - i).toNat) g s1 D σ H1 := rfl
theorem w_for3 {g : TG} : tFor (iRng3 tr) g s1 D σ H = tr σ H fun vs H1 => ∃ (i j c : Int) (n : Nat), vs = [.int i, .int j, .int c] ∧ RgC i j c n ∧ FJ (Itc i c n) g s1 D σ H1 := rfl
theorem for_c {lo c : Int} {n : Nat} {g : TG} (Pv : Nat → L2.St → Hp → Prop) (h0 : Pv 0 σ H)
    (hs : ∀ i σ H, i < n → Pv i σ H → ∀ N : L2.St → Hp → Prop, (∀ σ' H', Pv (i + 1) σ' H' → N σ' H') → g (.int (lo + (i : Nat) * c)) σ H fun σ2 H2 => s1 { D with nx := N, ct := N, bk := D.nx } σ2 H2) (hd : ∀ σ H, Pv n σ H → D.nx σ H) :
    FJ (Itc lo c n) g s1 D σ H := for_rangeC Pv h0 (fun i σ H hx hp => hs i σ H hx hp _ fun _ _ z => z) hd
theorem for_l {a : Addr} {xs : List V} {g : TG} (Pv : Nat → L2.St → Hp → Prop) (h0 : Pv 0 σ H) (hl : ∀ i σ H, i ≤ xs.length → Pv i σ H → SqL K H a xs)
    (hs : ∀ i x σ H, xs[i]? = some x → Pv i σ H → ∀ N : L2.St → Hp → Prop, (∀ σ' H', Pv (i + 1) σ' H' → N σ' H') → g x σ H fun σ2 H2 => s1 { D with nx := N, ct := N, bk := D.nx } σ2 H2) (hd : ∀ σ H, Pv xs.length σ H → D.nx σ H) :
    FJ (Itl K a) g s1 D σ H := for_list Pv h0 hl (fun i x σ H hx hp => hs i x σ H hx hp _ fun _ _ z => z) hd
theorem for_t {a : Addr} {xs : List V} {g : TG} (Pv : Nat → L2.St → Hp → Prop) (h0 : Pv 0 σ H) (hl : ∀ i σ H, i ≤ xs.length → Pv i σ H → SqT K H a xs)
    (hs : ∀ i x σ H, xs[i]? = some x → Pv i σ H → ∀ N : L2.St → Hp → Prop, (∀ σ' H', Pv (i + 1) σ' H' → N σ' H') → g x σ H fun σ2 H2 => s1 { D with nx := N, ct := N, bk := D.nx } σ2 H2) (hd : ∀ σ H, Pv xs.length σ H → D.nx σ H) :
    FJ (Itt K a) g s1 D σ H := for_tup Pv h0 hl (fun i x σ H hx hp => hs i x σ H hx hp _ fun _ _ z => z) hd
theorem for_r {lo : Int} {n : Nat} {g : TG} (Pv : Nat → L2.St → Hp → Prop) (h0 : Pv 0 σ H)
    (hs : ∀ i σ H, i < n → Pv i σ H → ∀ N : L2.St → Hp → Prop, (∀ σ' H', Pv (i + 1) σ' H' → N σ' H') → g (.int (lo + i)) σ H fun σ2 H2 => s1 { D with nx := N, ct := N, bk := D.nx } σ2 H2) (hd : ∀ σ H, Pv n σ H → D.nx σ H) :
    FJ (Itr lo n) g s1 D σ H := for_range Pv h0 (fun i σ H hx hp => hs i σ H hx hp _ fun _ _ z => z) hd
end
/-! ### heaps -/
theorem ne_fresh {H : Hp} {a b : Addr} {o : HO} (h' : H b = none) (h : H a = some o) : a ≠ b := ne_of_none h h'
theorem upd_free {H : Hp} {a p : Addr} {o : HO} (h : upd H a o p = none) : H p = none := by
  unfold upd at h
  split at h
  · cases h
  · exact h
theorem upd_free_ne {H : Hp} {a p : Addr} {o : HO} (h : upd H a o p = none) : p ≠ a := by
  intro e
  rw [e, upd_same] at h
  cases h
theorem same_new {H : Hp} {p : Addr} {o : HO} (h : H p = none) : Same H (upd H p o) := fun b x e => by
  rw [upd_ne (ne_of_none e h)]
  exact e
/-- all that was tracked is as it was, but what stands at a -/
def Kp (a : Addr) (H H' : Hp) : Prop := ∀ b o, b ≠ a → H b = some o → H' b = some o
theorem Kp.refl (a : Addr) (H : Hp) : Kp a H H := fun _ _ _ h => h
theorem Kp.trans {a : Addr} {H H1 H2 : Hp} (x : Kp a H H1) (y : Kp a H1 H2) : Kp a H H2 := fun b o n h => y b o n (x b o n h)
theorem sm_kp {a : Addr} {H H' : Hp} (x : Same H H') : Kp a H H' := fun b o _ h => x b o h
theorem Kp.upd {a : Addr} {H H' : Hp} {o : HO} (x : Kp a H H') : Kp a H (upd H' a o) := fun b u n h => by
  rw [upd_ne n]
  exact x b u n h
theorem Kp.new {a p : Addr} {H H' : Hp} {o : HO} (x : Kp a H H') (hp : H p = none) : Kp a H (L2.upd H' p o) := fun b u n h => by
  rw [upd_ne (ne_of_none h hp)]
  exact x b u n h
theorem Kp.free {a p : Addr} {H H' : Hp} (x : Kp a H H') (n : p ≠ a) (hp : H' p = none) : H p = none := by
  cases q : H p with
  | none => rfl
  | some o =>
    rw [x p o n q] at hp
    cases hp
theorem Kp.seq {K : PySem.W.Frag} {a : Addr} {H H' : Hp} {l : Addr} {xs : List V} (x : Kp a H H') (n : l ≠ a) (h : SqL K H l xs) : SqL K H' l xs := by
  rcases h with (h | ⟨o, h⟩) | h
  · exact .inl (.inl (x _ _ n h))
  · exact .inl (.inr ⟨o, x _ _ n h⟩)
  · exact .inr h
theorem sm_new {p : Addr} {H H' : Hp} {o : HO} (x : Same H H') (hp : H p = none) : Same H (L2.upd H' p o) := fun b u h => by
  rw [upd_ne (ne_of_none h hp)]
  exact x b u h
theorem cut_to (xs : List V) (k : Nat) : cutV xs none (some (k : Int)) = xs.take k := by
  unfold cutV
  rw [HT.sIx_none, HT.sIx_nat]
  simp only [List.drop_zero, Nat.sub_zero]
  rcases Nat.le_total k xs.length with h | h
  · rw [Nat.min_eq_left h]
  · rw [Nat.min_eq_right h, List.take_of_length_le (Nat.le_refl _), List.take_of_length_le h]
theorem cut_from (xs : List V) (k : Nat) : cutV xs (some (k : Int)) none = xs.drop k := by
  unfold cutV
  rw [HT.sIx_none, HT.sIx_nat]
  rcases Nat.le_total k xs.length with h | h
  · rw [Nat.min_eq_left h, List.take_of_length_le (by simp)]
  · rw [Nat.min_eq_right h, List.drop_eq_nil_of_le (Nat.le_refl _), List.drop_eq_nil_of_le h]
    simp
theorem atI_mem {xs : List V} {i : Int} (h0 : 0 ≤ i) (h1 : i < xs.length) : ∃ v, v ∈ xs ∧ atI xs i = some v := by
  obtain ⟨j, rfl⟩ := Int.eq_ofNat_of_zero_le h0
  have hj : j < xs.length := by omega
  exact ⟨xs[j], List.getElem_mem hj, atI_nat (List.getElem?_eq_getElem hj)⟩
theorem atI_ints {ns : List Int} {i : Int} (h0 : 0 ≤ i) (h1 : i < ns.length) : ∃ z, z ∈ ns ∧ atI (ns.map V.int) i = some (.int z) := by
  obtain ⟨j, rfl⟩ := Int.eq_ofNat_of_zero_le h0
  have hj : j < ns.length := by omega
  exact ⟨ns[j], List.getElem_mem hj, atI_nat (by rw [List.getElem?_map, List.getElem?_eq_getElem hj]; rfl)⟩
/-! ### data that is compared: ints, tuples and lists of ints, pairs of ints -/
def dI (ns : List Int) : List PyData := ns.map PyData.int
theorem canLay_ints : ∀ ns : List Int, PyData.canLayAll0 (dI ns) = true
  | [] => by simp [dI, PyData.canLayAll0]
  | n :: r => by
    have := canLay_ints r
    simp only [dI] at this ⊢
    simp [PyData.canLayAll0, PyData.canLay0, this]
theorem depth_ints : ∀ ns : List Int, PyData.depthAll (dI ns) = 0
  | [] => by simp [dI, PyData.depthAll]
  | n :: r => by
    have := depth_ints r
    simp only [dI] at this ⊢
    simp [PyData.depthAll, PyData.depth, this]
theorem eqv_ints : ∀ ns ms : List Int, PyData.eqvAll (dI ns) (dI ms) = decide (ns = ms)
  | [], [] => by simp [dI, PyData.eqvAll]
  | [], _ :: _ => by simp [dI, PyData.eqvAll]
  | _ :: _, [] => by simp [dI, PyData.eqvAll]
  | n :: r, m :: t => by
    have := eqv_ints r t
    simp only [dI] at this ⊢
    simp only [List.map_cons, PyData.eqvAll, PyData.eqv, this, List.cons.injEq]
    rw [Bool.decide_and, Bool.beq_eq_decide_eq]
theorem dpAll_ints {K : PySem.W.Frag} {H : Hp} : ∀ ns : List Int, DpAll K H (ns.map V.int) (dI ns)
  | [] => .nil
  | n :: r => .cons (.int n) (dpAll_ints r)
theorem sh_tI (ns : List Int) : SeqAt.shaped (.tuple (dI ns)) = true := by
  unfold SeqAt.shaped
  simp [PyData.canLay0, PyData.depth, canLay_ints, depth_ints]
theorem sh_lI (ns : List Int) : SeqAt.shaped (.list (dI ns)) = true := by
  unfold SeqAt.shaped
  simp [PyData.canLay0, PyData.depth, canLay_ints, depth_ints]
/-- pairs of ints -/
def dP (ps : List (Int × Int)) : List PyData := ps.map fun p => PyData.tuple (dI [p.1, p.2])
theorem canLay_pairs : ∀ ps : List (Int × Int), PyData.canLayAll0 (dP ps) = true
  | [] => by simp [dP, PyData.canLayAll0]
  | n :: r => by
    have := canLay_pairs r
    simp only [dP] at this ⊢
    simp [PyData.canLayAll0, PyData.canLay0, this, canLay_ints]
theorem depth_pairs : ∀ ps : List (Int × Int), PyData.depthAll (dP ps) ≤ 1
  | [] => by simp [dP, PyData.depthAll]
  | n :: r => by
    have := depth_pairs r
    simp only [dP] at this ⊢
    simp only [List.map_cons, PyData.depthAll, PyData.depth, depth_ints]
    omega
theorem eqv_pairs : ∀ ns ms : List (Int × Int), PyData.eqvAll (dP ns) (dP ms) = decide (ns = ms)
  | [], [] => by simp [dP, PyData.eqvAll]
  | [], _ :: _ => by simp [dP, PyData.eqvAll]
  | _ :: _, [] => by simp [dP, PyData.eqvAll]
  | (a, b) :: r, (c, d) :: t => by
    have := eqv_pairs r t
    simp only [dP] at this ⊢
    simp only [List.map_cons, PyData.eqvAll, PyData.eqv, this, List.cons.injEq, eqv_ints, Prod.mk.injEq, and_true]
    simp only [Bool.decide_and]
theorem sh_tP (ns : List (Int × Int)) : SeqAt.shaped (.tuple (dP ns)) = true := by
  unfold SeqAt.shaped
  have := depth_pairs ns
  simp only [PyData.canLay0, PyData.depth, canLay_pairs, Bool.true_and, decide_eq_true_eq]
  exact decide_eq_true (by omega)
theorem sh_lP (ns : List (Int × Int)) : SeqAt.shaped (.list (dP ns)) = true := by
  unfold SeqAt.shaped
  have := depth_pairs ns
  simp only [PyData.canLay0, PyData.depth, canLay_pairs, Bool.true_and, decide_eq_true_eq]
  exact decide_eq_true (by omega)
/-- tuples of two ints stand at these addresses -/
def PairsAt (K : PySem.W.Frag) (H : Hp) (as : List Addr) (ps : List (Int × Int)) : Prop := as.length = ps.length ∧ ∀ (i : Nat) (a : Addr) (p : Int × Int), as[i]? = some a → ps[i]? = some p → SqT K H a [.int p.1, .int p.2]
theorem PairsAt.nil {K : PySem.W.Frag} {H : Hp} : PairsAt K H [] [] := ⟨rfl, fun _ _ _ h => by simp at h⟩
theorem PairsAt.snoc {K : PySem.W.Frag} {H : Hp} {as : List Addr} {ps : List (Int × Int)} {a : Addr} {p : Int × Int} (h : PairsAt K H as ps) (hp : SqT K H a [.int p.1, .int p.2]) : PairsAt K H (as ++ [a]) (ps ++ [p]) := by
  refine ⟨by simp [h.1], fun i b q h1 h2 => ?_⟩
  rcases Nat.lt_or_ge i as.length with c | c
  · rw [List.getElem?_append_left c] at h1
    rw [List.getElem?_append_left (by rw [← h.1]; exact c)] at h2
    exact h.2 i b q h1 h2
  · rw [List.getElem?_append_right c] at h1
    rw [List.getElem?_append_right (by rw [← h.1]; exact c)] at h2
    have e1 : i - as.length = 0 := by
      have := (List.getElem?_eq_some_iff.mp h1).1
      simp at this
      omega
    rw [← h.1, e1] at h2
    rw [e1] at h1
    simp at h1 h2
    subst h1 h2
    exact hp
theorem dpAll_pairs {K : PySem.W.Frag} {H : Hp} : ∀ {as : List Addr} {ps : List (Int × Int)}, PairsAt K H as ps → DpAll K H (as.map V.ref) (dP ps)
  | [], [], _ => .nil
  | [], _ :: _, h => by
    have := h.1
    simp at this
  | _ :: _, [], h => by
    have := h.1
    simp at this
  | a :: as, p :: ps, h => .cons (.tup (h.2 0 a p rfl rfl) (dpAll_ints [p.1, p.2])) (dpAll_pairs ⟨by have := h.1; simp at this; exact this, fun i b q h1 h2 => h.2 (i + 1) b q (by simpa using h1) (by simpa using h2)⟩)
section
variable {K : PySem.W.Frag} {H : Hp} {Q : VK} {a b : Addr}
theorem r_eqT {ns ms : List Int} (hx : SqT K H a (ns.map V.int)) (hy : SqT K H b (ms.map V.int)) (q : Q (.bl (decide (ns = ms))) H) : rEqD K (.ref a) (.ref b) H Q :=
  ⟨.tuple (dI ns), .tuple (dI ms), .tup hx (dpAll_ints ns), .tup hy (dpAll_ints ms), sh_tI ns, sh_tI ms, by rw [PyData.eqv, eqv_ints]; exact q⟩
theorem r_neT {ns ms : List Int} (hx : SqT K H a (ns.map V.int)) (hy : SqT K H b (ms.map V.int)) (q : Q (.bl (!decide (ns = ms))) H) : rNeD K (.ref a) (.ref b) H Q :=
  ⟨.tuple (dI ns), .tuple (dI ms), .tup hx (dpAll_ints ns), .tup hy (dpAll_ints ms), sh_tI ns, sh_tI ms, by rw [PyData.eqv, eqv_ints]; exact q⟩
theorem r_eqL {ns ms : List Int} (hx : SqL K H a (ns.map V.int)) (hy : SqL K H b (ms.map V.int)) (q : Q (.bl (decide (ns = ms))) H) : rEqD K (.ref a) (.ref b) H Q :=
  ⟨.list (dI ns), .list (dI ms), .lst hx (dpAll_ints ns), .lst hy (dpAll_ints ms), sh_lI ns, sh_lI ms, by rw [PyData.eqv, eqv_ints]; exact q⟩
theorem r_neL {ns ms : List Int} (hx : SqL K H a (ns.map V.int)) (hy : SqL K H b (ms.map V.int)) (q : Q (.bl (!decide (ns = ms))) H) : rNeD K (.ref a) (.ref b) H Q :=
  ⟨.list (dI ns), .list (dI ms), .lst hx (dpAll_ints ns), .lst hy (dpAll_ints ms), sh_lI ns, sh_lI ms, by rw [PyData.eqv, eqv_ints]; exact q⟩
theorem r_eqTP {as bs : List Addr} {ns ms : List (Int × Int)} (hx : SqT K H a (as.map V.ref)) (ha : PairsAt K H as ns) (hy : SqT K H b (bs.map V.ref)) (hb : PairsAt K H bs ms) (q : Q (.bl (decide (ns = ms))) H) : rEqD K (.ref a) (.ref b) H Q :=
  ⟨.tuple (dP ns), .tuple (dP ms), .tup hx (dpAll_pairs ha), .tup hy (dpAll_pairs hb), sh_tP ns, sh_tP ms, by rw [PyData.eqv, eqv_pairs]; exact q⟩
theorem r_neTP {as bs : List Addr} {ns ms : List (Int × Int)} (hx : SqT K H a (as.map V.ref)) (ha : PairsAt K H as ns) (hy : SqT K H b (bs.map V.ref)) (hb : PairsAt K H bs ms) (q : Q (.bl (!decide (ns = ms))) H) : rNeD K (.ref a) (.ref b) H Q :=
  ⟨.tuple (dP ns), .tuple (dP ms), .tup hx (dpAll_pairs ha), .tup hy (dpAll_pairs hb), sh_tP ns, sh_tP ms, by rw [PyData.eqv, eqv_pairs]; exact q⟩
theorem r_eqLP {as bs : List Addr} {ns ms : List (Int × Int)} (hx : SqL K H a (as.map V.ref)) (ha : PairsAt K H as ns) (hy : SqL K H b (bs.map V.ref)) (hb : PairsAt K H bs ms) (q : Q (.bl (decide (ns = ms))) H) : rEqD K (.ref a) (.ref b) H Q :=
  ⟨.list (dP ns), .list (dP ms), .lst hx (dpAll_pairs ha), .lst hy (dpAll_pairs hb), sh_lP ns, sh_lP ms, by rw [PyData.eqv, eqv_pairs]; exact q⟩
theorem r_neLP {as bs : List Addr} {ns ms : List (Int × Int)} (hx : SqL K H a (as.map V.ref)) (ha : PairsAt K H as ns) (hy : SqL K H b (bs.map V.ref)) (hb : PairsAt K H bs ms) (q : Q (.bl (!decide (ns = ms))) H) : rNeD K (.ref a) (.ref b) H Q :=
  ⟨.list (dP ns), .list (dP ms), .lst hx (dpAll_pairs ha), .lst hy (dpAll_pairs hb), sh_lP ns, sh_lP ms, by rw [PyData.eqv, eqv_pairs]; exact q⟩
/-- isinstance of a built-in class -/
theorem r_isi {x : V} {T n : String} {c : Bool} (ty : TyX K H x (.type T)) (hk : kitB T n = some c) (q : Q (.bl c) H) : rIsi K [x, .ty n] H Q := ⟨x, .ty n, .type T, .type n, c, rfl, .ty n, ty, kit_ty hk, q⟩
theorem ty_int (i : Int) : TyX K H (.int i) (.type "int") := .base (.int i)
theorem ty_bl (c : Bool) : TyX K H (.bl c) (.type "bool") := .base (.bl c)
theorem ty_str (c : PySem.Str) : TyX K H (.str c) (.type "str") := .base (.str c)
theorem ty_tup {xs : List V} (h : SqT K H a xs) : TyX K H (.ref a) (.type "tuple") := by
  rcases h with (h | ⟨o, h⟩) | ⟨o, its, n, h1, h2, _⟩
  · exact .base (.tup h)
  · exact .fTuple h
  · exact .kTuple h1 h2
theorem ty_lst {xs : List V} (h : SqL K H a xs) : TyX K H (.ref a) (.type "list") := by
  rcases h with (h | ⟨o, h⟩) | ⟨o, its, n, h1, h2, _⟩
  · exact .base (.lst h)
  · exact .base (.frz h)
  · exact .kList h1 h2
end
/-- all of these stand at tuples of a number to 10 ** 40 and an exponent from 1 to 200 -/
def Jobs (H : Hp) (xs : List V) : Prop := ∀ x ∈ xs, ∃ (a : Addr) (n e : Nat), x = .ref a ∧ H a = some (.tup [.int n, .int e]) ∧ n ≤ 10 ^ 40 ∧ 1 ≤ e ∧ e ≤ 200
theorem Jobs.kp {H H' : Hp} {xs : List V} {d : Addr} (h : Jobs H xs) (k : Kp d H H') (hd : ∃ ys, H d = some (.lst ys)) : Jobs H' xs := fun x hx => by
  obtain ⟨a, n, e, h1, h2, h3⟩ := h x hx
  obtain ⟨ys, hy⟩ := hd
  exact ⟨a, n, e, h1, k _ _ (ne_of h2 hy (by intro z; cases z)) h2, h3⟩
theorem Jobs.same {H H' : Hp} {xs : List V} (h : Jobs H xs) (k : Same H H') : Jobs H' xs := fun x hx => by
  obtain ⟨a, n, e, h1, h2, h3⟩ := h x hx
  exact ⟨a, n, e, h1, k _ _ h2, h3⟩
/-! ### a comprehension whose turns change nothing that was there -/
section
variable {σ : L2.St} {H : Hp} {Q : VK} {K : PySem.W.Frag} {te tl : TE} {tt : TT} {tr : TA} {g : TG} {vs : List Nat}
/-- the turns of a comprehension -/
def LJ (J : It) (g : TG) (tt : TT) (te : TE) (vs : List Nat) (σ : L2.St) (H1 : Hp) (Q : VK) : Prop := ∀ D, H1 D = none → ∃ W : Nat → Nat → Hp → Prop, (∃ m, W 0 m (upd H1 D (.lst []))) ∧ ∀ i m H, W i m H →
  (J.stop i H ∧ Q (.ref D) H) ∨ (J.go i H ∧ ∃ Nx : Hp → Prop, (∀ H', Nx H' → ∃ m', m' < m ∧ W (i + 1) m' H') ∧ ∀ x H', J.yld i H x H' → g x (wipe σ vs) H' fun σ2 H2 => wipe σ2 vs = wipe σ vs ∧ tt σ2 H2 fun b H3 =>
    if b = true then te σ2 H3 fun y H4 => ∃ acc, H4 D = some (.lst acc) ∧ acc.length < sizeLine ∧ Nx (upd H4 D (.lst (acc ++ [y]))) else Nx H3)
theorem w_lcL : tLc (iList K tl) g tt te vs σ H Q = tl σ H fun x H1 => ∃ a, x = .ref a ∧ (∃ xs, SqL K H1 a xs) ∧ LJ (Itl K a) g tt te vs σ H1 Q := rfl
theorem w_lcT : tLc (iTup K tl) g tt te vs σ H Q = tl σ H fun x H1 => ∃ a, x = .ref a ∧ (∃ xs, SqT K H1 a xs) ∧ LJ (Itt K a) g tt te vs σ H1 Q := rfl
theorem w_lc1 : tLc (iRng1 tr) g tt te vs σ H Q = tr σ H fun xs H1 => ∃ j : Int, xs = [.int j] ∧ -(2 ^ 62) ≤ j ∧ j < 2 ^ 62 ∧ LJ (Itr 0 j.toNat) g tt te vs σ H1 Q := rfl
theorem w_lc2 : tLc (iRng2 tr) g tt te vs σ H Q = tr σ H fun xs H1 => ∃ i j : Int, xs = [.int i, .int j] ∧ (-(2 ^ 62) ≤ i ∧ i < 2 ^ 62 ∧ -(2 ^ 62) ≤ j ∧ j < 2 ^ 62) ∧ LJ (Itr i (j - i).toNat) g tt te vs σ H1 Q := rfl
theorem w_lc3 : tLc (iRng3 tr) g tt te vs σ H Q = tr σ H fun xs H1 => ∃ (i j c : Int) (n : Nat), xs = [.int i, .int j, .int c] ∧ RgC i j c n ∧ LJ (Itc i c n) g tt te vs σ H1 Q := rfl
theorem w_yes {QT : Bool → Hp → Prop} : tYes σ H QT = QT true H := rfl
theorem same_seqT {K : PySem.W.Frag} {H H' : Hp} {a : Addr} {xs : List V} (e : Same H H') (h : SqT K H a xs) : SqT K H' a xs := by
  rcases h with (h | ⟨o, h⟩) | h
  · exact .inl (.inl (e _ _ h))
  · exact .inl (.inr ⟨o, e _ _ h⟩)
  · exact .inr h
theorem Kp.seqT {K : PySem.W.Frag} {a : Addr} {H H' : Hp} {l : Addr} {xs : List V} (x : Kp a H H') (n : l ≠ a) (h : SqT K H l xs) : SqT K H' l xs := by
  rcases h with (h | ⟨o, h⟩) | h
  · exact .inl (.inl (x _ _ n h))
  · exact .inl (.inr ⟨o, x _ _ n h⟩)
  · exact .inr h
theorem PairsAt.same {K : PySem.W.Frag} {H H' : Hp} {as : List Addr} {ps : List (Int × Int)} (h : PairsAt K H as ps) (e : Same H H') : PairsAt K H' as ps := ⟨h.1, fun i a p h1 h2 => same_seqT e (h.2 i a p h1 h2)⟩
theorem filt_take {α β : Type} (f : α → Option β) {xs : List α} {i : Nat} {x : α} (h : xs[i]? = some x) : (xs.take (i + 1)).filterMap f = (xs.take i).filterMap f ++ (f x).toList := by
  rw [List.take_add_one, h, List.filterMap_append]
  cases e : f x <;> simp [e]
/-- f tells of an item what is put into the list, if anything -/
theorem lc_l {a : Addr} {xs : List V} (f : V → Option V) (hx : SqL K H a xs) (hl : xs.length < sizeLine)
    (hs : ∀ (i : Nat) (x : V) (H' : Hp), xs[i]? = some x → Same H H' → ∀ (N0 : Hp → Prop) (N1 : VK), (f x = none → ∀ H2, Same H' H2 → N0 H2) → (∀ y, f x = some y → ∀ H2, Same H' H2 → N1 y H2) →
      g x (wipe σ vs) H' fun σ2 H2 => wipe σ2 vs = wipe σ vs ∧ tt σ2 H2 fun b H3 => if b = true then te σ2 H3 N1 else N0 H3)
    (q : ∀ D H', H D = none → Same H H' → H' D = some (.lst (xs.filterMap f)) → Q (.ref D) H') : LJ (Itl K a) g tt te vs σ H Q := by
  intro D hD
  refine lc_list (K := K) (a := a) (xs := xs) (fun i H' => Same H H' ∧ H' D = some (.lst ((xs.take i).filterMap f))) ⟨same_new hD, by rw [upd_same]; simp⟩ (fun i H' _ p => p.1.seq hx) ?_ ?_
  · rintro i x H' hi ⟨p1, p2⟩
    have hlen : ((xs.take i).filterMap f).length < sizeLine := Nat.lt_of_le_of_lt (Nat.le_trans (List.length_filterMap_le _ _) (by rw [List.length_take]; exact Nat.min_le_right _ _)) hl
    refine hs i x H' hi p1 _ _ (fun hf H2 e2 => ⟨p1.trans e2, ?_⟩) fun y hf H2 e2 => ⟨_, e2 _ _ p2, hlen, fun b o h => ?_, ?_⟩
    · rw [e2 _ _ p2, filt_take f hi, hf]
      simp
    · rw [upd_ne (ne_of_none h hD)]
      exact e2 _ _ (p1 _ _ h)
    · rw [upd_same, filt_take f hi, hf]
      rfl
  · rintro H' ⟨p1, p2⟩
    rw [List.take_length] at p2
    exact q D H' hD p1 p2
theorem lc_t {a : Addr} {xs : List V} (f : V → Option V) (hx : SqT K H a xs) (hl : xs.length < sizeLine)
    (hs : ∀ (i : Nat) (x : V) (H' : Hp), xs[i]? = some x → Same H H' → ∀ (N0 : Hp → Prop) (N1 : VK), (f x = none → ∀ H2, Same H' H2 → N0 H2) → (∀ y, f x = some y → ∀ H2, Same H' H2 → N1 y H2) →
      g x (wipe σ vs) H' fun σ2 H2 => wipe σ2 vs = wipe σ vs ∧ tt σ2 H2 fun b H3 => if b = true then te σ2 H3 N1 else N0 H3)
    (q : ∀ D H', H D = none → Same H H' → H' D = some (.lst (xs.filterMap f)) → Q (.ref D) H') : LJ (Itt K a) g tt te vs σ H Q := by
  intro D hD
  refine lc_tup (K := K) (a := a) (xs := xs) (fun i H' => Same H H' ∧ H' D = some (.lst ((xs.take i).filterMap f))) ⟨same_new hD, by rw [upd_same]; simp⟩ (fun i H' _ p => same_seqT p.1 hx) ?_ ?_
  · rintro i x H' hi ⟨p1, p2⟩
    have hlen : ((xs.take i).filterMap f).length < sizeLine := Nat.lt_of_le_of_lt (Nat.le_trans (List.length_filterMap_le _ _) (by rw [List.length_take]; exact Nat.min_le_right _ _)) hl
    refine hs i x H' hi p1 _ _ (fun hf H2 e2 => ⟨p1.trans e2, ?_⟩) fun y hf H2 e2 => ⟨_, e2 _ _ p2, hlen, fun b o h => ?_, ?_⟩
    · rw [e2 _ _ p2, filt_take f hi, hf]
      simp
    · rw [upd_ne (ne_of_none h hD)]
      exact e2 _ _ (p1 _ _ h)
    · rw [upd_same, filt_take f hi, hf]
      rfl
  · rintro H' ⟨p1, p2⟩
    rw [List.take_length] at p2
    exact q D H' hD p1 p2
/-- over lo, lo + 1, .. (n of them), by the place -/
theorem lc_r {lo : Int} {n : Nat} (f : Nat → Option V) (hl : n < sizeLine)
    (hs : ∀ (i : Nat) (H' : Hp), i < n → Same H H' → ∀ (N0 : Hp → Prop) (N1 : VK), (f i = none → ∀ H2, Same H' H2 → N0 H2) → (∀ y, f i = some y → ∀ H2, Same H' H2 → N1 y H2) →
      g (.int (lo + i)) (wipe σ vs) H' fun σ2 H2 => wipe σ2 vs = wipe σ vs ∧ tt σ2 H2 fun b H3 => if b = true then te σ2 H3 N1 else N0 H3)
    (q : ∀ D H', H D = none → Same H H' → H' D = some (.lst ((List.range n).filterMap f)) → Q (.ref D) H') : LJ (Itr lo n) g tt te vs σ H Q := by
  intro D hD
  refine lc_range (lo := lo) (n := n) (fun i H' => Same H H' ∧ H' D = some (.lst ((List.range i).filterMap f))) ⟨same_new hD, by rw [upd_same]; simp⟩ ?_ ?_
  · rintro i H' hi ⟨p1, p2⟩
    have hlen : ((List.range i).filterMap f).length < sizeLine := Nat.lt_of_le_of_lt (List.length_filterMap_le _ _) (by rw [List.length_range]; omega)
    have hf1 : (List.range (i + 1)).filterMap f = (List.range i).filterMap f ++ (f i).toList := by
      rw [List.range_succ, List.filterMap_append]
      cases e : f i <;> simp [e]
    refine hs i H' hi p1 _ _ (fun hf H2 e2 => ⟨p1.trans e2, ?_⟩) fun y hf H2 e2 => ⟨_, e2 _ _ p2, hlen, fun b o h => ?_, ?_⟩
    · rw [e2 _ _ p2, hf1, hf]
      simp
    · rw [upd_ne (ne_of_none h hD)]
      exact e2 _ _ (p1 _ _ h)
    · rw [upd_same, hf1, hf]
      rfl
  · rintro H' ⟨p1, p2⟩
    exact q D H' hD p1 p2
/-- a comprehension by an invariant over what is made so far -/
theorem lc_rI {lo : Int} {n : Nat} (Pv : Nat → List V → Hp → Prop) (h0 : ∀ D, H D = none → Pv 0 [] (upd H D (.lst [])))
    (hs : ∀ (i : Nat) (acc : List V) (D : Addr) (H' : Hp), i < n → H D = none → H' D = some (.lst acc) → Pv i acc H' → ∀ (N0 : Hp → Prop) (N1 : VK), (∀ H2, H2 D = some (.lst acc) → Pv (i + 1) acc H2 → N0 H2) →
      (∀ y H2, H2 D = some (.lst acc) → acc.length < sizeLine → Pv (i + 1) (acc ++ [y]) (upd H2 D (.lst (acc ++ [y]))) → N1 y H2) →
      g (.int (lo + i)) (wipe σ vs) H' fun σ2 H2 => wipe σ2 vs = wipe σ vs ∧ tt σ2 H2 fun b H3 => if b = true then te σ2 H3 N1 else N0 H3)
    (q : ∀ D acc H', H D = none → H' D = some (.lst acc) → Pv n acc H' → Q (.ref D) H') : LJ (Itr lo n) g tt te vs σ H Q := by
  intro D hD
  refine lc_range (lo := lo) (n := n) (fun i H' => ∃ acc, H' D = some (.lst acc) ∧ Pv i acc H') ⟨[], upd_same, h0 D hD⟩ ?_ ?_
  · rintro i H' hi ⟨acc, p1, p2⟩
    exact hs i acc D H' hi hD p1 p2 _ _ (fun H2 e h => ⟨acc, e, h⟩) fun y H2 e hl h => ⟨acc, e, hl, _, upd_same, h⟩
  · rintro H' ⟨acc, p1, p2⟩
    exact q D acc H' hD p1 p2
theorem lc_lI {a : Addr} {xs : List V} (Pv : Nat → List V → Hp → Prop) (h0 : ∀ D, H D = none → Pv 0 [] (upd H D (.lst []))) (hl : ∀ i acc H', i ≤ xs.length → Pv i acc H' → SqL K H' a xs)
    (hs : ∀ (i : Nat) (x : V) (acc : List V) (D : Addr) (H' : Hp), xs[i]? = some x → H D = none → H' D = some (.lst acc) → Pv i acc H' → ∀ (N0 : Hp → Prop) (N1 : VK), (∀ H2, H2 D = some (.lst acc) → Pv (i + 1) acc H2 → N0 H2) →
      (∀ y H2, H2 D = some (.lst acc) → acc.length < sizeLine → Pv (i + 1) (acc ++ [y]) (upd H2 D (.lst (acc ++ [y]))) → N1 y H2) →
      g x (wipe σ vs) H' fun σ2 H2 => wipe σ2 vs = wipe σ vs ∧ tt σ2 H2 fun b H3 => if b = true then te σ2 H3 N1 else N0 H3)
    (q : ∀ D acc H', H D = none → H' D = some (.lst acc) → Pv xs.length acc H' → Q (.ref D) H') : LJ (Itl K a) g tt te vs σ H Q := by
  intro D hD
  refine lc_list (K := K) (a := a) (xs := xs) (fun i H' => ∃ acc, H' D = some (.lst acc) ∧ Pv i acc H') ⟨[], upd_same, h0 D hD⟩ (fun i H' hi ⟨acc, _, p⟩ => hl i acc H' hi p) ?_ ?_
  · rintro i x H' hi ⟨acc, p1, p2⟩
    exact hs i x acc D H' hi hD p1 p2 _ _ (fun H2 e h => ⟨acc, e, h⟩) fun y H2 e hl h => ⟨acc, e, hl, _, upd_same, h⟩
  · rintro H' ⟨acc, p1, p2⟩
    exact q D acc H' hD p1 p2
end
/-- range(i, j, c) upwards -/
theorem RgC.up {i j c : Int} (ha : -(2 ^ 62) ≤ i) (ha' : i < 2 ^ 62) (hb : -(2 ^ 62) ≤ j) (hb' : j < 2 ^ 62) (hc : 0 < c) (hc' : c < 1073741824) : RgC i j c (if i < j then ((j - i - 1) / c + 1).toNat else 0) := by
  have hd : i < j → 0 ≤ (j - i - 1) / c ∧ (j - i - 1) / c ≤ j - i - 1 := fun h => ⟨Int.ediv_nonneg (by omega) (by omega), Int.ediv_le_self _ (by omega)⟩
  refine ⟨by omega, by omega, ?_, ?_⟩
  · unfold Builtin.Range.small
    simp only [Builtin.Range.rangeFitsLong, Bool.and_eq_true, Bool.or_eq_true, decide_eq_true_eq, beq_iff_eq, Builtin.Range.rangeSize, show c > 0 from hc, if_true]
    split
    · rename_i h
      obtain ⟨h1, h2⟩ := hd h
      generalize (j - i - 1) / c = z at h1 h2 ⊢
      omega
    · omega
  · simp only [Builtin.Range.rangeSize, show c > 0 from hc, if_true]
    split
    · rename_i h
      obtain ⟨h1, h2⟩ := hd h
      omega
    · rfl
/-! ### sizes -/
theorem cmulN {a b : Nat} (h : a.log2 + b.log2 < 1000000) : CMulW (a : Int) (b : Int) := h
end Pn
namespace Pn
/-! ### powers -/
theorem tk_odd {f b e X B : Nat} (h : f * b ^ e = X) (hX : X ≤ B) (he : 1 ≤ e) : f * b ≤ B := by
  rcases Nat.eq_zero_or_pos b with rfl | hb
  · omega
  · have : b ≤ b ^ e := Nat.le_self_pow (by omega) b
    calc f * b ≤ f * b ^ e := Nat.mul_le_mul_left f this
      _ ≤ B := by omega
theorem tk_sq {f b e X B : Nat} (h : f * b ^ e = X) (hX : X ≤ B) (he : 2 ≤ e) (hf : f = 0 → b = 0) : b * b ≤ B := by
  rcases Nat.eq_zero_or_pos b with rfl | hb
  · omega
  · have h1 : b ^ 2 ≤ b ^ e := Nat.pow_le_pow_right hb he
    have hf1 : 1 ≤ f := by omega
    have h2 : 1 * b ^ e ≤ f * b ^ e := Nat.mul_le_mul_right _ hf1
    have h3 : b * b = b ^ 2 := by rw [Nat.pow_two]
    omega
theorem tk_step1 {f b e X : Nat} (h : f * b ^ e = X) (he : e % 2 = 1) : f * b * (b * b) ^ (e / 2) = X := by
  have e1 : e = 2 * (e / 2) + 1 := by omega
  have e2 : b ^ e = b * (b * b) ^ (e / 2) := by
    conv => lhs; rw [e1]
    rw [Nat.pow_succ, Nat.pow_mul, Nat.pow_two, Nat.mul_comm]
  rw [Nat.mul_assoc, ← e2, h]
theorem tk_step0 {f b e X : Nat} (h : f * b ^ e = X) (he : e % 2 = 0) : f * (b * b) ^ (e / 2) = X := by
  have e1 : e = 2 * (e / 2) := by omega
  have e2 : b ^ e = (b * b) ^ (e / 2) := by
    conv => lhs; rw [e1]
    rw [Nat.pow_mul, Nat.pow_two]
  rw [← e2, h]
theorem log2_le_of_le {x n : Nat} (h : x ≤ 2 ^ n) : x.log2 ≤ n := by
  rcases Nat.eq_zero_or_pos x with rfl | hx
  · simp
  · have : x.log2 < n + 1 := (Nat.log2_lt (by omega)).mpr (by rw [Nat.pow_succ]; omega)
    omega
theorem shl_one (j : Nat) : (1 : Int) * 2 ^ ((j : Int)).toNat = ((2 ^ j : Nat) : Int) := by
  rw [Int.toNat_natCast, Int.one_mul, Int.natCast_pow]
  rfl
/-! ### roots by halving -/
theorem root_unique {n e r s : Nat} (he : 1 ≤ e) (h1 : r ^ e ≤ n) (h2 : n < (r + 1) ^ e) (h3 : s ^ e ≤ n) (h4 : n < (s + 1) ^ e) : r = s := by
  have a : r < s + 1 := (Nat.pow_lt_pow_iff_left (by omega : e ≠ 0)).mp (Nat.lt_of_le_of_lt h1 h4)
  have b : s < r + 1 := (Nat.pow_lt_pow_iff_left (by omega : e ≠ 0)).mp (Nat.lt_of_le_of_lt h3 h2)
  omega
end Pn
namespace Pn
/-! ### the root of a number by an exponent; all ways in which it is a power -/
def rootD (n e : Nat) : Nat → Nat
  | 0 => 0
  | k + 1 => if (k + 1) ^ e ≤ n then k + 1 else rootD n e k
theorem rootD_spec (n e : Nat) (he : 1 ≤ e) : ∀ k, rootD n e k ≤ k ∧ (rootD n e k) ^ e ≤ n ∧ ∀ j, rootD n e k < j → j ≤ k → n < j ^ e
  | 0 => ⟨Nat.le_refl _, by rw [rootD, Nat.zero_pow (by omega)]; omega, fun j h1 h2 => by omega⟩
  | k + 1 => by
    obtain ⟨h1, h2, h3⟩ := rootD_spec n e he k
    rw [rootD]
    split
    · rename_i h
      exact ⟨Nat.le_refl _, h, fun j a b => by omega⟩
    · rename_i h
      refine ⟨by omega, h2, fun j a b => ?_⟩
      rcases Nat.lt_or_ge j (k + 1) with c | c
      · exact h3 j a (by omega)
      · have : j = k + 1 := by omega
        subst this
        omega
def rootN (n e : Nat) : Nat := rootD n e n
theorem rootN_le {n e : Nat} (he : 1 ≤ e) : (rootN n e) ^ e ≤ n := (rootD_spec n e he n).2.1
theorem rootN_lt {n e : Nat} (he : 1 ≤ e) : n < (rootN n e + 1) ^ e := by
  obtain ⟨h1, h2, h3⟩ := rootD_spec n e he n
  unfold rootN
  rcases Nat.lt_or_ge (rootD n e n) n with c | c
  · exact h3 _ (by omega) (by omega)
  · have : rootD n e n = n := by omega
    rw [this]
    exact Nat.lt_of_lt_of_le (Nat.lt_succ_self n) (Nat.le_self_pow (by omega) _)
theorem rootN_is {n e r : Nat} (he : 1 ≤ e) (h1 : r ^ e ≤ n) (h2 : n < (r + 1) ^ e) : r = rootN n e := root_unique he h1 h2 (rootN_le he) (rootN_lt he)
theorem rootN_ge {n e b : Nat} (he : 1 ≤ e) (h : b ^ e ≤ n) : b ≤ rootN n e := by
  have : b < rootN n e + 1 := (Nat.pow_lt_pow_iff_left (by omega : e ≠ 0)).mp (Nat.lt_of_le_of_lt h (rootN_lt he))
  omega
theorem rootN_pow {b e : Nat} (he : 1 ≤ e) : rootN (b ^ e) e = b := (rootN_is he (Nat.le_refl _) (Nat.pow_lt_pow_left (Nat.lt_succ_self b) (by omega))).symm
theorem rootN_gt1 {n e : Nat} (he : 1 ≤ e) : 1 < rootN n e ↔ 2 ^ e ≤ n := by
  constructor
  · intro h
    exact Nat.le_trans (Nat.pow_le_pow_left h e) (rootN_le he)
  · intro h
    exact rootN_ge he h
def wayAt (n e : Nat) : Option (Nat × Nat) := if (rootN n e) ^ e = n then some (rootN n e, e) else none
/-- the ways by exponents 2, .., k + 1 -/
def waysTo (n k : Nat) : List (Nat × Nat) := (List.range k).filterMap fun i => wayAt n (i + 2)
theorem waysTo_succ (n k : Nat) : waysTo n (k + 1) = waysTo n k ++ (wayAt n (k + 2)).toList := by
  unfold waysTo
  rw [List.range_succ, List.filterMap_append]
  cases e : wayAt n (k + 2) <;> simp [e]
def waysN (n : Nat) : List (Nat × Nat) := if n = 0 then [] else if n = 1 then [(1, 2)] else waysTo n (n.log2 - 1)
def greatestN (n : Nat) : Nat × Nat := (waysN n).getLast?.getD (n, 1)
theorem last_filt {α : Type} {f : Nat → Option α} {v : α} {i : Nat} (hi : f i = some v) : ∀ k, i < k → (∀ j, i < j → j < k → f j = none) → ((List.range k).filterMap f).getLast? = some v
  | 0, h, _ => by omega
  | k + 1, h, hn => by
    rw [List.range_succ, List.filterMap_append]
    rcases Nat.lt_or_ge i k with c | c
    · have : f k = none := hn k c (Nat.lt_succ_self k)
      simp only [List.filterMap_cons, List.filterMap_nil, this, List.append_nil]
      exact last_filt hi k c fun j a b => hn j a (by omega)
    · have : i = k := by omega
      subst this
      simp [hi]
theorem none_filt {α : Type} {f : Nat → Option α} : ∀ k, (∀ j, j < k → f j = none) → (List.range k).filterMap f = []
  | 0, _ => rfl
  | k + 1, h => by
    rw [List.range_succ, List.filterMap_append, none_filt k fun j a => h j (by omega)]
    simp [h k (Nat.lt_succ_self k)]
theorem two_pow_le_iff {n e : Nat} (hn : n ≠ 0) : 2 ^ e ≤ n ↔ e ≤ n.log2 := by
  rw [Nat.le_log2 hn]
theorem greatest_of {n e : Nat} (hn : 2 ≤ n) (he : 2 ≤ e) (h1 : 2 ^ e ≤ n) (h2 : (rootN n e) ^ e = n) (h3 : ∀ e', e < e' → 2 ^ e' ≤ n → (rootN n e') ^ e' ≠ n) : greatestN n = (rootN n e, e) := by
  have hl : e ≤ n.log2 := (two_pow_le_iff (by omega)).mp h1
  unfold greatestN waysN
  rw [if_neg (by omega), if_neg (by omega)]
  unfold waysTo
  have hf : wayAt n (e - 2 + 2) = some (rootN n e, e) := by
    rw [show e - 2 + 2 = e by omega]
    unfold wayAt
    rw [if_pos h2]
  rw [last_filt (f := fun i => wayAt n (i + 2)) (i := e - 2) hf (n.log2 - 1) (by omega) fun j a b => ?_]
  · rfl
  · show wayAt n (j + 2) = none
    unfold wayAt
    rw [if_neg (h3 _ (by omega) ((two_pow_le_iff (by omega)).mpr (by omega)))]
theorem greatest_none {n : Nat} (hn : 2 ≤ n) (h : ∀ e, 2 ≤ e → 2 ^ e ≤ n → (rootN n e) ^ e ≠ n) : greatestN n = (n, 1) := by
  unfold greatestN waysN
  rw [if_neg (by omega), if_neg (by omega)]
  unfold waysTo
  rw [none_filt]
  · rfl
  · intro j hj
    show wayAt n (j + 2) = none
    unfold wayAt
    rw [if_neg (h _ (by omega) ((two_pow_le_iff (by omega)).mpr (by omega)))]
def zz (p : Nat × Nat) : Int × Int := ((p.1 : Int), (p.2 : Int))
/-! ### a power factor by factor, stopped beyond the number -/
theorem more_end {n x e j : Nat} (hx : 1 ≤ x) (hj : j ≤ e) (h : j = e ∨ n < x ^ j) : (x ^ j ≤ n ↔ x ^ e ≤ n) := by
  rcases h with rfl | h
  · exact Iff.rfl
  · have : x ^ j ≤ x ^ e := Nat.pow_le_pow_right hx hj
    constructor <;> omega
end Pn
namespace Pn
open PySem PySem.Spec PyProof.Rows L2
/-- a deck at a: the cells at l, how many are begun, what is left of one, how many were mixed (at most n), the sum -/
def Dk (H : Hp) (a l : Addr) (n : Nat) : Prop := ∃ (ns : List Int) (i x c s : Int), H a = some (.lst [.ref l, .int i, .int x, .int c, .int s]) ∧ l ≠ a ∧ H l = some (.lst (ns.map V.int)) ∧ ns.length ≤ 63 ∧ 0 ≤ i ∧ i ≤ ns.length ∧ 0 ≤ x ∧ 0 ≤ c ∧ c ≤ n
theorem Dk.mono {H : Hp} {a l : Addr} {n m : Nat} (h : Dk H a l n) (le : n ≤ m) : Dk H a l m := by
  obtain ⟨ns, i, x, c, s, h1, h2, h3, h4, h5, h6, h7, h8, h9⟩ := h
  exact ⟨ns, i, x, c, s, h1, h2, h3, h4, h5, h6, h7, h8, by omega⟩
/-- it stands where nothing of what was tracked changed -/
theorem Dk.same {H H' : Hp} {a l : Addr} {n : Nat} (h : Dk H a l n) (e : Same H H') : Dk H' a l n := by
  obtain ⟨ns, i, x, c, s, h1, h2, h3, h⟩ := h
  exact ⟨ns, i, x, c, s, e _ _ h1, h2, e _ _ h3, h⟩
theorem Dk.lst {H : Hp} {a l : Addr} {n : Nat} (h : Dk H a l n) : ∃ ys, H a = some (.lst ys) := by
  obtain ⟨ns, i, x, c, s, h1, _⟩ := h
  exact ⟨_, h1⟩
theorem Dk.ne {H : Hp} {a l p : Addr} {n : Nat} (h : Dk H a l n) (hp : H p = none) : p ≠ a := by
  obtain ⟨_, h1⟩ := h.lst
  exact (ne_of_none h1 hp).symm
theorem Dk.neL {H : Hp} {a l p : Addr} {n : Nat} (h : Dk H a l n) (hp : H p = none) : p ≠ l := by
  obtain ⟨ns, i, x, c, s, h1, h2, h3, h⟩ := h
  exact (ne_of_none h3 hp).symm
/-- where something apart from the deck and its cells is changed -/
theorem Dk.upd {H : Hp} {a l p : Addr} {n : Nat} {o : HO} (h : Dk H a l n) (n1 : p ≠ a) (n2 : p ≠ l) : Dk (upd H p o) a l n := by
  obtain ⟨ns, i, x, c, s, h1, h2, h3, h⟩ := h
  exact ⟨ns, i, x, c, s, (upd_ne n1.symm).trans h1, h2, (upd_ne n2.symm).trans h3, h⟩
end Pn
namespace Pn
open PySem PySem.Spec PyProof.Rows L2
local macro_rules | `(tactic| walk_at "w") => `(tactic| try simp only [w_var, w_c, w_op, w_I0, w_I, w_un, w_U, w_eq, w_ne, w_test, w_B, w_and, w_or, w_not, w_andV, w_orV, w_notV, w_ife, w_nil, w_cons, w_fn, w_cb, w_tup, w_lst, w_seq, w_next, w_brk, w_ct, w_drop, w_ret, w_retN, w_ifS, w_asgN, w_asgT, w_asgS, w_gName, w_gNil, w_gCons, w_par, w_aug, w_ipI, w_sl, w_np, w_part, w_bm, w_bm0, w_cxK, w_forL, w_forT, w_for1, w_for2, w_for3, w_lc3, w_lcL, w_lcT, w_lc1, w_lc2, w_yes, w_tru, wipe, scal,
   L2.start, List.map_cons, List.map_nil, List.length_cons, List.length_nil, List.replicate, List.cons_append, List.nil_append, Nat.reduceAdd, Nat.reduceSub, Nat.zero_add,
   List.getElem?_cons_zero, List.getElem?_cons_succ, List.set_cons_zero, List.set_cons_succ, Option.some.injEq, V.int.injEq, V.bl.injEq, V.ref.injEq, V.str.injEq, exists_eq_left, exists_eq_left', exists_and_left, exists_and_right, exists_eq', exists_eq, and_assoc, and_true, true_and, decide_eq_true_eq, Bool.not_eq_true', decide_eq_false_iff_not, List.cons.injEq, if_true, if_false, Bool.true_eq_false, Bool.false_eq_true, ite_true, ite_false, reduceIte])
local macro_rules | `(tactic| walk_at "lk") => `(tactic| first | assumption | exact upd_same | exact Eq.trans (upd_ne (by walk_at "ne")) (by walk_at "lk"))
local macro_rules | `(tactic| walk_at "ne") => `(tactic| first | assumption | exact Ne.symm (by assumption) | exact ne_fresh (by assumption) (by walk_at "lk") | exact Ne.symm (ne_fresh (by assumption) (by walk_at "lk")))
local macro_rules | `(tactic| walk_at "sq") => `(tactic| first | assumption | exact SqL.of (by walk_at "lk"))
local macro_rules | `(tactic| walk_at "ix") => `(tactic| (refine r_ixL (by walk_at "sq") (by rfl) ?_; walk_at "w"))
local macro_rules | `(tactic| walk_at "st") => `(tactic| (refine r_setL (by walk_at "lk") (by rfl) ?_; walk_at "w"))
def top (i : Nat) : Stmt := PySem.Challenge.pw_powernumbers_k06_greatest_ways.main.body.getD i (.Pass ⟨0, 0, 0, 0⟩)
structure Bt (mg : PySem.Str → Option Value) : Prop where
  range : mg "range" = none
  len : mg "len" = none
  sum : mg "sum" = none
  min : mg "min" = none
  max : mg "max" = none
  abs : mg "abs" = none
  sorted : mg "sorted" = none
  isinstance : mg "isinstance" = none
  enumerate : mg "enumerate" = none
  zip : mg "zip" = none
  int : mg "int" = none
  bool : mg "bool" = none
  str : mg "str" = none
  list : mg "list" = none
  tuple : mg "tuple" = none
  dict : mg "dict" = none
  set : mg "set" = none
abbrev s_taken : Stmt := top 1
theorem sc_taken : FnScope ["base", "exponent", "found"] ["base", "exponent"] (defScope s_taken) := ⟨rfl, rfl, rfl, by decide +kernel, rfl, by decide +kernel, by decide +kernel⟩
def sp_taken (K : PySem.W.Frag) : Sp := fun vs H Q _ => ∃ (b e a : Nat), vs = [.int (b : Int), .int (e : Int)] ∧ (b < 2 ^ a ∨ e = 0) ∧ a * e ≤ 300000 ∧ Q (.int ((b ^ e : Nat) : Int)) H
section
variable {P : Program} {w : World} {K : PySem.W.Frag} {mg : PySem.Str → Option Value} {base : Heap}
theorem bi_taken {f : Addr} {fd : FuncData} (F : Fun K "taken" "taken" s_taken f fd) : Binds K fd ["base", "exponent"] [] := F.binds (ps := ["base", "exponent"]) fun _ _ _ _ _ _ us hl => match us, hl with | [_, _], _ => rfl
set_option maxHeartbeats 4000000 in
theorem ok_taken {f : Addr} {fd : FuncData} (F : Fun K "taken" "taken" s_taken f fd) (B : Bt mg)  : FnOk P w K mg base CX0 1 f fd ["base", "exponent"] (sp_taken K) := by
  refine F.ok sc_taken (fun vs H Q E h => ?_) (fun cdv A outer s H vs Q E hr h => ?_)
  · obtain ⟨b, e, a, rfl, hb, ha, q⟩ := h
    rfl
  · obtain ⟨b, e, a, rfl, hb, ha, q⟩ := h
    refine ⟨_, (pss_cons (ps_set (i := 2) sc_taken.nd rfl (Or.inl rfl) pe_int)
      (pss_cons (ps_while PassesOwn.never (pt_cmpR op_gt (pv 1) pe_int (nomark _))
        (pss_cons (ps_if (pt_cmpR op_eq (pe_op op_mod (pv 1) pe_int) pe_int (nomark _))
          (pss_one (ps_set (i := 2) sc_taken.nd rfl (Or.inl rfl) (pe_op op_mulW (pv 2) (pv 0))))
          pss_nil)
        (pss_cons (ps_set (i := 0) sc_taken.nd rfl (Or.inl rfl) (pe_op op_mulW (pv 0) (pv 0)))
        (pss_one (ps_set (i := 1) sc_taken.nd rfl (Or.inl rfl) (pe_op op_fdiv (pv 1) pe_int))))))
      (pss_one (ps_ret (pv 2))))), ?_⟩
    walk_at "w"
    have hX : b ^ e ≤ 2 ^ (a * e) := by
      rcases hb with hb | rfl
      · rw [Nat.pow_mul]
        exact Nat.pow_le_pow_left (by omega) e
      · simp
    refine while_m (fun m σ H' => ∃ f b' e' : Nat, σ = [some (.int b'), some (.int e'), some (.int f)] ∧ H' = H ∧ e' = m ∧ f * b' ^ e' = b ^ e ∧ f ≤ 2 ^ (a * e) ∧ (0 < e' → b' ≤ 2 ^ (a * e)) ∧ (f = 0 → b' = 0)) e ?_ ?_
    · refine ⟨1, b, e, rfl, rfl, rfl, by simp, Nat.one_le_two_pow, fun he => ?_, by omega⟩
      exact Nat.le_trans (Nat.le_self_pow (by omega) b) hX
    · rintro m σ H' ⟨f, b', e', rfl, rfl, rfl, h1, h2, h3, h4⟩ G hG
      walk_at "w"
      refine ite2 (fun hc => hG _ _ fun N hN => ?_) (fun hc => ?_)
      · have he : 0 < e' := by omega
        have hl1 := log2_le_of_le h2
        have hl2 := log2_le_of_le (h3 he)
        walk_at "w"
        refine ⟨by decide, ite2 (fun ho => ?_) (fun ho => ?_)⟩
        · have ho' : e' % 2 = 1 := by omega
          refine ⟨cmulN (by omega), cmulN (by omega), by unfold CDiv; omega, hN (e' / 2) _ _ (by omega) ⟨f * b', b' * b', e' / 2, by simp, rfl, rfl, tk_step1 h1 ho', tk_odd h1 hX he, fun h0 => ?_, fun h0 => ?_⟩⟩
          · rcases Nat.eq_zero_or_pos f with hf | hf
            · simp [h4 hf]
            · exact tk_sq h1 hX (by omega) h4
          · rcases Nat.mul_eq_zero.mp h0 with hf | hf
            · simp [h4 hf]
            · simp [hf]
        · have ho' : e' % 2 = 0 := by omega
          refine ⟨cmulN (by omega), by unfold CDiv; omega, hN (e' / 2) _ _ (by omega) ⟨f, b' * b', e' / 2, by simp, rfl, rfl, tk_step0 h1 ho', h2, fun h0 => tk_sq h1 hX (by omega) h4, fun h0 => by simp [h4 h0]⟩⟩
      · have he : e' = 0 := by omega
        subst he
        rw [Nat.pow_zero, Nat.mul_one] at h1
        rw [h1]
        exact q
end
abbrev s_root_of : Stmt := top 2
theorem sc_root_of : FnScope ["number", "exponent", "low", "high", "between"] ["number", "exponent"] (defScope s_root_of) := ⟨rfl, rfl, rfl, by decide +kernel, rfl, by decide +kernel, by decide +kernel⟩
def sp_root_of (K : PySem.W.Frag) : Sp := fun vs H Q _ => ∃ (n e c : Nat), vs = [.int (n : Int), .int (e : Int)] ∧ 1 ≤ e ∧ n < 2 ^ c ∧ c + 2 * e ≤ 300000 ∧
  ∀ (r : Nat) (p : Addr), r ^ e ≤ n → n < (r + 1) ^ e → H p = none → Q (.ref p) (upd H p (.tup [.int (r : Int), .int ((n - r ^ e : Nat) : Int)]))
theorem rt_bits {j e n c : Nat} (h1 : (2 ^ j) ^ e ≤ n) (hn : n < 2 ^ c) : j * e < c := by
  rw [← Nat.pow_mul] at h1
  exact (Nat.pow_lt_pow_iff_right (by omega : 1 < 2)).mp (Nat.lt_of_le_of_lt h1 hn)
section
variable {P : Program} {w : World} {K : PySem.W.Frag} {mg : PySem.Str → Option Value} {base : Heap}
theorem bi_root_of {f : Addr} {fd : FuncData} (F : Fun K "root_of" "root_of" s_root_of f fd) : Binds K fd ["number", "exponent"] [] := F.binds (ps := ["number", "exponent"]) fun _ _ _ _ _ _ us hl => match us, hl with | [_, _], _ => rfl
set_option maxHeartbeats 4000000 in
theorem ok_root_of {f : Addr} {fd : FuncData} (F : Fun K "root_of" "root_of" s_root_of f fd) (B : Bt mg) (h_taken : Fn P w K mg base CX0 1 "taken" ["base", "exponent"] (sp_taken K)) : FnOk P w K mg base CX0 2 f fd ["number", "exponent"] (sp_root_of K) := by
  refine F.ok sc_root_of (fun vs H Q E h => ?_) (fun cdv A outer s H vs Q E hr h => ?_)
  · obtain ⟨n, e, c, rfl, he, hn, hc, q⟩ := h
    rfl
  · obtain ⟨n, e, c, rfl, he, hn, hc, q⟩ := h
    refine ⟨_, (pss_cons (ps_set (i := 2) sc_root_of.nd rfl (Or.inl rfl) pe_int)
      (pss_cons (ps_set (i := 3) sc_root_of.nd rfl (Or.inl rfl) pe_int)
      (pss_cons (ps_while PassesOwn.never (pt_cmpR op_le (pe_fn h_taken (hr.mono (by decide)) (by rfl) (pa_cons (pv 3) (pa_cons (pv 1) pa_nil))) (pv 0) (nomark _))
        (pss_one (ps_set (i := 3) sc_root_of.nd rfl (Or.inl rfl) (pe_op op_mul pe_int (pv 3)))))
      (pss_cons (ps_while PassesOwn.never (pt_cmpR op_gt (pe_op op_sub (pv 3) (pv 2)) pe_int (nomark _))
        (pss_cons (ps_set (i := 4) sc_root_of.nd rfl (Or.inl rfl) (pe_op op_fdiv (pe_op op_add (pv 2) (pv 3)) pe_int))
        (pss_one (ps_if (pt_cmpR op_le (pe_fn h_taken (hr.mono (by decide)) (by rfl) (pa_cons (pv 4) (pa_cons (pv 1) pa_nil))) (pv 0) (nomark _))
          (pss_one (ps_set (i := 2) sc_root_of.nd rfl (Or.inl rfl) (pv 4)))
          (pss_one (ps_set (i := 3) sc_root_of.nd rfl (Or.inl rfl) (pv 4)))))))
      (pss_one (ps_ret (pe_tup (pa_cons (pv 2) (pa_cons (pe_op op_sub (pv 0) (pe_fn h_taken (hr.mono (by decide)) (by rfl) (pa_cons (pv 2) (pa_cons (pv 1) pa_nil)))) pa_nil))))))))), ?_⟩
    walk_at "w"
    have key : ∀ j : Nat, (j = 0 ∨ (2 ^ (j - 1)) ^ e ≤ n) → (j + 1) * e ≤ c + 2 * e := by
      intro j hj
      rcases hj with rfl | hj
      · omega
      · rcases Nat.eq_zero_or_pos j with rfl | hp
        · omega
        · have := rt_bits hj hn
          have e1 : j + 1 = (j - 1) + 2 := by omega
          rw [e1, Nat.add_mul]
          omega
    refine while_m (fun m σ H' => ∃ j : Nat, σ = [some (.int n), some (.int e), some (.int 0), some (.int ((2 ^ j : Nat) : Int)), none] ∧ H' = H ∧ m = n + 1 - j ∧ j ≤ n + 1 ∧ (j = 0 ∨ (2 ^ (j - 1)) ^ e ≤ n)) (n + 1) ⟨0, by simp, rfl, rfl, by omega, .inl rfl⟩ ?_
    rintro m σ H' ⟨j, rfl, rfl, rfl, hjn, hj⟩ G hG
    walk_at "w"
    refine ⟨2 ^ j, e, j + 1, rfl, .inl (Nat.pow_lt_pow_right (by omega) (by omega)), by have := key j hj; omega, ?_⟩
    walk_at "w"
    refine ite2 (fun ht => hG _ _ fun N hN => ?_) (fun ht => ?_)
    · have ht' : (2 ^ j) ^ e ≤ n := by omega
      have hjlt : j ≤ n := by
        have h2 : 2 ^ j ≤ (2 ^ j) ^ e := Nat.le_self_pow (by omega) _
        have h3 : j < 2 ^ j := Nat.lt_two_pow_self
        omega
      walk_at "w"
      refine ⟨by unfold CMul; omega, hN (n + 1 - (j + 1)) _ _ (by omega) ⟨j + 1, ?_, rfl, rfl, by omega, .inr (by simpa using ht')⟩⟩
      simp [Nat.pow_succ, Nat.mul_comm]
    · have ht' : n < (2 ^ j) ^ e := by omega
      refine while_m (fun m σ H2 => ∃ (lo hi : Nat) (b : Option V), σ = [some (.int n), some (.int e), some (.int lo), some (.int hi), b] ∧ H2 = H' ∧ hi - lo = m ∧ lo < hi ∧ hi ≤ 2 ^ j ∧ lo ^ e ≤ n ∧ n < hi ^ e) (2 ^ j) ⟨0, 2 ^ j, none, rfl, rfl, Nat.sub_zero _, Nat.two_pow_pos j, Nat.le_refl _, by rw [Nat.zero_pow (by omega)]; omega, ht'⟩ ?_
      rintro m σ H2 ⟨lo, hi, b, rfl, rfl, rfl, hlt, hle, h1, h2⟩ G hG
      have key2 := key j hj
      walk_at "w"
      refine ite2 (fun hw => hG _ _ fun N hN => ?_) (fun hw => ?_)
      · have e1 : ((lo : Int) + hi) / 2 = (((lo + hi) / 2 : Nat) : Int) := by omega
        have hpow : 2 ^ j < 2 ^ (j + 1) := Nat.pow_lt_pow_right (by omega) (by omega)
        walk_at "w"
        refine ⟨by unfold CDiv; omega, (lo + hi) / 2, e, j + 1, by rw [e1], .inl (by omega), by omega, ?_⟩
        walk_at "w"
        refine ite2 (fun hs => hN (hi - (lo + hi) / 2) _ _ (by omega) ⟨(lo + hi) / 2, hi, _, by rw [e1], rfl, rfl, by omega, hle, by omega, h2⟩)
          (fun hs => hN ((lo + hi) / 2 - lo) _ _ (by omega) ⟨lo, (lo + hi) / 2, _, by rw [e1], rfl, rfl, by omega, by omega, h1, by omega⟩)
      · have e2 : hi = lo + 1 := by omega
        subst e2
        walk_at "w"
        have hpow : 2 ^ j < 2 ^ (j + 1) := Nat.pow_lt_pow_right (by omega) (by omega)
        refine ⟨lo, e, j + 1, rfl, .inl (by omega), by omega, ?_⟩
        walk_at "w"
        refine ⟨by show 2 ≤ sizeLine; decide, fun p hp => ?_⟩
        have e3 : (n : Int) - ((lo ^ e : Nat) : Int) = ((n - lo ^ e : Nat) : Int) := by omega
        rw [e3]
        exact q lo p h1 h2 hp
end
abbrev s_ways_of : Stmt := top 4
theorem sc_ways_of : FnScope ["number", "found", "exponent", "base", "left"] ["number"] (defScope s_ways_of) := ⟨rfl, rfl, rfl, by decide +kernel, rfl, by decide +kernel, by decide +kernel⟩
def sp_ways_of (K : PySem.W.Frag) : Sp := fun vs H Q _ => ∃ (n c : Nat), vs = [.int (n : Int)] ∧ n < 2 ^ c ∧ c ≤ 90000 ∧
  ∀ (p : Addr) (as : List Addr) (H' : Hp), H p = none → Same H H' → SqT K H' p (as.map V.ref) → PairsAt K H' as ((waysN n).map zz) → Q (.ref p) H'
section
variable {P : Program} {w : World} {K : PySem.W.Frag} {mg : PySem.Str → Option Value} {base : Heap}
theorem bi_ways_of {f : Addr} {fd : FuncData} (F : Fun K "ways_of" "ways_of" s_ways_of f fd) : Binds K fd ["number"] [] := F.binds (ps := ["number"]) fun _ _ _ _ _ _ us hl => match us, hl with | [_], _ => rfl
set_option maxHeartbeats 4000000 in
theorem ok_ways_of {f : Addr} {fd : FuncData} (F : Fun K "ways_of" "ways_of" s_ways_of f fd) (B : Bt mg) (h_root_of : Fn P w K mg base CX0 2 "root_of" ["number", "exponent"] (sp_root_of K)) : FnOk P w K mg base CX0 3 f fd ["number"] (sp_ways_of K) := by
  refine F.ok sc_ways_of (fun vs H Q E h => ?_) (fun cdv A outer s H vs Q E hr h => ?_)
  · obtain ⟨n, c, rfl, hn, hc, q⟩ := h
    rfl
  · obtain ⟨n, c, rfl, hn, hc, q⟩ := h
    refine ⟨_, (pss_cons (ps_if (pt_cmpR op_eq (pv 0) pe_int (nomark _))
        (pss_one (ps_ret (pe_tup pa_nil)))
        pss_nil)
      (pss_cons (ps_if (pt_cmpR op_eq (pv 0) pe_int (nomark _))
        (pss_one (ps_ret (pe_tup (pa_cons (pe_tup (pa_cons pe_int (pa_cons pe_int pa_nil))) pa_nil))))
        pss_nil)
      (pss_cons (ps_set (i := 1) sc_ways_of.nd rfl (Or.inl rfl) (pe_lst pa_nil))
      (pss_cons (ps_set (i := 2) sc_ways_of.nd rfl (Or.inl rfl) pe_int)
      (pss_cons (ps_asg (pe_fn h_root_of (hr.mono (by decide)) (by rfl) (pa_cons (pv 0) (pa_cons (pv 2) pa_nil))) (pg_tup rfl (pgs_cons (pg_name (i := 3) sc_ways_of.nd rfl (Or.inl rfl)) (pgs_cons (pg_name (i := 4) sc_ways_of.nd rfl (Or.inl rfl)) pgs_nil))))
      (pss_cons (ps_while PassesOwn.never (pt_cmpR op_gt (pv 3) pe_int (nomark _))
        (pss_cons (ps_if (pt_cmpR op_eq (pv 4) pe_int (nomark _))
          (pss_one (ps_expr (pe_bm PySem.F.plainAttrs_list PySem.F.slot_list_append PySem.F.type_list_append mt_append (pv 1) (pa_cons (pe_tup (pa_cons (pv 3) (pa_cons (pv 2) pa_nil))) pa_nil))))
          pss_nil)
        (pss_cons (ps_set (i := 2) sc_ways_of.nd rfl (Or.inl rfl) (pe_op op_add (pv 2) pe_int))
        (pss_one (ps_asg (pe_fn h_root_of (hr.mono (by decide)) (by rfl) (pa_cons (pv 0) (pa_cons (pv 2) pa_nil))) (pg_tup rfl (pgs_cons (pg_name (i := 3) sc_ways_of.nd rfl (Or.inl rfl)) (pgs_cons (pg_name (i := 4) sc_ways_of.nd rfl (Or.inl rfl)) pgs_nil))))))))
      (pss_one (ps_ret (pe_callTy (k_tuple K) (by rfl) B.tuple (by decide +kernel) (pa_cons (pv 1) pa_nil)))))))))), ?_⟩
    walk_at "w"
    refine ite2 (fun h0 => ?_) (fun h0 => ?_)
    · have h0 : n = 0 := by omega
      subst h0
      refine ⟨Nat.zero_le _, fun p hp => q p [] _ hp (same_new hp) (SqT.of upd_same) PairsAt.nil⟩
    · refine ite2 (fun h1 => ?_) (fun h1 => ?_)
      · have h1 : n = 1 := by omega
        subst h1
        refine ⟨by show 2 ≤ sizeLine; decide, fun t ht => ⟨by show 1 ≤ sizeLine; decide, fun p hp => ?_⟩⟩
        refine q p [t] _ (upd_free hp) (sm_new (same_new ht) (upd_free hp)) (SqT.of upd_same) ⟨rfl, fun i a w ha hw => ?_⟩
        have hi : i = 0 := by
          have := (List.getElem?_eq_some_iff.mp ha).1
          simp at this
          omega
        subst hi
        simp [waysN] at ha hw
        subst ha hw
        exact SqT.of ((upd_ne (ne_of_none upd_same hp)).trans upd_same)
      · have hn2 : 2 ≤ n := by omega
        have hcc : ∀ k, 2 ^ (1 + k) ≤ n → 1 + k < c := fun k hk => (Nat.pow_lt_pow_iff_right (by omega : 1 < 2)).mp (Nat.lt_of_le_of_lt hk hn)
        refine ⟨Nat.zero_le _, fun l hl => ?_⟩
        refine ⟨n, 2, c, rfl, by omega, hn, by omega, fun r t h1 h2 ht => ?_⟩
        have er := rootN_is (by omega) h1 h2
        subst er
        walk_at "w"
        refine ⟨_, SqT.of upd_same, rfl, ?_⟩
        walk_at "w"
        have nlt : l ≠ t := ne_of_none upd_same ht
        refine while_m (fun m σ H' => ∃ (k : Nat) (as : List Addr), σ = [some (.int n), some (.ref l), some (.int ((2 + k : Nat) : Int)), some (.int (rootN n (2 + k))), some (.int ((n - rootN n (2 + k) ^ (2 + k) : Nat) : Int))] ∧ n + 1 - k = m ∧ k ≤ n ∧ Same H H' ∧ H' l = some (.lst (as.map V.ref)) ∧ PairsAt K H' as ((waysTo n k).map zz) ∧ as.length ≤ k ∧ (k = 0 ∨ 2 ^ (1 + k) ≤ n)) (n + 1)
          ⟨0, [], rfl, rfl, Nat.zero_le _, sm_new (same_new hl) (upd_free ht), (upd_ne nlt).trans upd_same, PairsAt.nil, Nat.le_refl _, .inl rfl⟩ ?_
        rintro m σ H2 ⟨k, as, rfl, rfl, hk, hs, hL, hP, hlen, hk0⟩ G hG
        have hkc : 1 + k < c ∨ k = 0 := by
          rcases hk0 with h | h
          · exact .inr h
          · exact .inl (hcc k h)
        walk_at "w"
        refine ite2 (fun ht => hG _ _ fun N hN => ?_) (fun ht => ?_)
        · have hb : 2 ^ (2 + k) ≤ n := (rootN_gt1 (by omega)).mp (by omega)
          have hkn : k < n := by
            have : 2 + k < 2 ^ (2 + k) := Nat.lt_two_pow_self
            omega
          have hkc2 : 2 + k < c := (Nat.pow_lt_pow_iff_right (by omega : 1 < 2)).mp (Nat.lt_of_le_of_lt hb hn)
          have step : ∀ (H3 : Hp) (as3 : List Addr), Same H H3 → H3 l = some (.lst (as3.map V.ref)) → PairsAt K H3 as3 ((waysTo n (k + 1)).map zz) → as3.length ≤ k + 1 →
              ∀ (u : Addr), H3 u = none → N [some (.int n), some (.ref l), some (.int ((2 + (k + 1) : Nat) : Int)), some (.int (rootN n (2 + (k + 1)))), some (.int ((n - rootN n (2 + (k + 1)) ^ (2 + (k + 1)) : Nat) : Int))] (upd H3 u (.tup [.int (rootN n (2 + (k + 1)) : Nat), .int ((n - rootN n (2 + (k + 1)) ^ (2 + (k + 1)) : Nat) : Int)])) :=
            fun H3 as3 s3 l3 p3 len3 u hu => hN (n + 1 - (k + 1)) _ _ (by omega) ⟨k + 1, as3, rfl, rfl, by omega, sm_new s3 (s3.free hu), (upd_ne (ne_of_none l3 hu)).trans l3, p3.same (same_new hu), len3, .inr (by rw [show 1 + (k + 1) = 2 + k by omega]; exact hb)⟩
          have e3 : ((2 + k : Nat) : Int) + 1 = ((2 + (k + 1) : Nat) : Int) := by omega
          walk_at "w"
          refine ite2 (fun hz => ?_) (fun hz => ?_)
          · have hw : wayAt n (k + 2) = some (rootN n (2 + k), 2 + k) := by
              unfold wayAt
              rw [show k + 2 = 2 + k by omega, if_pos]
              have := rootN_le (n := n) (e := 2 + k) (by omega)
              omega
            refine ⟨ty_list (SqL.of hL), by show 2 ≤ sizeLine; decide, fun u hu => ?_⟩
            have nlu : l ≠ u := ne_of_none hL hu
            refine r_app ((upd_ne nlu).trans hL) (by rw [List.length_map]; exact Nat.lt_of_le_of_lt (show as.length ≤ 90000 by omega) (by decide)) ?_
            rw [e3]
            refine ⟨n, 2 + (k + 1), c, rfl, by omega, hn, by omega, fun r v h1 h2 hv => ?_⟩
            have er := rootN_is (by omega) h1 h2
            subst er
            walk_at "w"
            refine ⟨_, SqT.of upd_same, rfl, ?_⟩
            walk_at "w"
            have hmap : as.map V.ref ++ [V.ref u] = (as ++ [u]).map V.ref := by simp
            refine step _ (as ++ [u]) ?_ (by rw [upd_same, hmap]) ?_ (by simp; omega) v hv
            · intro b o hb'
              have nbl : b ≠ l := ne_of_none hb' hl
              have nbu : b ≠ u := ne_of_none (hs _ _ hb') hu
              rw [upd_ne nbl, upd_ne nbu]
              exact hs _ _ hb'
            · rw [waysTo_succ, hw]
              simp only [Option.toList, List.map_append, List.map_cons, List.map_nil]
              refine PairsAt.snoc ⟨hP.1, fun i b w h1 h2 => ?_⟩ (SqT.of ?_)
              · have hb' := hP.2 i b w h1 h2
                have nb : ∀ o, H2 b = some o → (∀ xs, o ≠ .lst xs) → b ≠ l ∧ b ≠ u := fun o h h' => ⟨ne_of h hL (h' _), ne_of_none h hu⟩
                rcases hb' with (h | ⟨o, h⟩) | h
                · obtain ⟨n1, n2⟩ := nb _ h (fun _ z => by cases z)
                  exact SqT.of ((upd_ne n1).trans ((upd_ne n2).trans h))
                · obtain ⟨n1, n2⟩ := nb _ h (fun _ z => by cases z)
                  exact .inl (.inr ⟨o, (upd_ne n1).trans ((upd_ne n2).trans h)⟩)
                · exact .inr h
              · rw [upd_ne nlu.symm, upd_same]
                simp [zz]
          · have hw : wayAt n (k + 2) = none := by
              unfold wayAt
              rw [show k + 2 = 2 + k by omega, if_neg]
              have := rootN_le (n := n) (e := 2 + k) (by omega)
              omega
            rw [e3]
            refine ⟨n, 2 + (k + 1), c, rfl, by omega, hn, by omega, fun r v h1 h2 hv => ?_⟩
            have er := rootN_is (by omega) h1 h2
            subst er
            walk_at "w"
            refine ⟨_, SqT.of upd_same, rfl, ?_⟩
            walk_at "w"
            refine step _ as hs hL ?_ (by omega) v hv
            rw [waysTo_succ, hw]
            simpa using hP
        · have hb : ¬ 2 ^ (2 + k) ≤ n := fun h => ht (by have := (rootN_gt1 (n := n) (e := 2 + k) (by omega)).mpr h; omega)
          have hk1 : k = n.log2 - 1 := by
            have h1 : ¬ 2 + k ≤ n.log2 := fun h => hb ((two_pow_le_iff (by omega)).mpr h)
            have h2 : 1 ≤ n.log2 := (two_pow_le_iff (by omega)).mp (by omega)
            rcases hk0 with h | h
            · omega
            · have := (two_pow_le_iff (n := n) (by omega)).mp h
              omega
          refine r_tupL (SqL.of hL) fun p hp => ?_
          refine q p as _ (hs.free hp) (sm_new hs (hs.free hp)) (SqT.of upd_same) ?_
          have e : waysN n = waysTo n k := by
            unfold waysN
            rw [if_neg (by omega), if_neg (by omega), hk1]
          rw [e]
          exact hP.same (same_new hp)
end
abbrev s_greatest_way : Stmt := top 5
theorem sc_greatest_way : FnScope ["number"] ["number"] (defScope s_greatest_way) := ⟨rfl, rfl, rfl, by decide +kernel, rfl, by decide +kernel, by decide +kernel⟩
def sp_greatest_way (K : PySem.W.Frag) : Sp := fun vs H Q _ => ∃ (n c : Nat), vs = [.int (n : Int)] ∧ n < 2 ^ c ∧ c ≤ 90000 ∧
  ∀ (p : Addr) (H' : Hp), Same H H' → SqT K H' p [.int ((greatestN n).1 : Int), .int ((greatestN n).2 : Int)] → Q (.ref p) H'
theorem last_pair {K : PySem.W.Frag} {H : Hp} {as : List Addr} {ps : List (Nat × Nat)} (h : PairsAt K H as (ps.map zz)) (h0 : ps ≠ []) : ∃ a : Addr, as.getLast? = some a ∧ SqT K H a [.int ((ps.getLast?.getD (0, 0)).1 : Int), .int ((ps.getLast?.getD (0, 0)).2 : Int)] := by
  have hl : as.length = ps.length := by simpa using h.1
  have hp : 0 < ps.length := List.length_pos_iff.mpr h0
  have ha : as[as.length - 1]? = some (as[as.length - 1]'(by omega)) := List.getElem?_eq_getElem _
  refine ⟨_, by rw [List.getLast?_eq_getElem?]; exact ha, ?_⟩
  have := h.2 (as.length - 1) _ (zz (ps.getLast?.getD (0, 0))) ha ?_
  · exact this
  · rw [List.getElem?_map, hl, List.getLast?_eq_getElem?, List.getElem?_eq_getElem (by omega)]
    rfl
section
variable {P : Program} {w : World} {K : PySem.W.Frag} {mg : PySem.Str → Option Value} {base : Heap}
theorem bi_greatest_way {f : Addr} {fd : FuncData} (F : Fun K "greatest_way" "greatest_way" s_greatest_way f fd) : Binds K fd ["number"] [] := F.binds (ps := ["number"]) fun _ _ _ _ _ _ us hl => match us, hl with | [_], _ => rfl
set_option maxHeartbeats 4000000 in
theorem ok_greatest_way {f : Addr} {fd : FuncData} (F : Fun K "greatest_way" "greatest_way" s_greatest_way f fd) (B : Bt mg) (h_ways_of : Fn P w K mg base CX0 3 "ways_of" ["number"] (sp_ways_of K)) : FnOk P w K mg base CX0 4 f fd ["number"] (sp_greatest_way K) := by
  refine F.ok sc_greatest_way (fun vs H Q E h => ?_) (fun cdv A outer s H vs Q E hr h => ?_)
  · obtain ⟨n, c, rfl, hn, hc, q⟩ := h
    rfl
  · obtain ⟨n, c, rfl, hn, hc, q⟩ := h
    refine ⟨_, (pss_one (ps_ret (pe_ix (k_ixT K) (pe_op (k_catT K) (pe_tup (pa_cons (pe_tup (pa_cons (pv 0) (pa_cons pe_int pa_nil))) pa_nil)) (pe_fn h_ways_of (hr.mono (by decide)) (by rfl) (pa_cons (pv 0) pa_nil))) (pe_un un_neg pe_int) (fun _ _ => rfl)))), ?_⟩
    walk_at "w"
    refine ⟨by show 2 ≤ sizeLine; decide, fun t ht => ⟨by show 1 ≤ sizeLine; decide, fun u hu => ⟨n, c, rfl, hn, hc, fun p as H' hp hs hT hP => ?_⟩⟩⟩
    have hu' := hs _ _ (upd_same (H := upd H t (.tup [.int n, .int 1])) (a := u) (o := .tup [.ref t]))
    have s0 : Same H H' := (sm_new (same_new ht) (upd_free hu)).trans hs
    have ht' : H' t = some (.tup [.int n, .int 1]) := hs _ _ ((upd_ne (ne_of_none upd_same hu)).trans upd_same)
    have hlen : as.length ≤ 90000 := by
      have h1 : as.length = (waysN n).length := by simpa using hP.1
      have h2 : (waysN n).length ≤ 1 + n.log2 := by
        unfold waysN
        split
        · simp
        · split
          · simp
          · refine Nat.le_trans (List.length_filterMap_le _ _) ?_
            rw [List.length_range]
            omega
      have h3 : n ≠ 0 → n.log2 < c := fun h => (Nat.log2_lt h).mpr hn
      rcases Nat.eq_zero_or_pos n with rfl | h
      · have h0 : (waysN 0).length = 0 := rfl
        omega
      · have := h3 (by omega)
        omega
    walk_at "w"
    refine r_catA (SqT.of hu') hT ?_ (fun h => by cases h) (fun _ h => ?_) (fun _ h => ?_)
    · simp only [List.length_map, List.length_cons, List.length_nil]
      exact Nat.le_trans (show _ ≤ 100000 by omega) (by decide)
    · have h0 : as = [] := by simpa using h
      subst h0
      have hw : waysN n = [] := by
        have := hP.1
        simp at this
        exact List.eq_nil_of_length_eq_zero this.symm
      walk_at "w"
      refine r_ixT (v := .ref t) (SqT.of hu') rfl (q t _ s0 ?_)
      unfold greatestN
      rw [hw]
      exact SqT.of ht'
    · intro z hz
      have h0 : as ≠ [] := by
        intro e
        subst e
        exact h rfl
      have hw : waysN n ≠ [] := by
        intro e
        have := hP.1
        rw [e] at this
        simp at this
        exact h0 this
      obtain ⟨a, ha, hT2⟩ := last_pair hP hw
      have hcat : V.ref t :: as.map V.ref = ((V.ref t :: as.map V.ref).dropLast) ++ [.ref a] := by
        have hl : (as.map V.ref).getLast? = some (V.ref a) := by rw [List.getLast?_map, ha]; rfl
        have hl2 : (V.ref t :: as.map V.ref).getLast? = some (V.ref a) := by
          rw [List.getLast?_cons]
          rw [hl]
          rfl
        have hne : V.ref t :: as.map V.ref ≠ [] := by simp
        rw [List.getLast?_eq_some_getLast hne] at hl2
        have := List.dropLast_concat_getLast hne
        rw [Option.some.inj hl2] at this
        exact this.symm
      walk_at "w"
      refine r_ixT (v := .ref a) (SqT.of (upd_same)) (by rw [hcat]; exact atI_last _ _) (q a _ (sm_new s0 (s0.free hz)) ?_)
      have e : greatestN n = (waysN n).getLast?.getD (0, 0) := by
        unfold greatestN
        rw [List.getLast?_eq_some_getLast hw]
        rfl
      rw [e]
      exact same_seqT (same_new hz) hT2
end
abbrev s__law_mix : Stmt := top 7
theorem sc__law_mix : FnScope ["cell", "k", "number"] ["cell", "k"] (defScope s__law_mix) := ⟨rfl, rfl, rfl, by decide +kernel, rfl, by decide +kernel, by decide +kernel⟩
def sp__law_mix (K : PySem.W.Frag) : Sp := fun vs H Q _ => ∃ (c k : Int), vs = [.int c, .int k] ∧ 0 ≤ k ∧ k ≤ 2 ^ 40 ∧ ∀ r : Int, 0 ≤ r → Q (.int r) H
section
variable {P : Program} {w : World} {K : PySem.W.Frag} {mg : PySem.Str → Option Value} {base : Heap}
theorem bi__law_mix {f : Addr} {fd : FuncData} (F : Fun K "_law_mix" "_law_mix" s__law_mix f fd) : Binds K fd ["cell", "k"] [] := F.binds (ps := ["cell", "k"]) fun _ _ _ _ _ _ us hl => match us, hl with | [_, _], _ => rfl
set_option maxHeartbeats 4000000 in
theorem ok__law_mix {f : Addr} {fd : FuncData} (F : Fun K "_law_mix" "_law_mix" s__law_mix f fd) (B : Bt mg)  : FnOk P w K mg base CX0 1 f fd ["cell", "k"] (sp__law_mix K) := by
  refine F.ok sc__law_mix (fun vs H Q E h => ?_) (fun cdv A outer s H vs Q E hr h => ?_)
  · obtain ⟨c, k, rfl, h0, h1, q⟩ := h
    rfl
  · obtain ⟨c, k, rfl, h0, h1, q⟩ := h
    refine ⟨_, (pss_cons (ps_set (i := 2) sc__law_mix.nd rfl (Or.inl rfl) (pe_op op_add (pe_op op_mod (pv 0) pe_int) (pe_op op_mulW (pe_op op_mul pe_int (pv 1)) (pv 1))))
      (pss_cons (ps_set (i := 2) sc__law_mix.nd rfl (Or.inl rfl) (pe_op op_mod (pe_op op_add (pv 2) (pe_op op_mul pe_int (pv 1))) pe_int))
      (pss_cons (ps_set (i := 2) sc__law_mix.nd rfl (Or.inl rfl) (pe_op op_mod (pe_op op_mulW (pv 2) (pv 2)) pe_int))
      (pss_one (ps_ret (pe_op op_fdiv (pe_op op_mod (pe_op op_mulW (pv 2) (pe_op op_add (pv 2) pe_int)) pe_int) pe_int)))))), ?_⟩
    walk_at "w"
    refine ⟨by decide, by unfold CMul; omega, wide_mul (a := 64) (b := 64) (by omega) (by omega) (by decide) (by decide) (by decide), ?_⟩
    generalize 1000003 * k * k = z
    generalize hx : (c % 2147483629 + z + 7919 * k) % 2147483629 = x
    have hx1 : 0 ≤ x ∧ x < 2147483629 := by omega
    generalize hy : x * x % 2147483587 = y
    have hy1 : 0 ≤ y ∧ y < 2147483587 := by omega
    refine ⟨by unfold CMul; omega, by decide, wide_mul (a := 64) (b := 64) (by omega) (by omega) (by decide) (by decide) (by decide), by decide, wide_mul (a := 64) (b := 64) (by omega) (by omega) (by decide) (by decide) (by decide), by decide, by unfold CDiv; omega, q _ ?_⟩
    omega
end
abbrev s__law_deck : Stmt := top 8
theorem sc__law_deck : FnScope ["script"] ["script"] (defScope s__law_deck) := ⟨rfl, rfl, rfl, by decide +kernel, rfl, by decide +kernel, by decide +kernel⟩
def sp__law_deck (K : PySem.W.Frag) : Sp := fun vs H Q _ => ∃ (a : Addr) (ns : List Int), vs = [.ref a] ∧ SqL K H a (ns.map V.int) ∧ ∀ (p l : Addr) (H' : Hp), H p = none → Same H H' → Dk H' p l 0 → Q (.ref p) H'
section
variable {P : Program} {w : World} {K : PySem.W.Frag} {mg : PySem.Str → Option Value} {base : Heap}
theorem bi__law_deck {f : Addr} {fd : FuncData} (F : Fun K "_law_deck" "_law_deck" s__law_deck f fd) : Binds K fd ["script"] [] := F.binds (ps := ["script"]) fun _ _ _ _ _ _ us hl => match us, hl with | [_], _ => rfl
set_option maxHeartbeats 4000000 in
theorem ok__law_deck {f : Addr} {fd : FuncData} (F : Fun K "_law_deck" "_law_deck" s__law_deck f fd) (B : Bt mg)  : FnOk P w K mg base CX0 1 f fd ["script"] (sp__law_deck K) := by
  refine F.ok sc__law_deck (fun vs H Q E h => ?_) (fun cdv A outer s H vs Q E hr h => ?_)
  · obtain ⟨a, ns, rfl, hS, q⟩ := h
    rfl
  · obtain ⟨a, ns, rfl, hS, q⟩ := h
    refine ⟨_, (pss_one (ps_ret (pe_lst (pa_cons (pe_slice (k_slL K) (pv 0) po_none (po_some pe_int)) (pa_cons pe_int (pa_cons pe_int (pa_cons pe_int (pa_cons (pe_callB (k_sum K) (by rfl) B.sum (by decide +kernel) (pa_cons (pe_slice (k_slL K) (pv 0) po_none (po_some pe_int)) pa_nil)) pa_nil)))))))), ?_⟩
    walk_at "w"
    refine r_slL hS fun l hl => r_slL ((same_new hl).seq hS) fun l2 hl2 => ?_
    have e : cutV (ns.map V.int) none (some 63) = (ns.take 63).map V.int := by
      have := cut_to (ns.map V.int) 63
      rw [List.map_take]
      exact this
    rw [e] at hl2 ⊢
    refine r_sum (SqL.of (K := K) upd_same) ⟨by show 5 ≤ sizeLine; decide, fun p hp => ?_⟩
    have n1 := upd_free_ne hp
    have n2 := upd_free_ne (upd_free hp)
    refine q p l _ (upd_free (upd_free hp)) (sm_new (sm_new (same_new hl) (upd_free hl2)) (upd_free (upd_free hp))) ⟨ns.take 63, 0, 0, 0, _, upd_same, n2.symm, by walk_at "lk", by simp; omega, by omega, by omega, by omega, by omega, by omega⟩
end
abbrev s__law_next : Stmt := top 9
theorem sc__law_next : FnScope ["deck", "many", "cell", "found"] ["deck", "many"] (defScope s__law_next) := ⟨rfl, rfl, rfl, by decide +kernel, rfl, by decide +kernel, by decide +kernel⟩
def sp__law_next (K : PySem.W.Frag) : Sp := fun vs H Q _ => ∃ (a l : Addr) (n : Nat) (m : Int), vs = [.ref a, .int m] ∧ Dk H a l n ∧ n ≤ 2 ^ 39 ∧ 1 ≤ m ∧ m < 2 ^ 200 ∧ ∀ (r : Int) (H' : Hp), Kp a H H' → Dk H' a l (n + 1) → 0 ≤ r → r < m → Q (.int r) H'
theorem use_next {K : PySem.W.Frag} {a l : Addr} {n : Nat} {m : Int} {H H0 : Hp} {Q : VK} {E : XK} (k : Kp a H0 H) (d : Dk H a l n) (hn : n ≤ 2 ^ 39) (h1 : 1 ≤ m) (h2 : m < 2 ^ 200)
    (q : ∀ (r : Int) (H' : Hp), Kp a H H' → Kp a H0 H' → Dk H' a l (n + 1) → 0 ≤ r → r < m → Q (.int r) H') : sp__law_next K [.ref a, .int m] H Q E :=
  ⟨a, l, n, m, rfl, d, hn, h1, h2, fun r H' k' d' => q r H' k' (k.trans k') d'⟩
section
variable {P : Program} {w : World} {K : PySem.W.Frag} {mg : PySem.Str → Option Value} {base : Heap}
theorem bi__law_next {f : Addr} {fd : FuncData} (F : Fun K "_law_next" "_law_next" s__law_next f fd) : Binds K fd ["deck", "many"] [] := F.binds (ps := ["deck", "many"]) fun _ _ _ _ _ _ us hl => match us, hl with | [_, _], _ => rfl
set_option maxHeartbeats 4000000 in
theorem ok__law_next {f : Addr} {fd : FuncData} (F : Fun K "_law_next" "_law_next" s__law_next f fd) (B : Bt mg) (h__law_mix : Fn P w K mg base CX0 1 "_law_mix" ["cell", "k"] (sp__law_mix K)) : FnOk P w K mg base CX0 2 f fd ["deck", "many"] (sp__law_next K) := by
  refine F.ok sc__law_next (fun vs H Q E h => ?_) (fun cdv A outer s H vs Q E hr h => ?_)
  · obtain ⟨a, l, n, m, rfl, hD, hn, hm, hm2, q⟩ := h
    rfl
  · obtain ⟨a, l, n, m, rfl, hD, hn, hm, hm2, q⟩ := h
    refine ⟨_, (pss_cons (ps_if (PW.pt (pw_and (pt_cmpR op_eq (pe_ix (k_ixL K) (pv 0) pe_int (fun _ _ => rfl)) pe_int (nomark _)) (pw_and1 (pt_cmpR op_lt (pe_ix (k_ixL K) (pv 0) pe_int (fun _ _ => rfl)) (pe_callB (k_len K) (by rfl) B.len (by decide +kernel) (pa_cons (pe_ix (k_ixL K) (pv 0) pe_int (fun _ _ => rfl)) pa_nil)) (nomark _)))))
        (pss_cons (ps_set (i := 2) sc__law_next.nd rfl (Or.inl rfl) (pe_ix (k_ixL K) (pe_ix (k_ixL K) (pv 0) pe_int (fun _ _ => rfl)) (pe_ix (k_ixL K) (pv 0) pe_int (fun _ _ => rfl)) (fun _ _ => rfl)))
        (pss_cons (ps_asg (pe_op op_add (pe_ix (k_ixL K) (pv 0) pe_int (fun _ _ => rfl)) pe_int) (pg_sub (pv 0) pe_int set_list))
        (pss_cons (ps_if (pt_cmpR op_lt (pv 2) (pe_op op_pow pe_int pe_int) (nomark _))
          (pss_one (ps_ret (pe_op op_mod (pe_fn h__law_mix (hr.mono (by decide)) (by rfl) (pa_cons (pv 2) (pa_cons (pe_ix (k_ixL K) (pv 0) pe_int (fun _ _ => rfl)) pa_nil))) (pv 1))))
          pss_nil)
        (pss_one (ps_asg (pv 2) (pg_sub (pv 0) pe_int set_list))))))
        pss_nil)
      (pss_cons (ps_if (pt_cmpR op_gt (pe_ix (k_ixL K) (pv 0) pe_int (fun _ _ => rfl)) pe_int (nomark _))
        (pss_cons (ps_set (i := 3) sc__law_next.nd rfl (Or.inl rfl) (pe_op op_mod (pe_ix (k_ixL K) (pv 0) pe_int (fun _ _ => rfl)) (pv 1)))
        (pss_cons (ps_asg (pe_op op_fdivW (pe_ix (k_ixL K) (pv 0) pe_int (fun _ _ => rfl)) (pv 1)) (pg_sub (pv 0) pe_int set_list))
        (pss_one (ps_ret (pv 3)))))
        pss_nil)
      (pss_cons (ps_asg (pe_op op_add (pe_ix (k_ixL K) (pv 0) pe_int (fun _ _ => rfl)) pe_int) (pg_sub (pv 0) pe_int set_list))
      (pss_one (ps_ret (pe_op op_mod (pe_fn h__law_mix (hr.mono (by decide)) (by rfl) (pa_cons (pe_ix (k_ixL K) (pv 0) pe_int (fun _ _ => rfl)) (pa_cons (pe_op op_add (pe_ix (k_ixL K) (pv 0) pe_int (fun _ _ => rfl)) pe_int) pa_nil))) (pv 1))))))), ?_⟩
    obtain ⟨ns, i, x, c, s, h1, h2, h3, h4, h5, h6, h7, h8, h9⟩ := hD
    have h3' : ∀ (o : HO), upd H a o l = some (.lst (ns.map V.int)) := fun o => (upd_ne h2).trans h3
    have q' : ∀ (z : Int) (H' : Hp), Kp a H H' → Dk H' a l (n + 1) → Q (.int (z % m)) H' := fun z H' k d => q _ H' k d (Int.emod_nonneg _ (by omega)) (Int.emod_lt_of_pos _ (by omega))
    have q2 : ∀ (z i' x' c' : Int), 0 ≤ i' → i' ≤ ns.length → 0 ≤ x' → 0 ≤ c' → c' ≤ n + 1 → Q (.int (z % m)) (upd H a (.lst [.ref l, .int i', .int x', .int c', .int s])) := fun z i' x' c' a1 a2 a3 a4 a5 =>
      q' z _ (Kp.refl a H).upd ⟨ns, i', x', c', s, upd_same, h2, h3' _, h4, a1, a2, a3, a4, by omega⟩
    have hdv : ∀ z : Int, CDivW z m := fun z => wide_div (b := 200) (by omega) (by omega) (by decide) (by decide)
    have hp : CPow 10 18 := by unfold CPow; omega
    -- an old cell goes on, or all are mixed
    walk_at "w"
    walk_at "ix"
    refine ite2 (fun hx => ?_) (fun hx => ?_)
    · subst hx
      walk_at "ix"
      walk_at "ix"
      refine r_len (SqL.of h3) ?_
      walk_at "w"
      refine ite2 (fun hi => ?_) (fun hi => ?_)
      · rw [List.length_map] at hi
        walk_at "ix"
        walk_at "ix"
        obtain ⟨z, hz, hat⟩ := atI_ints h5 hi
        refine r_ixL (SqL.of h3) hat ?_
        walk_at "ix"
        walk_at "st"
        refine ⟨hp, ite2 (fun hc => ?_) (fun hc => ?_)⟩
        · walk_at "ix"
          refine ⟨z, i + 1, rfl, by omega, by omega, fun r hr0 => ?_⟩
          walk_at "w"
          exact ⟨by omega, q2 r _ _ _ (by omega) (by omega) (by omega) (by omega) (by omega)⟩
        · have hz0 : 0 ≤ z := by
            have e : (10 : Int) ^ Int.toNat 18 = 1000000000000000000 := rfl
            omega
          walk_at "st"
          rw [upd_upd]
          walk_at "ix"
          have e : (10 : Int) ^ Int.toNat 18 = 1000000000000000000 := rfl
          rw [if_pos (by omega)]
          walk_at "ix"
          refine ⟨by omega, ?_⟩
          walk_at "ix"
          refine ⟨hdv _, ?_⟩
          walk_at "st"
          rw [upd_upd]
          exact q2 z _ _ _ (by omega) (by omega) (Int.ediv_nonneg hz0 (by omega)) (by omega) (by omega)
      · walk_at "ix"
        rw [if_neg (by omega)]
        walk_at "ix"
        walk_at "st"
        walk_at "ix"
        walk_at "ix"
        refine ⟨s, _, rfl, by omega, by omega, fun r hr0 => ?_⟩
        walk_at "w"
        exact ⟨by omega, q2 r _ _ _ (by omega) (by omega) (by omega) (by omega) (by omega)⟩
    · walk_at "ix"
      rw [if_pos (by omega)]
      walk_at "ix"
      refine ⟨by omega, ?_⟩
      walk_at "ix"
      refine ⟨hdv _, ?_⟩
      walk_at "st"
      exact q2 x _ _ _ (by omega) (by omega) (Int.ediv_nonneg h7 (by omega)) (by omega) (by omega)
end
abbrev s__law_great : Stmt := top 10
theorem sc__law_great : FnScope ["deck", "most", "found", "k"] ["deck", "most"] (defScope s__law_great) := ⟨rfl, rfl, rfl, by decide +kernel, rfl, by decide +kernel, by decide +kernel⟩
def sp__law_great (K : PySem.W.Frag) : Sp := fun vs H Q _ => ∃ (a l : Addr) (n : Nat) (m : Int), vs = [.ref a, .int m] ∧ Dk H a l n ∧ n ≤ 2 ^ 38 ∧ 1 ≤ m ∧ ∀ (r : Int) (H' : Hp), Kp a H H' → Dk H' a l (n + 8) → 0 ≤ r → r < m → Q (.int r) H'
theorem use_great {K : PySem.W.Frag} {a l : Addr} {n : Nat} {m : Int} {H H0 : Hp} {Q : VK} {E : XK} (k : Kp a H0 H) (d : Dk H a l n) (hn : n ≤ 2 ^ 38) (h1 : 1 ≤ m)
    (q : ∀ (r : Int) (H' : Hp), Kp a H H' → Kp a H0 H' → Dk H' a l (n + 8) → 0 ≤ r → r < m → Q (.int r) H') : sp__law_great K [.ref a, .int m] H Q E :=
  ⟨a, l, n, m, rfl, d, hn, h1, fun r H' k' d' => q r H' k' (k.trans k') d'⟩
section
variable {P : Program} {w : World} {K : PySem.W.Frag} {mg : PySem.Str → Option Value} {base : Heap}
theorem bi__law_great {f : Addr} {fd : FuncData} (F : Fun K "_law_great" "_law_great" s__law_great f fd) : Binds K fd ["deck", "most"] [] := F.binds (ps := ["deck", "most"]) fun _ _ _ _ _ _ us hl => match us, hl with | [_, _], _ => rfl
set_option maxHeartbeats 4000000 in
theorem ok__law_great {f : Addr} {fd : FuncData} (F : Fun K "_law_great" "_law_great" s__law_great f fd) (B : Bt mg) (h__law_next : Fn P w K mg base CX0 2 "_law_next" ["deck", "many"] (sp__law_next K)) : FnOk P w K mg base CX0 3 f fd ["deck", "most"] (sp__law_great K) := by
  refine F.ok sc__law_great (fun vs H Q E h => ?_) (fun cdv A outer s H vs Q E hr h => ?_)
  · obtain ⟨a, l, n, m, rfl, hD, hn, hm, q⟩ := h
    rfl
  · obtain ⟨a, l, n, m, rfl, hD, hn, hm, q⟩ := h
    refine ⟨_, (pss_cons (ps_set (i := 2) sc__law_great.nd rfl (Or.inl rfl) pe_int)
      (pss_cons (ps_for PassesOwn.never rfl (pi_range1 rfl B.range (pa_cons pe_int pa_nil)) (pg_name (i := 3) sc__law_great.nd rfl (Or.inl rfl))
        (pss_one (ps_set (i := 2) sc__law_great.nd rfl (Or.inl rfl) (pe_op op_add (pe_op op_mulW (pv 2) (pe_op op_pow pe_int pe_int)) (pe_fn h__law_next (hr.mono (by decide)) (by rfl) (pa_cons (pv 0) (pa_cons (pe_op op_pow pe_int pe_int) pa_nil)))))))
      (pss_one (ps_ret (pe_op op_mod (pv 2) (pv 1)))))), ?_⟩
    walk_at "w"
    refine ⟨by decide, by decide, for_r (fun i σ H' => ∃ (z : Int) (v : Option V), σ = [some (.ref a), some (.int m), some (.int z), v] ∧ Kp a H H' ∧ Dk H' a l (n + i) ∧ 0 ≤ z ∧ z + 1 ≤ ((1000000 ^ i : Nat) : Int)) ⟨0, none, rfl, Kp.refl _ _, hD, by omega, by decide⟩ ?_ ?_⟩
    · rintro i σ H' hi ⟨z, v, rfl, k, hd, h0, h1⟩ N hN
      have e8 : (8 : Int).toNat = 8 := rfl
      have hb : 1000000 ^ i ≤ 1000000 ^ 8 := Nat.pow_le_pow_right (by decide) (by omega)
      have hb8 : 1000000 ^ 8 < 2 ^ 200 := by decide
      have ep : (10 : Int) ^ Int.toNat 6 = 1000000 := rfl
      walk_at "w"
      rw [ep]
      refine ⟨by unfold CPow; omega, wide_mul (a := 200) (b := 200) (by omega) (by omega) (by decide) (by decide) (by decide), by unfold CPow; omega, a, l, n + i, 1000000, rfl, hd, by omega, by omega, by omega, fun r H2 k2 d2 r0 r1 => ?_⟩
      walk_at "w"
      refine hN _ _ ⟨z * 1000000 + r, _, rfl, k.trans k2, d2, by omega, ?_⟩
      rw [Nat.pow_succ]
      omega
    · rintro σ H' ⟨z, v, rfl, k, hd, h0, h1⟩
      walk_at "w"
      exact ⟨by omega, q _ _ k (hd.mono (by simp)) (Int.emod_nonneg _ (by omega)) (Int.emod_lt_of_pos _ (by omega))⟩
end
abbrev s__law_a_power : Stmt := top 11
theorem sc__law_a_power : FnScope ["deck", "most", "exponent", "places", "few", "base", "found", "k"] ["deck", "most"] (defScope s__law_a_power) := ⟨rfl, rfl, rfl, by decide +kernel, rfl, by decide +kernel, by decide +kernel⟩
def sp__law_a_power (K : PySem.W.Frag) : Sp := fun vs H Q _ => ∃ (a l : Addr) (n : Nat) (m : Int), vs = [.ref a, .int m] ∧ Dk H a l n ∧ n ≤ 2 ^ 37 ∧ 1 ≤ m ∧ m < 2 ^ 200 ∧ ∀ (r : Int) (H' : Hp), Kp a H H' → Dk H' a l (n + 15) → 1 ≤ r → r ≤ m → Q (.int r) H'
theorem use_a_power {K : PySem.W.Frag} {a l : Addr} {n : Nat} {m : Int} {H H0 : Hp} {Q : VK} {E : XK} (k : Kp a H0 H) (d : Dk H a l n) (hn : n ≤ 2 ^ 37) (h1 : 1 ≤ m) (h2 : m < 2 ^ 200)
    (q : ∀ (r : Int) (H' : Hp), Kp a H H' → Kp a H0 H' → Dk H' a l (n + 15) → 1 ≤ r → r ≤ m → Q (.int r) H') : sp__law_a_power K [.ref a, .int m] H Q E :=
  ⟨a, l, n, m, rfl, d, hn, h1, h2, fun r H' k' d' => q r H' k' (k.trans k') d'⟩
section
variable {P : Program} {w : World} {K : PySem.W.Frag} {mg : PySem.Str → Option Value} {base : Heap}
theorem bi__law_a_power {f : Addr} {fd : FuncData} (F : Fun K "_law_a_power" "_law_a_power" s__law_a_power f fd) : Binds K fd ["deck", "most"] [] := F.binds (ps := ["deck", "most"]) fun _ _ _ _ _ _ us hl => match us, hl with | [_, _], _ => rfl
set_option maxHeartbeats 4000000 in
theorem ok__law_a_power {f : Addr} {fd : FuncData} (F : Fun K "_law_a_power" "_law_a_power" s__law_a_power f fd) (B : Bt mg) (h__law_next : Fn P w K mg base CX0 2 "_law_next" ["deck", "many"] (sp__law_next K)) (h__law_great : Fn P w K mg base CX0 3 "_law_great" ["deck", "most"] (sp__law_great K)) : FnOk P w K mg base CX0 4 f fd ["deck", "most"] (sp__law_a_power K) := by
  refine F.ok sc__law_a_power (fun vs H Q E h => ?_) (fun cdv A outer s H vs Q E hr h => ?_)
  · obtain ⟨a, l, n, m, rfl, hD, hn, hm, hm2, q⟩ := h
    rfl
  · obtain ⟨a, l, n, m, rfl, hD, hn, hm, hm2, q⟩ := h
    refine ⟨_, (pss_cons (ps_set (i := 2) sc__law_a_power.nd rfl (Or.inl rfl) (pe_ix (k_ixL K) (pe_lst (pa_cons (pe_op op_add pe_int (pe_fn h__law_next (hr.mono (by decide)) (by rfl) (pa_cons (pv 0) (pa_cons pe_int pa_nil)))) (pa_cons (pe_op op_add pe_int (pe_fn h__law_next (hr.mono (by decide)) (by rfl) (pa_cons (pv 0) (pa_cons pe_int pa_nil)))) (pa_cons (pe_op op_add pe_int (pe_fn h__law_next (hr.mono (by decide)) (by rfl) (pa_cons (pv 0) (pa_cons pe_int pa_nil)))) pa_nil)))) (pe_fn h__law_next (hr.mono (by decide)) (by rfl) (pa_cons (pv 0) (pa_cons pe_int pa_nil))) (fun _ _ => rfl)))
      (pss_cons (ps_set (i := 3) sc__law_a_power.nd rfl (Or.inl rfl) (pe_op op_add pe_int (pe_fn h__law_next (hr.mono (by decide)) (by rfl) (pa_cons (pv 0) (pa_cons (pe_op op_add (pe_op op_fdivW pe_int (pe_callB (call_min2 rfl) (by rfl) B.min (by decide +kernel) (pa_cons pe_int (pa_cons (pv 2) pa_nil)))) pe_int) pa_nil)))))
      (pss_cons (ps_set (i := 4) sc__law_a_power.nd rfl (Or.inl rfl) (pe_op op_add pe_int (pe_fn h__law_next (hr.mono (by decide)) (by rfl) (pa_cons (pv 0) (pa_cons pe_int pa_nil)))))
      (pss_cons (ps_set (i := 5) sc__law_a_power.nd rfl (Or.inl rfl) (pe_ix (k_ixL K) (pe_lst (pa_cons (pv 4) (pa_cons (pv 4) (pa_cons (pe_op op_add pe_int (pe_op op_mod (pe_fn h__law_great (hr.mono (by decide)) (by rfl) (pa_cons (pv 0) (pa_cons (pe_op op_pow pe_int pe_int) pa_nil))) (pe_op op_shl pe_int (pe_op op_mul pe_int (pv 3))))) pa_nil)))) (pe_fn h__law_next (hr.mono (by decide)) (by rfl) (pa_cons (pv 0) (pa_cons pe_int pa_nil))) (fun _ _ => rfl)))
      (pss_cons (ps_set (i := 6) sc__law_a_power.nd rfl (Or.inl rfl) pe_int)
      (pss_cons (ps_for PassesOwn.never rfl (pi_range1 rfl B.range (pa_cons (pv 2) pa_nil)) (pg_name (i := 7) sc__law_a_power.nd rfl (Or.inl rfl))
        (pss_one (ps_if (pt_cmpR op_le (pe_op op_mulW (pv 6) (pv 5)) (pv 1) (nomark _))
          (pss_one (ps_set (i := 6) sc__law_a_power.nd rfl (Or.inl rfl) (pe_op op_mulW (pv 6) (pv 5))))
          pss_nil)))
      (pss_one (ps_ret (pv 6))))))))), ?_⟩
    walk_at "w"
    refine use_next (Kp.refl a H) hD (by omega) (by omega) (by omega) fun r1 H1 k1 K1 d1 a1 b1 => ?_
    walk_at "w"
    refine use_next K1 d1 (by omega) (by omega) (by omega) fun r2 H2 k2 K2 d2 a2 b2 => ?_
    walk_at "w"
    refine use_next K2 d2 (by omega) (by omega) (by omega) fun r3 H3 k3 K3 d3 a3 b3 => ?_
    walk_at "w"
    refine ⟨by show 3 ≤ sizeLine; decide, fun p hp => ?_⟩
    have np := d3.ne hp
    refine use_next (K3.trans (sm_kp (same_new hp))) (d3.same (same_new hp)) (by omega) (by omega) (by omega) fun r4 H4 k4 K4 d4 a4 b4 => ?_
    obtain ⟨v, hv, hat⟩ := atI_mem (xs := [.int (2 + r1), .int (2 + r2), .int (2 + r3)]) a4 b4
    obtain ⟨e, rfl, e1, e2⟩ : ∃ e : Int, v = .int e ∧ 2 ≤ e ∧ e ≤ 200 := by
      simp only [List.mem_cons, List.not_mem_nil, or_false] at hv
      rcases hv with rfl | rfl | rfl <;> exact ⟨_, rfl, by omega, by omega⟩
    refine r_ixL (SqL.of (k4 _ _ np upd_same)) hat ?_
    walk_at "w"
    have hmin : ∀ z : Int, z = (if e < 40 then e else 40) → 2 ≤ z ∧ z ≤ 40 := fun z hz => by
      subst hz
      split <;> omega
    generalize hz : (if e < 40 then e else 40) = z
    obtain ⟨z1, z2⟩ := hmin z hz.symm
    have zd : (40 : Int) / z ≤ 20 ∧ 0 ≤ (40 : Int) / z := by
      refine ⟨?_, Int.ediv_nonneg (by decide) (by omega)⟩
      have := Int.ediv_mul_le 40 (b := z) (by omega)
      have : (40 : Int) / z * 2 ≤ 40 / z * z := Int.mul_le_mul_of_nonneg_left z1 (Int.ediv_nonneg (by decide) (by omega))
      omega
    refine ⟨wide_div (b := 10) (by omega) (by omega) (by decide) (by decide), ?_⟩
    refine use_next K4 d4 (by omega) (by omega) (by omega) fun r5 H5 k5 K5 d5 a5 b5 => ?_
    walk_at "w"
    refine use_next K5 d5 (by omega) (by omega) (by omega) fun r6 H6 k6 K6 d6 a6 b6 => ?_
    walk_at "w"
    have ep : (10 : Int) ^ Int.toNat 42 = 1000000000000000000000000000000000000000000 := rfl
    refine ⟨by unfold CPow; omega, ?_⟩
    refine use_great K6 d6 (by omega) (by rw [ep]; decide) fun r7 H7 k7 K7 d7 a7 b7 => ?_
    walk_at "w"
    refine ⟨by unfold CMul; omega, by unfold CPow; omega, ?_⟩
    obtain ⟨j, hj⟩ := Int.eq_ofNat_of_zero_le (show 0 ≤ 3 * (1 + r5) by omega)
    have hj2 : (3 * (1 + r5)).toNat = j := by omega
    have hj3 : j ≤ 63 := by omega
    have hpw : (2 : Nat) ^ j ≤ 2 ^ 63 := Nat.pow_le_pow_right (by decide) hj3
    have hpw0 : 0 < (2 : Nat) ^ j := Nat.two_pow_pos j
    have hs : (1 : Int) * 2 ^ (3 * (1 + r5)).toNat = ((2 ^ j : Nat) : Int) := by
      rw [hj2]
      simp
    rw [hs]
    generalize hy : r7 % ((2 ^ j : Nat) : Int) = y
    have hy1 : 0 ≤ y ∧ y < ((2 ^ j : Nat) : Int) := by
      rw [← hy]
      exact ⟨Int.emod_nonneg _ (by omega), Int.emod_lt_of_pos _ (by omega)⟩
    refine ⟨by omega, by show 3 ≤ sizeLine; decide, fun p2 hp2 => ?_⟩
    have np2 := d7.ne hp2
    refine use_next (K7.trans (sm_kp (same_new hp2))) (d7.same (same_new hp2)) (by omega) (by omega) (by omega) fun r8 H8 k8 K8 d8 a8 b8 => ?_
    obtain ⟨v, hv, hat⟩ := atI_mem (xs := [.int (2 + r6), .int (2 + r6), .int (1 + y)]) a8 b8
    obtain ⟨b, rfl, e3, e4⟩ : ∃ e : Int, v = .int e ∧ 1 ≤ e ∧ e ≤ 2 ^ 64 := by
      simp only [List.mem_cons, List.not_mem_nil, or_false] at hv
      rcases hv with rfl | rfl | rfl <;> exact ⟨_, rfl, by omega, by omega⟩
    refine r_ixL (SqL.of (k8 _ _ np2 upd_same)) hat ?_
    walk_at "w"
    refine ⟨by omega, by omega, for_r (fun i σ H' => ∃ (z : Int) (v : Option V), σ = [some (.ref a), some (.int m), some (.int e), some (.int (1 + r5)), some (.int (2 + r6)), some (.int b), some (.int z), v] ∧ H' = H8 ∧ 1 ≤ z ∧ z ≤ m) ⟨1, none, rfl, rfl, by omega, by omega⟩ ?_ ?_⟩
    · rintro i σ H' hi ⟨z, v, rfl, rfl, h0, h1⟩ N hN
      have hc : CMulW z b := wide_mul (a := 200) (b := 200) (by omega) (by omega) (by decide) (by decide) (by decide)
      walk_at "w"
      refine ⟨hc, ite2 (fun ht => ⟨hc, hN _ _ ⟨z * b, _, rfl, rfl, ?_, ht⟩⟩) (fun ht => hN _ _ ⟨z, _, rfl, rfl, h0, h1⟩)⟩
      have := Int.mul_le_mul h0 e3 (by decide) (by omega)
      omega
    · rintro σ H' ⟨z, v, rfl, rfl, h0, h1⟩
      walk_at "w"
      exact q _ _ K8 d8 h0 h1
end
abbrev s__law_number : Stmt := top 12
theorem sc__law_number : FnScope ["deck", "most", "near", "some"] ["deck", "most"] (defScope s__law_number) := ⟨rfl, rfl, rfl, by decide +kernel, rfl, by decide +kernel, by decide +kernel⟩
def sp__law_number (K : PySem.W.Frag) : Sp := fun vs H Q _ => ∃ (a l : Addr) (n : Nat) (m : Int), vs = [.ref a, .int m] ∧ Dk H a l n ∧ n ≤ 2 ^ 36 ∧ 1 ≤ m ∧ m < 2 ^ 190 ∧ ∀ (r : Int) (H' : Hp), Kp a H H' → Dk H' a l (n + 42) → 0 ≤ r → r ≤ m → Q (.int r) H'
theorem use_number {K : PySem.W.Frag} {a l : Addr} {n : Nat} {m : Int} {H H0 : Hp} {Q : VK} {E : XK} (k : Kp a H0 H) (d : Dk H a l n) (hn : n ≤ 2 ^ 36) (h1 : 1 ≤ m) (h2 : m < 2 ^ 190)
    (q : ∀ (r : Int) (H' : Hp), Kp a H H' → Kp a H0 H' → Dk H' a l (n + 42) → 0 ≤ r → r ≤ m → Q (.int r) H') : sp__law_number K [.ref a, .int m] H Q E :=
  ⟨a, l, n, m, rfl, d, hn, h1, h2, fun r H' k' d' => q r H' k' (k.trans k') d'⟩
section
variable {P : Program} {w : World} {K : PySem.W.Frag} {mg : PySem.Str → Option Value} {base : Heap}
theorem bi__law_number {f : Addr} {fd : FuncData} (F : Fun K "_law_number" "_law_number" s__law_number f fd) : Binds K fd ["deck", "most"] [] := F.binds (ps := ["deck", "most"]) fun _ _ _ _ _ _ us hl => match us, hl with | [_, _], _ => rfl
set_option maxHeartbeats 4000000 in
theorem ok__law_number {f : Addr} {fd : FuncData} (F : Fun K "_law_number" "_law_number" s__law_number f fd) (B : Bt mg) (h__law_next : Fn P w K mg base CX0 2 "_law_next" ["deck", "many"] (sp__law_next K)) (h__law_great : Fn P w K mg base CX0 3 "_law_great" ["deck", "most"] (sp__law_great K)) (h__law_a_power : Fn P w K mg base CX0 4 "_law_a_power" ["deck", "most"] (sp__law_a_power K)) : FnOk P w K mg base CX0 5 f fd ["deck", "most"] (sp__law_number K) := by
  refine F.ok sc__law_number (fun vs H Q E h => ?_) (fun cdv A outer s H vs Q E hr h => ?_)
  · obtain ⟨a, l, n, m, rfl, hD, hn, hm, hm2, q⟩ := h
    rfl
  · obtain ⟨a, l, n, m, rfl, hD, hn, hm, hm2, q⟩ := h
    refine ⟨_, (pss_cons (ps_set (i := 2) sc__law_number.nd rfl (Or.inl rfl) (pe_op op_sub (pe_op op_add (pe_fn h__law_a_power (hr.mono (by decide)) (by rfl) (pa_cons (pv 0) (pa_cons (pv 1) pa_nil))) (pe_fn h__law_next (hr.mono (by decide)) (by rfl) (pa_cons (pv 0) (pa_cons pe_int pa_nil)))) pe_int))
      (pss_cons (ps_set (i := 3) sc__law_number.nd rfl (Or.inl rfl) (pe_lst (pa_cons (pe_fn h__law_next (hr.mono (by decide)) (by rfl) (pa_cons (pv 0) (pa_cons pe_int pa_nil))) (pa_cons (pe_fn h__law_great (hr.mono (by decide)) (by rfl) (pa_cons (pv 0) (pa_cons (pe_op op_add (pv 1) pe_int) pa_nil))) (pa_cons (pe_fn h__law_a_power (hr.mono (by decide)) (by rfl) (pa_cons (pv 0) (pa_cons (pv 1) pa_nil))) (pa_cons (pv 2) (pa_cons (pe_op op_sub (pv 1) (pe_fn h__law_next (hr.mono (by decide)) (by rfl) (pa_cons (pv 0) (pa_cons pe_int pa_nil)))) pa_nil)))))))
      (pss_one (ps_ret (pe_callB (call_min2 rfl) (by rfl) B.min (by decide +kernel) (pa_cons (pv 1) (pa_cons (pe_callB (call_max2 rfl) (by rfl) B.max (by decide +kernel) (pa_cons pe_int (pa_cons (pe_ix (k_ixL K) (pv 3) (pe_fn h__law_next (hr.mono (by decide)) (by rfl) (pa_cons (pv 0) (pa_cons pe_int pa_nil))) (fun _ _ => rfl)) pa_nil))) pa_nil))))))), ?_⟩
    walk_at "w"
    refine use_a_power (Kp.refl a H) hD (by omega) (by omega) (by omega) fun r1 H1 k1 K1 d1 a1 b1 => ?_
    walk_at "w"
    refine use_next K1 d1 (by omega) (by omega) (by omega) fun r2 H2 k2 K2 d2 a2 b2 => ?_
    walk_at "w"
    refine use_next K2 d2 (by omega) (by omega) (by omega) fun r3 H3 k3 K3 d3 a3 b3 => ?_
    walk_at "w"
    refine use_great K3 d3 (by omega) (by omega) fun r4 H4 k4 K4 d4 a4 b4 => ?_
    walk_at "w"
    refine use_a_power K4 d4 (by omega) (by omega) (by omega) fun r5 H5 k5 K5 d5 a5 b5 => ?_
    walk_at "w"
    refine use_next K5 d5 (by omega) (by omega) (by omega) fun r6 H6 k6 K6 d6 a6 b6 => ?_
    walk_at "w"
    refine ⟨by show 5 ≤ sizeLine; decide, fun p hp => ?_⟩
    have np := d6.ne hp
    refine use_next (K6.trans (sm_kp (same_new hp))) (d6.same (same_new hp)) (by omega) (by omega) (by omega) fun r7 H7 k7 K7 d7 a7 b7 => ?_
    obtain ⟨v, hv, hat⟩ := atI_mem (xs := [.int r3, .int r4, .int r5, .int (r1 + r2 - 2), .int (m - r6)]) a7 b7
    obtain ⟨e, rfl⟩ : ∃ e : Int, v = .int e := by
      simp only [List.mem_cons, List.not_mem_nil, or_false] at hv
      rcases hv with rfl | rfl | rfl | rfl | rfl <;> exact ⟨_, rfl⟩
    refine r_ixL (SqL.of (k7 _ _ np upd_same)) hat ?_
    walk_at "w"
    refine q _ _ K7 (d7.mono (by omega)) ?_ ?_
    · split <;> split at * <;> omega
    · split <;> split at * <;> omega
end
abbrev s__law_taken : Stmt := top 13
theorem sc__law_taken : FnScope ["base", "exponent", "found", "k"] ["base", "exponent"] (defScope s__law_taken) := ⟨rfl, rfl, rfl, by decide +kernel, rfl, by decide +kernel, by decide +kernel⟩
def sp__law_taken (K : PySem.W.Frag) : Sp := fun vs H Q _ => ∃ (b e a : Nat), vs = [.int (b : Int), .int (e : Int)] ∧ b < 2 ^ a ∧ e ≤ 1000000 ∧ a * e ≤ 300000 ∧ Q (.int ((b ^ e : Nat) : Int)) H
section
variable {P : Program} {w : World} {K : PySem.W.Frag} {mg : PySem.Str → Option Value} {base : Heap}
theorem bi__law_taken {f : Addr} {fd : FuncData} (F : Fun K "_law_taken" "_law_taken" s__law_taken f fd) : Binds K fd ["base", "exponent"] [] := F.binds (ps := ["base", "exponent"]) fun _ _ _ _ _ _ us hl => match us, hl with | [_, _], _ => rfl
set_option maxHeartbeats 4000000 in
theorem ok__law_taken {f : Addr} {fd : FuncData} (F : Fun K "_law_taken" "_law_taken" s__law_taken f fd) (B : Bt mg)  : FnOk P w K mg base CX0 1 f fd ["base", "exponent"] (sp__law_taken K) := by
  refine F.ok sc__law_taken (fun vs H Q E h => ?_) (fun cdv A outer s H vs Q E hr h => ?_)
  · obtain ⟨b, e, a, rfl, hb, he, ha, q⟩ := h
    rfl
  · obtain ⟨b, e, a, rfl, hb, he, ha, q⟩ := h
    refine ⟨_, (pss_cons (ps_set (i := 2) sc__law_taken.nd rfl (Or.inl rfl) pe_int)
      (pss_cons (ps_for PassesOwn.never rfl (pi_range1 rfl B.range (pa_cons (pv 1) pa_nil)) (pg_name (i := 3) sc__law_taken.nd rfl (Or.inl rfl))
        (pss_one (ps_set (i := 2) sc__law_taken.nd rfl (Or.inl rfl) (pe_op op_mulW (pv 2) (pv 0)))))
      (pss_one (ps_ret (pv 2))))), ?_⟩
    walk_at "w"
    refine ⟨by omega, by omega, for_r (fun i σ H' => ∃ (v : Option V), σ = [some (.int b), some (.int e), some (.int ((b ^ i : Nat) : Int)), v] ∧ H' = H) ⟨none, by simp, rfl⟩ ?_ ?_⟩
    · rintro i σ H' hi ⟨v, rfl, rfl⟩ N hN
      have hi : i < e := by omega
      have h1 : b ^ i ≤ 2 ^ (a * e) := by
        rw [Nat.pow_mul]
        refine Nat.le_trans (Nat.pow_le_pow_left (Nat.le_of_lt hb) i) (Nat.pow_le_pow_right (Nat.two_pow_pos a) (by omega))
      have h2 : b ≤ 2 ^ (a * e) := Nat.le_trans (Nat.le_of_lt hb) (Nat.pow_le_pow_right (by decide) (Nat.le_mul_of_pos_right a (by omega)))
      have l1 := log2_le_of_le h1
      have l2 := log2_le_of_le h2
      walk_at "w"
      rw [show ((b ^ i : Nat) : Int) * (b : Int) = ((b ^ (i + 1) : Nat) : Int) by simp [Nat.pow_succ]]
      exact ⟨cmulN (by omega), hN _ _ ⟨_, rfl, rfl⟩⟩
    · rintro σ H' ⟨v, rfl, rfl⟩
      walk_at "w"
      exact q
end
abbrev s__law_root : Stmt := top 14
theorem sc__law_root : FnScope ["number", "exponent", "found", "bit", "more", "k"] ["number", "exponent"] (defScope s__law_root) := ⟨rfl, rfl, rfl, by decide +kernel, rfl, by decide +kernel, by decide +kernel⟩
def sp__law_root (K : PySem.W.Frag) : Sp := fun vs H Q _ => ∃ (n e : Nat), vs = [.int (n : Int), .int (e : Int)] ∧ n < 2 ^ 140 ∧ 2 ≤ e ∧ e ≤ 200 ∧ Q (.int (rootN n e : Nat)) H
section
variable {P : Program} {w : World} {K : PySem.W.Frag} {mg : PySem.Str → Option Value} {base : Heap}
theorem bi__law_root {f : Addr} {fd : FuncData} (F : Fun K "_law_root" "_law_root" s__law_root f fd) : Binds K fd ["number", "exponent"] [] := F.binds (ps := ["number", "exponent"]) fun _ _ _ _ _ _ us hl => match us, hl with | [_, _], _ => rfl
set_option maxHeartbeats 4000000 in
theorem ok__law_root {f : Addr} {fd : FuncData} (F : Fun K "_law_root" "_law_root" s__law_root f fd) (B : Bt mg)  : FnOk P w K mg base CX0 1 f fd ["number", "exponent"] (sp__law_root K) := by
  refine F.ok sc__law_root (fun vs H Q E h => ?_) (fun cdv A outer s H vs Q E hr h => ?_)
  · obtain ⟨n, e, rfl, hn, he, he2, q⟩ := h
    rfl
  · obtain ⟨n, e, rfl, hn, he, he2, q⟩ := h
    refine ⟨_, (pss_cons (ps_set (i := 2) sc__law_root.nd rfl (Or.inl rfl) pe_int)
      (pss_cons (ps_set (i := 3) sc__law_root.nd rfl (Or.inl rfl) (pe_op op_shl pe_int (pe_op op_add (pe_op op_fdivW pe_int (pv 1)) pe_int)))
      (pss_cons (ps_while PassesOwn.never (pt_cmpR op_gt (pv 3) pe_int (nomark _))
        (pss_cons (ps_set (i := 4) sc__law_root.nd rfl (Or.inl rfl) pe_int)
        (pss_cons (ps_for PassesOwn.never rfl (pi_range1 rfl B.range (pa_cons (pv 1) pa_nil)) (pg_name (i := 5) sc__law_root.nd rfl (Or.inl rfl))
          (pss_one (ps_if (pt_cmpR op_le (pv 4) (pv 0) (nomark _))
            (pss_one (ps_set (i := 4) sc__law_root.nd rfl (Or.inl rfl) (pe_op op_mulW (pv 4) (pe_op op_add (pv 2) (pv 3)))))
            pss_nil)))
        (pss_cons (ps_if (pt_cmpR op_le (pv 4) (pv 0) (nomark _))
          (pss_one (ps_set (i := 2) sc__law_root.nd rfl (Or.inl rfl) (pe_op op_add (pv 2) (pv 3))))
          pss_nil)
        (pss_one (ps_set (i := 3) sc__law_root.nd rfl (Or.inl rfl) (pe_op op_fdiv (pv 3) pe_int)))))))
      (pss_one (ps_ret (pv 2)))))), ?_⟩
    walk_at "w"
    have hj : (140 : Int) / (e : Int) + 1 = ((140 / e + 1 : Nat) : Int) := by simp
    have hj70 : 140 / e ≤ 70 := by
      have : 140 / e ≤ 140 / 2 := Nat.div_le_div_left he (by decide)
      omega
    have hje : 140 ≤ (140 / e + 2) * e := by
      have := Nat.lt_div_mul_add (a := 140) (b := e) (by omega)
      rw [Nat.add_mul]
      omega
    rw [hj, shl_one]
    generalize 140 / e = z at hj70 hje ⊢
    clear hj
    refine ⟨wide_div (b := 10) (by omega) (by omega) (by decide) (by decide), by unfold CPow; omega, ?_⟩
    refine while_m (fun m σ H' => ∃ (f bit : Nat) (v4 v5 : Option V), σ = [some (.int n), some (.int e), some (.int f), some (.int bit), v4, v5] ∧ H' = H ∧ bit = (if m = 0 then 0 else 2 ^ (m - 1)) ∧ f ^ e ≤ n ∧ n < (f + 2 ^ m) ^ e ∧ f + 2 ^ m ≤ 2 ^ 73) (z + 2) ⟨0, 2 ^ (z + 1), none, none, rfl, rfl, rfl, ?_, ?_, ?_⟩ ?_
    · rw [Nat.zero_pow (by omega)]
      omega
    · rw [Nat.zero_add, ← Nat.pow_mul]
      exact Nat.lt_of_lt_of_le hn (Nat.pow_le_pow_right (by decide) hje)
    · rw [Nat.zero_add]
      exact Nat.pow_le_pow_right (by decide) (by omega)
    · rintro m σ H' ⟨f, bit, v4, v5, rfl, rfl, hbit, h1, h2, h3⟩ G hG
      walk_at "w"
      refine ite2 (fun hc => hG _ _ fun N hN => ?_) (fun hc => ?_)
      · have hm : m ≠ 0 := fun h => by
          rw [if_pos h] at hbit
          omega
        rw [if_neg hm] at hbit
        obtain ⟨j, rfl⟩ : ∃ j, m = j + 1 := ⟨m - 1, by omega⟩
        have hbit : bit = 2 ^ j := hbit
        have hp : 2 ^ (j + 1) = 2 ^ j + 2 ^ j := by rw [Nat.pow_succ]; omega
        have hp0 : 0 < 2 ^ j := Nat.two_pow_pos j
        walk_at "w"
        refine ⟨by omega, by omega, for_r (fun i σ H2 => ∃ (t : Nat) (v5 : Option V), σ = [some (.int n), some (.int e), some (.int f), some (.int bit), some (.int (((f + bit) ^ t : Nat) : Int)), v5] ∧ H2 = H' ∧ t ≤ i ∧ (t = i ∨ n < (f + bit) ^ t) ∧ (f + bit) ^ t ≤ 2 ^ 220) ⟨0, _, rfl, rfl, Nat.le_refl _, .inl rfl, by rw [Nat.pow_zero]; decide⟩ ?_ ?_⟩
        · rintro i σ H2 hi ⟨t, v5, rfl, rfl, ht, ht2, ht3⟩ N2 hN2
          walk_at "w"
          refine ite2 (fun hl => ?_) (fun hl => hN2 _ _ ⟨t, _, rfl, rfl, by omega, .inr (by omega), ht3⟩)
          have ht4 : t = i := by omega
          have l1 : (((f + bit) ^ t : Nat) : Int).natAbs < 2 ^ 221 := by
            have : (2:Nat) ^ 220 < 2 ^ 221 := by decide
            omega
          have l2 : ((f : Int) + bit).natAbs < 2 ^ 74 := by
            have : (2:Nat) ^ 73 < 2 ^ 74 := by decide
            omega
          have ev : (((f + bit) ^ t : Nat) : Int) * ((f : Int) + bit) = (((f + bit) ^ (t + 1) : Nat) : Int) := by
            rw [Nat.pow_succ]
            push_cast
            rfl
          rw [ev]
          refine ⟨wide_mul l1 l2 (by decide) (by decide) (by decide), hN2 _ _ ⟨t + 1, _, rfl, rfl, by omega, .inl (by omega), ?_⟩⟩
          · rw [Nat.pow_succ]
            have a1 : (f + bit) ^ t ≤ 2 ^ 140 := by omega
            have a2 : f + bit ≤ 2 ^ 73 := by omega
            exact Nat.le_trans (Nat.mul_le_mul a1 a2) (by decide)
        · rintro σ H2 ⟨t, v5, rfl, rfl, ht, ht2, ht3⟩
          have ee : (e : Int).toNat = e := by omega
          rw [ee] at ht ht2
          have key := more_end (n := n) (x := f + bit) (by omega) ht ht2
          walk_at "w"
          have hb2 : (bit : Int) / 2 = ((bit / 2 : Nat) : Int) := by omega
          have hbj : bit / 2 = if j = 0 then 0 else 2 ^ (j - 1) := by
            rcases Nat.eq_zero_or_pos j with rfl | hj0
            · rw [hbit]
              rfl
            · rw [if_neg (by omega), hbit]
              have : 2 ^ j = 2 * 2 ^ (j - 1) := by
                conv => lhs; rw [show j = (j - 1) + 1 by omega, Nat.pow_succ]
                omega
              omega
          rw [hb2]
          refine ite2 (fun hl => ?_) (fun hl => ?_)
          · rw [show (f : Int) + (bit : Int) = ((f + bit : Nat) : Int) by push_cast; rfl]
            refine ⟨by unfold CDiv; omega, hN j _ _ (by omega) ⟨f + bit, bit / 2, _, _, rfl, rfl, hbj, key.mp (by omega), ?_, by omega⟩⟩
            · rw [hbit, Nat.add_assoc, ← hp]
              exact h2
          · refine ⟨by unfold CDiv; omega, hN j _ _ (by omega) ⟨f, bit / 2, _, _, rfl, rfl, hbj, h1, ?_, by omega⟩⟩
            · rw [← hbit]
              exact Nat.lt_of_not_le fun h => hl (by have := key.mpr h; omega)
      · have hm : m = 0 := by
          rcases Nat.eq_zero_or_pos m with h | h
          · exact h
          · rw [if_neg (by omega)] at hbit
            have := Nat.two_pow_pos (m - 1)
            omega
        subst hm
        walk_at "w"
        have := rootN_is (by omega) h1 h2
        rw [this]
        exact q
end
abbrev s__law_are_wholes : Stmt := top 16
theorem sc__law_are_wholes : FnScope ["found", "due", "one"] ["found", "due"] (defScope s__law_are_wholes) := ⟨rfl, rfl, rfl, by decide +kernel, rfl, by decide +kernel, by decide +kernel⟩
def sp__law_are_wholes (K : PySem.W.Frag) : Sp := fun vs H Q _ => ∃ (a b : Addr) (ns ms : List Int), vs = [.ref a, .ref b] ∧ SqT K H a (ns.map V.int) ∧ SqT K H b (ms.map V.int) ∧ ns.length ≤ 1000000 ∧ ∀ H', Same H H' → Q (.bl (decide (ns = ms))) H'
section
variable {P : Program} {w : World} {K : PySem.W.Frag} {mg : PySem.Str → Option Value} {base : Heap}
theorem bi__law_are_wholes {f : Addr} {fd : FuncData} (F : Fun K "_law_are_wholes" "_law_are_wholes" s__law_are_wholes f fd) : Binds K fd ["found", "due"] [] := F.binds (ps := ["found", "due"]) fun _ _ _ _ _ _ us hl => match us, hl with | [_, _], _ => rfl
set_option maxHeartbeats 4000000 in
theorem ok__law_are_wholes {f : Addr} {fd : FuncData} (F : Fun K "_law_are_wholes" "_law_are_wholes" s__law_are_wholes f fd) (B : Bt mg)  : FnOk P w K mg base CX0 1 f fd ["found", "due"] (sp__law_are_wholes K) := by
  refine F.ok sc__law_are_wholes (fun vs H Q E h => ?_) (fun cdv A outer s H vs Q E hr h => ?_)
  · obtain ⟨a, b, ns, ms, rfl, ha, hb, hl, q⟩ := h
    rfl
  · obtain ⟨a, b, ns, ms, rfl, ha, hb, hl, q⟩ := h
    refine ⟨_, (pss_cons (ps_if (PW.pt (pw_or (pt_not (pt_val (pe_callB (k_isi K) (by rfl) B.isinstance (by decide +kernel) (pa_cons (pv 0) (pa_cons (pe_bltn (v := .ty "tuple") (u := .type "tuple") (by rfl) B.tuple (by decide +kernel) rfl) pa_nil))))) (pw_or1 (pt_cmpR (k_neD K rfl hr.units) (pv 0) (pv 1) (nomark _)))))
        (pss_one (ps_ret pe_bl))
        pss_nil)
      (pss_one (ps_ret (pe_cmpR (k_eqD K rfl hr.units) (pe_lc (own := [("one", 2)]) (g := gName 2) rfl sc__law_are_wholes.nd (pi_tup (pv 0)) (blkOk_by (own := [("one", 2)]) (N := ["found", "due", "one"]) (sc := defScope s__law_are_wholes) (by decide +kernel)) (fun _ _ _ _ _ => (pg_name (i := 2) sc__law_are_wholes.nd rfl (Or.inl rfl))) (fun _ _ _ _ _ => (pts_one (PW.pt (pw_or (pt_val (pe_callB (k_isi K) (by rfl) B.isinstance (by decide +kernel) (pa_cons (pv 2) (pa_cons (pe_bltn (v := .ty "bool") (u := .type "bool") (by rfl) B.bool (by decide +kernel) rfl) pa_nil)))) (pw_or1 (pt_not (pt_val (pe_callB (k_isi K) (by rfl) B.isinstance (by decide +kernel) (pa_cons (pv 2) (pa_cons (pe_bltn (v := .ty "int") (u := .type "int") (by rfl) B.int (by decide +kernel) rfl) pa_nil)))))))))) (fun _ _ _ _ _ => (pv 2))) (pe_lst pa_nil) (nomark _))))), ?_⟩
    walk_at "w"
    refine r_isi (ty_tup ha) (c := true) (by decide +kernel) ?_
    walk_at "w"
    refine r_neT ha hb ?_
    walk_at "w"
    by_cases e : ns = ms
    · rw [decide_eq_true e] at q
      rw [if_neg (by simpa using e)]
      refine ⟨⟨_, ha⟩, lc_t (fun _ => none) ha (by rw [List.length_map]; exact Nat.lt_of_le_of_lt hl (by decide)) ?_ ?_⟩
      · rintro i x H' hi e1 N0 N1 h0 h1
        obtain ⟨n, rfl⟩ : ∃ n, x = V.int n := by
          rw [List.getElem?_map] at hi
          cases h : ns[i]? with
          | none => simp [h] at hi
          | some n => simp [h] at hi; exact ⟨n, hi.symm⟩
        walk_at "w"
        refine r_isi (ty_int n) (c := false) (by decide +kernel) ?_
        walk_at "w"
        refine r_isi (ty_int n) (c := true) (by decide +kernel) ?_
        walk_at "w"
        exact h0 rfl _ (Same.refl _)
      · intro D H' hD e1 hd
        walk_at "w"
        refine ⟨Nat.zero_le _, fun p hp => ?_⟩
        have hd' : H' D = some (.lst (([] : List Int).map V.int)) := by
          rw [hd]
          simp
        have np : D ≠ p := ne_of_none hd hp
        refine r_eqL (ns := []) (ms := []) (SqL.of ((upd_ne np).trans hd')) (SqL.of upd_same) ?_
        exact q _ (sm_new e1 (e1.free hp))
    · rw [decide_eq_false e] at q
      rw [if_pos (by simpa using e)]
      exact q _ (Same.refl _)
end
abbrev s__law_due : Stmt := top 17
theorem sc__law_due : FnScope ["number", "exponent", "base"] ["number"] (defScope s__law_due) := ⟨rfl, rfl, rfl, by decide +kernel, rfl, by decide +kernel, by decide +kernel⟩
def sp__law_due (K : PySem.W.Frag) : Sp := fun vs H Q _ => ∃ (n : Nat), vs = [.int (n : Int)] ∧ n < 2 ^ 134 ∧
  ∀ (p : Addr) (H' : Hp), H p = none → Same H H' → H' p = some (.tup [.int ((greatestN n).1 : Int), .int ((greatestN n).2 : Int)]) → Q (.ref p) H'
section
variable {P : Program} {w : World} {K : PySem.W.Frag} {mg : PySem.Str → Option Value} {base : Heap}
theorem bi__law_due {f : Addr} {fd : FuncData} (F : Fun K "_law_due" "_law_due" s__law_due f fd) : Binds K fd ["number"] [] := F.binds (ps := ["number"]) fun _ _ _ _ _ _ us hl => match us, hl with | [_], _ => rfl
set_option maxHeartbeats 4000000 in
theorem ok__law_due {f : Addr} {fd : FuncData} (F : Fun K "_law_due" "_law_due" s__law_due f fd) (B : Bt mg) (h__law_root : Fn P w K mg base CX0 1 "_law_root" ["number", "exponent"] (sp__law_root K)) (h__law_taken : Fn P w K mg base CX0 1 "_law_taken" ["base", "exponent"] (sp__law_taken K)) : FnOk P w K mg base CX0 2 f fd ["number"] (sp__law_due K) := by
  refine F.ok sc__law_due (fun vs H Q E h => ?_) (fun cdv A outer s H vs Q E hr h => ?_)
  · obtain ⟨n, rfl, hn, q⟩ := h
    rfl
  · obtain ⟨n, rfl, hn, q⟩ := h
    refine ⟨_, (pss_cons (ps_if (pt_cmpR op_lt (pv 0) pe_int (nomark _))
        (pss_one (ps_ret (pe_tup (pa_cons (pv 0) (pa_cons (pe_op op_add pe_int (pv 0)) pa_nil)))))
        pss_nil)
      (pss_cons (ps_for PassesOwn.never rfl (pi_range3 rfl B.range (pa_cons pe_int (pa_cons pe_int (pa_cons (pe_un un_neg pe_int) pa_nil)))) (pg_name (i := 1) sc__law_due.nd rfl (Or.inl rfl))
        (pss_one (ps_if (pt_cmpR op_le (pe_op op_shl pe_int (pv 1)) (pv 0) (nomark _))
          (pss_cons (ps_set (i := 2) sc__law_due.nd rfl (Or.inl rfl) (pe_fn h__law_root (hr.mono (by decide)) (by rfl) (pa_cons (pv 0) (pa_cons (pv 1) pa_nil))))
          (pss_one (ps_if (pt_cmpR op_eq (pe_fn h__law_taken (hr.mono (by decide)) (by rfl) (pa_cons (pv 2) (pa_cons (pv 1) pa_nil))) (pv 0) (nomark _))
            (pss_one (ps_ret (pe_tup (pa_cons (pv 2) (pa_cons (pv 1) pa_nil)))))
            pss_nil)))
          pss_nil)))
      (pss_one (ps_ret (pe_tup (pa_cons (pv 0) (pa_cons pe_int pa_nil))))))), ?_⟩
    walk_at "w"
    refine ite2 (fun h0 => ?_) (fun h0 => ?_)
    · refine ⟨by show 2 ≤ sizeLine; decide, fun p hp => q p _ hp (same_new hp) ?_⟩
      rw [upd_same]
      rcases (by omega : n = 0 ∨ n = 1) with rfl | rfl <;> rfl
    · have hn2 : 2 ≤ n := by omega
      refine ⟨_, RgC.neg (by decide) (by decide) (by decide) (by decide), for_c (fun i σ H' => ∃ (v1 v2 : Option V), σ = [some (.int n), v1, v2] ∧ H' = H ∧ ∀ e, 133 < e + i → 2 ^ e ≤ n → (rootN n e) ^ e ≠ n) ⟨none, none, rfl, rfl, fun e h1 h2 => ?_⟩ ?_ ?_⟩
      · have : (2 : Nat) ^ 134 ≤ 2 ^ e := Nat.pow_le_pow_right (by decide) (by omega)
        omega
      · rintro i σ H' hi ⟨v1, v2, rfl, rfl, hA⟩ N hN
        have hi : i < 132 := hi
        have ee : (133 : Int) + (i : Int) * -1 = ((133 - i : Nat) : Int) := by omega
        rw [ee]
        generalize he : 133 - i = e
        walk_at "w"
        rw [shl_one]
        have hcp : CPow 1 (e : Int) := by unfold CPow; omega
        have next : ((2 ^ e ≤ n → (rootN n e) ^ e ≠ n)) → ∀ e', 133 < e' + (i + 1) → 2 ^ e' ≤ n → (rootN n e') ^ e' ≠ n := fun h e' h1 => by
          rcases Nat.lt_or_ge 133 (e' + i) with c | c
          · exact hA e' c
          · have : e' = e := by omega
            rw [this]
            exact h
        refine ⟨hcp, ite2 (fun hl => ?_) (fun hl => hN _ _ ⟨_, _, rfl, rfl, next fun h => by omega⟩)⟩
        have hl' : 2 ^ e ≤ n := by omega
        refine ⟨n, e, rfl, Nat.lt_trans hn (by decide), by omega, by omega, ?_⟩
        walk_at "w"
        have hr0 : rootN n e < 2 ^ 134 := Nat.lt_of_le_of_lt (Nat.le_trans (Nat.le_self_pow (by omega) _) (rootN_le (n := n) (e := e) (by omega))) hn
        refine ⟨rootN n e, e, 134, rfl, hr0, by omega, by omega, ?_⟩
        walk_at "w"
        refine ite2 (fun hq => ?_) (fun hq => hN _ _ ⟨_, _, rfl, rfl, next fun _ h => hq (by omega)⟩)
        refine ⟨by show 2 ≤ sizeLine; decide, fun p hp => q p _ hp (same_new hp) ?_⟩
        have hq' : rootN n e ^ e = n := by omega
        rw [upd_same, greatest_of hn2 (by omega) hl' hq' fun e' h1 h2 => hA e' (by omega) h2]
      · rintro σ H' ⟨v1, v2, rfl, rfl, hA⟩
        walk_at "w"
        refine ⟨by show 2 ≤ sizeLine; decide, fun p hp => q p _ hp (same_new hp) ?_⟩
        have hA' : ∀ e, 133 < e + 132 → 2 ^ e ≤ n → (rootN n e) ^ e ≠ n := hA
        rw [upd_same, greatest_none hn2 fun e h1 h2 => hA' e (by omega) h2]
        rfl
end
abbrev s_law : Stmt := top 18
theorem sc_law : FnScope ["script", "deck", "k", "numbers", "dues", "number"] ["script"] (defScope s_law) := ⟨rfl, rfl, rfl, by decide +kernel, rfl, by decide +kernel, by decide +kernel⟩
def sp_law (K : PySem.W.Frag) : Sp := fun vs H Q _ => ∃ (a : Addr) (ns : List Int), vs = [.ref a] ∧ SqL K H a (ns.map V.int) ∧ ns.length ≤ 63 ∧ ∀ H', Q (.bl true) H'
theorem ten_forty_no : ∀ b, b < 10 → ∀ e, e < 134 → 40 < e → b ^ e ≠ 10 ^ 40 := by decide +kernel
theorem greatest_ten_forty : greatestN (10 ^ 40) = (10, 40) := by
  have h10 : rootN (10 ^ 40) 40 = 10 := rootN_pow (by decide)
  have := greatest_of (n := 10 ^ 40) (e := 40) (by decide) (by decide) (by decide) (by rw [h10]) fun e' h1 h2 h3 => ?_
  · rw [this, h10]
  · have he : e' < 134 := by
      have h4 : (2 : Nat) ^ e' < 2 ^ 134 := Nat.lt_of_le_of_lt h2 (by decide)
      exact (Nat.pow_lt_pow_iff_right (by decide : 1 < 2)).mp h4
    rcases Nat.lt_or_ge (rootN (10 ^ 40) e') 10 with c | c
    · exact ten_forty_no _ c e' he h1 h3
    · have h5 : 10 ^ e' ≤ (rootN (10 ^ 40) e') ^ e' := Nat.pow_le_pow_left c e'
      have h6 : (10 : Nat) ^ 41 ≤ 10 ^ e' := Nat.pow_le_pow_right (by decide) h1
      have h7 : (10 : Nat) ^ 40 < 10 ^ 41 := by decide
      omega
/-- the dues made so far -/
def DueAt (H : Hp) (xs acc : List V) : Prop := ∀ (j : Nat) (y : V), acc[j]? = some y → ∃ (p : Addr) (z : Nat), y = .ref p ∧ xs[j]? = some (.int (z : Int)) ∧ H p = some (.tup [.int ((greatestN z).1 : Int), .int ((greatestN z).2 : Int)])
section
variable {P : Program} {w : World} {K : PySem.W.Frag} {mg : PySem.Str → Option Value} {base : Heap}
theorem bi_law {f : Addr} {fd : FuncData} (F : Fun K "law" "law" s_law f fd) : Binds K fd ["script"] [] := F.binds (ps := ["script"]) fun _ _ _ _ _ _ us hl => match us, hl with | [_], _ => rfl
set_option maxHeartbeats 4000000 in
theorem ok_law {f : Addr} {fd : FuncData} (F : Fun K "law" "law" s_law f fd) (B : Bt mg) (h__law_deck : Fn P w K mg base CX0 1 "_law_deck" ["script"] (sp__law_deck K)) (h__law_number : Fn P w K mg base CX0 5 "_law_number" ["deck", "most"] (sp__law_number K)) (h__law_due : Fn P w K mg base CX0 2 "_law_due" ["number"] (sp__law_due K)) (h__law_taken : Fn P w K mg base CX0 1 "_law_taken" ["base", "exponent"] (sp__law_taken K)) (h__law_are_wholes : Fn P w K mg base CX0 1 "_law_are_wholes" ["found", "due"] (sp__law_are_wholes K)) (h_greatest_way : Fn P w K mg base CX0 4 "greatest_way" ["number"] (sp_greatest_way K)) (h__law_next : Fn P w K mg base CX0 2 "_law_next" ["deck", "many"] (sp__law_next K)) : FnOk P w K mg base CX0 6 f fd ["script"] (sp_law K) := by
  refine F.ok sc_law (fun vs H Q E h => ?_) (fun cdv A outer s H vs Q E hr h => ?_)
  · obtain ⟨a, ns, rfl, hS, hlen, q⟩ := h
    rfl
  · obtain ⟨a, ns, rfl, hS, hlen, q⟩ := h
    refine ⟨_, (pss_cons (ps_set (i := 1) sc_law.nd rfl (Or.inr rfl) (pe_fn h__law_deck (hr.mono (by decide)) (by rfl) (pa_cons (pv 0) pa_nil)))
      (pss_cons (ps_setLc (i := 3) (own := [("k", 2)]) (g := gName 2) (tt := tYes) rfl sc_law.nd rfl rfl (sw_true rfl rfl rfl (by decide +kernel)) (pi_range1 rfl B.range (pa_cons pe_int pa_nil)) (blkOk_by (own := [("k", 2)]) (N := ["script", "deck", "k", "numbers", "dues", "number"]) (sc := defScope s_law) (by decide +kernel)) (fun _ _ _ _ _ => (pg_name (i := 2) sc_law.nd rfl (Or.inl rfl))) (fun _ _ _ _ _ => pts_nil) (fun _ _ _ _ _ => (pe_fn h__law_number (hr.mono (by decide)) (by rfl) (pa_cons (pv 1) (pa_cons (pe_op op_pow pe_int pe_int) pa_nil)))))
      (pss_cons (ps_set (i := 3) sc_law.nd rfl (Or.inl rfl) (pe_op op_cat (pv 3) (pe_lst (pa_cons (pe_op op_shl pe_int (pe_fn h__law_next (hr.mono (by decide)) (by rfl) (pa_cons (pv 1) (pa_cons pe_int pa_nil)))) (pa_cons (pe_fn h__law_taken (hr.mono (by decide)) (by rfl) (pa_cons pe_int (pa_cons (pe_fn h__law_next (hr.mono (by decide)) (by rfl) (pa_cons (pv 1) (pa_cons pe_int pa_nil))) pa_nil))) pa_nil)))))
      (pss_cons (ps_setLc (i := 4) (own := [("number", 5)]) (g := gName 5) (tt := tYes) rfl sc_law.nd rfl rfl (sw_true rfl rfl rfl (by decide +kernel)) (pi_list (pv 3)) (blkOk_by (own := [("number", 5)]) (N := ["script", "deck", "k", "numbers", "dues", "number"]) (sc := defScope s_law) (by decide +kernel)) (fun _ _ _ _ _ => (pg_name (i := 5) sc_law.nd rfl (Or.inl rfl))) (fun _ _ _ _ _ => pts_nil) (fun _ _ _ _ _ => (pe_fn h__law_due (hr.mono (by decide)) (by rfl) (pa_cons (pv 5) pa_nil))))
      (pss_cons (ps_for PassesOwn.never rfl (pi_list (pe_lst (pa_cons pe_int (pa_cons pe_int (pa_cons pe_int (pa_cons pe_int (pa_cons pe_int (pa_cons pe_int (pa_cons pe_int (pa_cons pe_int (pa_cons pe_int (pa_cons pe_int pa_nil)))))))))))) (pg_name (i := 2) sc_law.nd rfl (Or.inl rfl))
        (pss_one (ps_if (pt_not (pt_val (pe_fn h__law_are_wholes (hr.mono (by decide)) (by rfl) (pa_cons (pe_fn h_greatest_way (hr.mono (by decide)) (by rfl) (pa_cons (pe_ix (k_ixL K) (pv 3) (pv 2) (fun _ _ => rfl)) pa_nil)) (pa_cons (pe_ix (k_ixL K) (pv 4) (pv 2) (fun _ _ => rfl)) pa_nil)))))
          (pss_one (ps_ret pe_bl))
          pss_nil)))
      (pss_one (ps_ret (pe_and (pe_cmpR (k_eqD K rfl hr.units) (pe_fn h_greatest_way (hr.mono (by decide)) (by rfl) (pa_cons pe_int pa_nil)) (pe_tup (pa_cons pe_int (pa_cons pe_int pa_nil))) (nomark _)) (pe_and (pe_cmpR (k_eqD K rfl hr.units) (pe_fn h_greatest_way (hr.mono (by decide)) (by rfl) (pa_cons pe_int pa_nil)) (pe_tup (pa_cons pe_int (pa_cons pe_int pa_nil))) (nomark _)) (pe_one (pe_cmpR (k_eqD K rfl hr.units) (pe_fn h_greatest_way (hr.mono (by decide)) (by rfl) (pa_cons (pe_op op_pow pe_int pe_int) pa_nil)) (pe_tup (pa_cons pe_int (pa_cons pe_int pa_nil))) (nomark _)))))))))))), ?_⟩
    have e40 : (10 : Int) ^ Int.toNat 40 = ((10 ^ 40 : Nat) : Int) := rfl
    have c40 : CPow 10 40 := by unfold CPow; omega
    walk_at "w"
    refine ⟨a, ns, rfl, hS, fun d l H1 nd s1 d1 => ?_⟩
    walk_at "w"
    refine ⟨by decide, by decide, lc_rI (fun i acc H' => Kp d H1 H' ∧ Dk H' d l (42 * i) ∧ acc.length = i ∧ ∀ x ∈ acc, ∃ z : Nat, x = .int (z : Int) ∧ z < 2 ^ 133) (fun D hD => ⟨sm_kp (same_new hD), d1.same (same_new hD), rfl, fun _ h => by cases h⟩) ?_ ?_⟩
    · rintro i acc D H' hi hD hacc ⟨k, dk, hl, hall⟩ N0 N1 h0 h1
      have hi : i < 6 := hi
      walk_at "w"
      rw [e40]
      refine ⟨c40, use_number (Kp.refl _ _) dk (by omega) (by omega) (by decide) fun n H2 k2 _ d2 n0 n1 => ?_⟩
      refine h1 _ _ (k2 _ _ (d1.ne hD) hacc) (Nat.lt_of_le_of_lt (show acc.length ≤ 10 by omega) (by decide)) ⟨(k.trans k2).new hD, (d2.mono (by omega)).upd (d1.ne hD) (d1.neL hD), by simp [hl], fun x hx => ?_⟩
      rcases List.mem_append.mp hx with hx | hx
      · exact hall x hx
      · simp only [List.mem_cons, List.not_mem_nil, or_false] at hx
        subst hx
        obtain ⟨z, rfl⟩ := Int.eq_ofNat_of_zero_le n0
        have : (10 : Nat) ^ 40 < 2 ^ 133 := by decide
        exact ⟨z, rfl, by omega⟩
    · rintro D acc H2 hD hacc ⟨k, dk, hl, hall⟩
      have hl : acc.length = 6 := hl
      walk_at "w"
      refine use_next (Kp.refl _ _) dk (by decide) (by omega) (by omega) fun r1 H3 k3 K3 d3 a3 b3 => ?_
      walk_at "w"
      refine ⟨by unfold CPow; omega, ?_⟩
      refine use_next K3 d3 (by decide) (by omega) (by omega) fun r2 H4 k4 K4 d4 a4 b4 => ?_
      walk_at "w"
      obtain ⟨r1, rfl⟩ := Int.eq_ofNat_of_zero_le a3
      obtain ⟨r2, rfl⟩ := Int.eq_ofNat_of_zero_le a4
      refine ⟨3, r2, 2, rfl, by decide, by omega, by omega, ?_⟩
      walk_at "w"
      rw [shl_one]
      refine ⟨by show 2 ≤ sizeLine; decide, fun t ht => ?_⟩
      have hacc4 := K4 _ _ (d1.ne hD) hacc
      refine r_cat ((upd_ne (ne_of_none hacc4 ht)).trans hacc4) upd_same ?_ fun u hu => ?_
      · exact Nat.le_trans (show acc.length + 2 ≤ 10 by omega) (by decide)
      have hp1 : (2 : Nat) ^ r1 < 2 ^ 133 := Nat.pow_lt_pow_right (by decide) (by omega)
      have hp2 : (3 : Nat) ^ r2 < 2 ^ 133 := Nat.lt_of_le_of_lt (Nat.pow_le_pow_right (by decide) (show r2 ≤ 83 by omega)) (by decide)
      have hxs : ∀ x ∈ acc ++ [V.int ((2 ^ r1 : Nat) : Int), V.int ((3 ^ r2 : Nat) : Int)], ∃ z : Nat, x = .int (z : Int) ∧ z < 2 ^ 133 := by
        intro x hx
        rcases List.mem_append.mp hx with hx | hx
        · exact hall x hx
        · simp only [List.mem_cons, List.not_mem_nil, or_false] at hx
          rcases hx with rfl | rfl
          · exact ⟨_, rfl, hp1⟩
          · exact ⟨_, rfl, hp2⟩
      have hlx : (acc ++ [V.int ((2 ^ r1 : Nat) : Int), V.int ((3 ^ r2 : Nat) : Int)]).length = 8 := by simp [hl]
      generalize hX : acc ++ [V.int ((2 ^ r1 : Nat) : Int), V.int ((3 ^ r2 : Nat) : Int)] = xs at hxs hlx ⊢
      generalize hH5 : upd (upd H4 t (.lst [V.int ((2 ^ r1 : Nat) : Int), V.int ((3 ^ r2 : Nat) : Int)])) u (.lst xs) = H5
      have hU : H5 u = some (.lst xs) := by rw [← hH5]; exact upd_same
      walk_at "w"
      refine ⟨⟨_, SqL.of hU⟩, lc_lI (xs := xs) (fun i acc H' => H' u = some (.lst xs) ∧ acc.length = i ∧ DueAt H' xs acc) (fun D hD => ⟨(upd_ne (ne_of_none hU hD)).trans hU, rfl, fun j y h => by simp at h⟩) (fun i acc H' _ h => SqL.of h.1) ?_ ?_⟩
      · rintro i x ac D2 H' hx hD2 hacc2 ⟨hu', hl', hdue⟩ N0 N1 h0 h1
        obtain ⟨z, rfl, hz⟩ := hxs x (List.mem_of_getElem? hx)
        walk_at "w"
        refine ⟨z, rfl, by omega, fun p H6 hp s6 h6 => ?_⟩
        have nDu : D2 ≠ u := fun e => by
          subst e
          rw [hU] at hD2
          cases hD2
        have hi8 : i < 8 := by
          have := (List.getElem?_eq_some_iff.mp hx).1
          omega
        refine h1 _ _ (s6 _ _ hacc2) (Nat.lt_of_le_of_lt (show ac.length ≤ 10 by omega) (by decide)) ⟨(upd_ne nDu.symm).trans (s6 _ _ hu'), by simp [hl'], fun j y hy => ?_⟩
        rcases Nat.lt_or_ge j ac.length with c | c
        · rw [List.getElem?_append_left c] at hy
          obtain ⟨p', z', e1, e2, e3⟩ := hdue j y hy
          exact ⟨p', z', e1, e2, (upd_ne (ne_of (s6 _ _ e3) (s6 _ _ hacc2) (by intro h; cases h))).trans (s6 _ _ e3)⟩
        · rw [List.getElem?_append_right c] at hy
          have hj : j - ac.length = 0 := by
            have := (List.getElem?_eq_some_iff.mp hy).1
            simp at this
            omega
          rw [hj] at hy
          simp at hy
          subst hy
          have : j = i := by omega
          subst this
          exact ⟨p, z, rfl, hx, (upd_ne (ne_of h6 (s6 _ _ hacc2) (by intro h; cases h))).trans h6⟩
      · rintro D2 ac H6 hD2 hac ⟨hu', hl', hdue⟩
        walk_at "w"
        refine ⟨by show 10 ≤ sizeLine; decide, fun t2 ht2 => ?_⟩
        have s7 : ∀ o, Same H6 (upd H6 t2 o) := fun o => same_new ht2
        refine ⟨⟨_, SqL.of upd_same⟩, for_l (xs := [.int 0, .int 1, .int 2, .int 3, .int 4, .int 5, .int 6, .int 7, .int 0, .int 6]) (fun i σ H' => ∃ v2 v5, σ = [some (.ref a), some (.ref d), v2, some (.ref u), some (.ref D2), v5] ∧ Same (upd H6 t2 (.lst [.int 0, .int 1, .int 2, .int 3, .int 4, .int 5, .int 6, .int 7, .int 0, .int 6])) H') ⟨_, _, rfl, Same.refl _⟩ ?_ ?_ ?_⟩
        · rintro i σ H' _ ⟨v2, v5, rfl, s8⟩
          exact SqL.of (s8 _ _ upd_same)
        · rintro i x σ H' hx ⟨v2, v5, rfl, s8⟩ N hN
          obtain ⟨j, rfl, hj⟩ : ∃ j : Nat, x = .int (j : Int) ∧ j < 8 := by
            have hm := List.mem_of_getElem? hx
            simp only [List.mem_cons, List.not_mem_nil, or_false] at hm
            rcases hm with rfl | rfl | rfl | rfl | rfl | rfl | rfl | rfl | rfl | rfl
            · exact ⟨0, rfl, by decide⟩
            · exact ⟨1, rfl, by decide⟩
            · exact ⟨2, rfl, by decide⟩
            · exact ⟨3, rfl, by decide⟩
            · exact ⟨4, rfl, by decide⟩
            · exact ⟨5, rfl, by decide⟩
            · exact ⟨6, rfl, by decide⟩
            · exact ⟨7, rfl, by decide⟩
            · exact ⟨0, rfl, by decide⟩
            · exact ⟨6, rfl, by decide⟩
          have hjx : ac[j]? = some (ac[j]'(by omega)) := List.getElem?_eq_getElem _
          obtain ⟨p, z, e1, e2, e3⟩ := hdue j _ hjx
          rw [e1] at hjx
          obtain ⟨z', ez, hz⟩ := hxs _ (List.mem_of_getElem? e2)
          cases ez
          walk_at "w"
          refine r_ixL (SqL.of (s8 _ _ (s7 _ _ _ hu'))) (atI_nat e2) ?_
          refine ⟨z, 133, rfl, hz, by decide, fun w H8 s10 hw => ?_⟩
          refine r_ixL (SqL.of (s10 _ _ (s8 _ _ (s7 _ _ _ hac)))) (atI_nat hjx) ?_
          refine ⟨w, p, [((greatestN z).1 : Int), ((greatestN z).2 : Int)], [((greatestN z).1 : Int), ((greatestN z).2 : Int)], rfl, hw, SqT.of (s10 _ _ (s8 _ _ (s7 _ _ _ e3))), by simp, fun H9 s11 => ?_⟩
          walk_at "w"
          rw [if_neg (by simp)]
          exact hN _ _ ⟨_, _, rfl, (s8.trans s10).trans s11⟩
        · rintro σ H' ⟨v2, v5, rfl, s8⟩
          walk_at "w"
          refine ⟨0, 1, rfl, by decide, by decide, fun w H8 s10 hw => ⟨by show 2 ≤ sizeLine; decide, fun z hz => ?_⟩⟩
          refine r_eqT (ns := [0, 1]) (ms := [0, 1]) (same_seqT (same_new hz) hw) (SqT.of upd_same) ?_
          walk_at "w"
          refine ⟨1, 1, rfl, by decide, by decide, fun w2 H9 s12 hw2 => ⟨by show 2 ≤ sizeLine; decide, fun z2 hz2 => ?_⟩⟩
          refine r_eqT (ns := [1, 2]) (ms := [1, 2]) (same_seqT (same_new hz2) hw2) (SqT.of upd_same) ?_
          walk_at "w"
          rw [e40]
          refine ⟨c40, 10 ^ 40, 133, rfl, by decide, by decide, fun w3 H10 s13 hw3 => ⟨by show 2 ≤ sizeLine; decide, fun z3 hz3 => ?_⟩⟩
          rw [greatest_ten_forty] at hw3
          refine r_eqT (ns := [10, 40]) (ms := [10, 40]) (same_seqT (same_new hz3) hw3) (SqT.of upd_same) ?_
          exact q _
end
theorem all_mk {l : PySem.W.OpenLaw} {w : World} {K : PySem.W.Frag} {h : Heap} {mg : PySem.Str → Option Value} {fa : Addr} (X : K.In h) (G : h.Ns mainGlobals mg) (hfa : mg "law" = some (.ref fa))
    {f0 : Addr} {od0 an0 : Option Addr} {sl0 : Array (Option Value)} {oc0 kV0 dc0 pm0 cd0 ct0 : Value}
    (a0 : PySem.W.nsIn K mainGlobals "taken" = some (some (.ref f0))) (l0 : K.lookup f0 = some ⟨oc0, od0, .func (PySem.W.fnOf "taken" "taken" (defArgs s_taken) (defBody s_taken) (defScope s_taken) .none kV0 dc0 pm0 an0 cd0 ct0), sl0⟩) (c0 : PySem.W.codeIn K cd0 "taken" = true) (k0 : PySem.W.keepIn K (.ref f0) = true)
    {f1 : Addr} {od1 an1 : Option Addr} {sl1 : Array (Option Value)} {oc1 kV1 dc1 pm1 cd1 ct1 : Value}
    (a1 : PySem.W.nsIn K mainGlobals "root_of" = some (some (.ref f1))) (l1 : K.lookup f1 = some ⟨oc1, od1, .func (PySem.W.fnOf "root_of" "root_of" (defArgs s_root_of) (defBody s_root_of) (defScope s_root_of) .none kV1 dc1 pm1 an1 cd1 ct1), sl1⟩) (c1 : PySem.W.codeIn K cd1 "root_of" = true) (k1 : PySem.W.keepIn K (.ref f1) = true)
    {f2 : Addr} {od2 an2 : Option Addr} {sl2 : Array (Option Value)} {oc2 kV2 dc2 pm2 cd2 ct2 : Value}
    (a2 : PySem.W.nsIn K mainGlobals "ways_of" = some (some (.ref f2))) (l2 : K.lookup f2 = some ⟨oc2, od2, .func (PySem.W.fnOf "ways_of" "ways_of" (defArgs s_ways_of) (defBody s_ways_of) (defScope s_ways_of) .none kV2 dc2 pm2 an2 cd2 ct2), sl2⟩) (c2 : PySem.W.codeIn K cd2 "ways_of" = true) (k2 : PySem.W.keepIn K (.ref f2) = true)
    {f3 : Addr} {od3 an3 : Option Addr} {sl3 : Array (Option Value)} {oc3 kV3 dc3 pm3 cd3 ct3 : Value}
    (a3 : PySem.W.nsIn K mainGlobals "greatest_way" = some (some (.ref f3))) (l3 : K.lookup f3 = some ⟨oc3, od3, .func (PySem.W.fnOf "greatest_way" "greatest_way" (defArgs s_greatest_way) (defBody s_greatest_way) (defScope s_greatest_way) .none kV3 dc3 pm3 an3 cd3 ct3), sl3⟩) (c3 : PySem.W.codeIn K cd3 "greatest_way" = true) (k3 : PySem.W.keepIn K (.ref f3) = true)
    {f4 : Addr} {od4 an4 : Option Addr} {sl4 : Array (Option Value)} {oc4 kV4 dc4 pm4 cd4 ct4 : Value}
    (a4 : PySem.W.nsIn K mainGlobals "_law_mix" = some (some (.ref f4))) (l4 : K.lookup f4 = some ⟨oc4, od4, .func (PySem.W.fnOf "_law_mix" "_law_mix" (defArgs s__law_mix) (defBody s__law_mix) (defScope s__law_mix) .none kV4 dc4 pm4 an4 cd4 ct4), sl4⟩) (c4 : PySem.W.codeIn K cd4 "_law_mix" = true) (k4 : PySem.W.keepIn K (.ref f4) = true)
    {f5 : Addr} {od5 an5 : Option Addr} {sl5 : Array (Option Value)} {oc5 kV5 dc5 pm5 cd5 ct5 : Value}
    (a5 : PySem.W.nsIn K mainGlobals "_law_deck" = some (some (.ref f5))) (l5 : K.lookup f5 = some ⟨oc5, od5, .func (PySem.W.fnOf "_law_deck" "_law_deck" (defArgs s__law_deck) (defBody s__law_deck) (defScope s__law_deck) .none kV5 dc5 pm5 an5 cd5 ct5), sl5⟩) (c5 : PySem.W.codeIn K cd5 "_law_deck" = true) (k5 : PySem.W.keepIn K (.ref f5) = true)
    {f6 : Addr} {od6 an6 : Option Addr} {sl6 : Array (Option Value)} {oc6 kV6 dc6 pm6 cd6 ct6 : Value}
    (a6 : PySem.W.nsIn K mainGlobals "_law_next" = some (some (.ref f6))) (l6 : K.lookup f6 = some ⟨oc6, od6, .func (PySem.W.fnOf "_law_next" "_law_next" (defArgs s__law_next) (defBody s__law_next) (defScope s__law_next) .none kV6 dc6 pm6 an6 cd6 ct6), sl6⟩) (c6 : PySem.W.codeIn K cd6 "_law_next" = true) (k6 : PySem.W.keepIn K (.ref f6) = true)
    {f7 : Addr} {od7 an7 : Option Addr} {sl7 : Array (Option Value)} {oc7 kV7 dc7 pm7 cd7 ct7 : Value}
    (a7 : PySem.W.nsIn K mainGlobals "_law_great" = some (some (.ref f7))) (l7 : K.lookup f7 = some ⟨oc7, od7, .func (PySem.W.fnOf "_law_great" "_law_great" (defArgs s__law_great) (defBody s__law_great) (defScope s__law_great) .none kV7 dc7 pm7 an7 cd7 ct7), sl7⟩) (c7 : PySem.W.codeIn K cd7 "_law_great" = true) (k7 : PySem.W.keepIn K (.ref f7) = true)
    {f8 : Addr} {od8 an8 : Option Addr} {sl8 : Array (Option Value)} {oc8 kV8 dc8 pm8 cd8 ct8 : Value}
    (a8 : PySem.W.nsIn K mainGlobals "_law_a_power" = some (some (.ref f8))) (l8 : K.lookup f8 = some ⟨oc8, od8, .func (PySem.W.fnOf "_law_a_power" "_law_a_power" (defArgs s__law_a_power) (defBody s__law_a_power) (defScope s__law_a_power) .none kV8 dc8 pm8 an8 cd8 ct8), sl8⟩) (c8 : PySem.W.codeIn K cd8 "_law_a_power" = true) (k8 : PySem.W.keepIn K (.ref f8) = true)
    {f9 : Addr} {od9 an9 : Option Addr} {sl9 : Array (Option Value)} {oc9 kV9 dc9 pm9 cd9 ct9 : Value}
    (a9 : PySem.W.nsIn K mainGlobals "_law_number" = some (some (.ref f9))) (l9 : K.lookup f9 = some ⟨oc9, od9, .func (PySem.W.fnOf "_law_number" "_law_number" (defArgs s__law_number) (defBody s__law_number) (defScope s__law_number) .none kV9 dc9 pm9 an9 cd9 ct9), sl9⟩) (c9 : PySem.W.codeIn K cd9 "_law_number" = true) (k9 : PySem.W.keepIn K (.ref f9) = true)
    {f10 : Addr} {od10 an10 : Option Addr} {sl10 : Array (Option Value)} {oc10 kV10 dc10 pm10 cd10 ct10 : Value}
    (a10 : PySem.W.nsIn K mainGlobals "_law_taken" = some (some (.ref f10))) (l10 : K.lookup f10 = some ⟨oc10, od10, .func (PySem.W.fnOf "_law_taken" "_law_taken" (defArgs s__law_taken) (defBody s__law_taken) (defScope s__law_taken) .none kV10 dc10 pm10 an10 cd10 ct10), sl10⟩) (c10 : PySem.W.codeIn K cd10 "_law_taken" = true) (k10 : PySem.W.keepIn K (.ref f10) = true)
    {f11 : Addr} {od11 an11 : Option Addr} {sl11 : Array (Option Value)} {oc11 kV11 dc11 pm11 cd11 ct11 : Value}
    (a11 : PySem.W.nsIn K mainGlobals "_law_root" = some (some (.ref f11))) (l11 : K.lookup f11 = some ⟨oc11, od11, .func (PySem.W.fnOf "_law_root" "_law_root" (defArgs s__law_root) (defBody s__law_root) (defScope s__law_root) .none kV11 dc11 pm11 an11 cd11 ct11), sl11⟩) (c11 : PySem.W.codeIn K cd11 "_law_root" = true) (k11 : PySem.W.keepIn K (.ref f11) = true)
    {f12 : Addr} {od12 an12 : Option Addr} {sl12 : Array (Option Value)} {oc12 kV12 dc12 pm12 cd12 ct12 : Value}
    (a12 : PySem.W.nsIn K mainGlobals "_law_are_wholes" = some (some (.ref f12))) (l12 : K.lookup f12 = some ⟨oc12, od12, .func (PySem.W.fnOf "_law_are_wholes" "_law_are_wholes" (defArgs s__law_are_wholes) (defBody s__law_are_wholes) (defScope s__law_are_wholes) .none kV12 dc12 pm12 an12 cd12 ct12), sl12⟩) (c12 : PySem.W.codeIn K cd12 "_law_are_wholes" = true) (k12 : PySem.W.keepIn K (.ref f12) = true)
    {f13 : Addr} {od13 an13 : Option Addr} {sl13 : Array (Option Value)} {oc13 kV13 dc13 pm13 cd13 ct13 : Value}
    (a13 : PySem.W.nsIn K mainGlobals "_law_due" = some (some (.ref f13))) (l13 : K.lookup f13 = some ⟨oc13, od13, .func (PySem.W.fnOf "_law_due" "_law_due" (defArgs s__law_due) (defBody s__law_due) (defScope s__law_due) .none kV13 dc13 pm13 an13 cd13 ct13), sl13⟩) (c13 : PySem.W.codeIn K cd13 "_law_due" = true) (k13 : PySem.W.keepIn K (.ref f13) = true)
    {f14 : Addr} {od14 an14 : Option Addr} {sl14 : Array (Option Value)} {oc14 kV14 dc14 pm14 cd14 ct14 : Value}
    (a14 : PySem.W.nsIn K mainGlobals "law" = some (some (.ref f14))) (l14 : K.lookup f14 = some ⟨oc14, od14, .func (PySem.W.fnOf "law" "law" (defArgs s_law) (defBody s_law) (defScope s_law) .none kV14 dc14 pm14 an14 cd14 ct14), sl14⟩) (c14 : PySem.W.codeIn K cd14 "law" = true) (k14 : PySem.W.keepIn K (.ref f14) = true)
    (z_range : PySem.W.nsIn K mainGlobals "range" = some none)
    (z_len : PySem.W.nsIn K mainGlobals "len" = some none)
    (z_sum : PySem.W.nsIn K mainGlobals "sum" = some none)
    (z_min : PySem.W.nsIn K mainGlobals "min" = some none)
    (z_max : PySem.W.nsIn K mainGlobals "max" = some none)
    (z_abs : PySem.W.nsIn K mainGlobals "abs" = some none)
    (z_sorted : PySem.W.nsIn K mainGlobals "sorted" = some none)
    (z_isinstance : PySem.W.nsIn K mainGlobals "isinstance" = some none)
    (z_enumerate : PySem.W.nsIn K mainGlobals "enumerate" = some none)
    (z_zip : PySem.W.nsIn K mainGlobals "zip" = some none)
    (z_int : PySem.W.nsIn K mainGlobals "int" = some none)
    (z_bool : PySem.W.nsIn K mainGlobals "bool" = some none)
    (z_str : PySem.W.nsIn K mainGlobals "str" = some none)
    (z_list : PySem.W.nsIn K mainGlobals "list" = some none)
    (z_tuple : PySem.W.nsIn K mainGlobals "tuple" = some none)
    (z_dict : PySem.W.nsIn K mainGlobals "dict" = some none)
    (z_set : PySem.W.nsIn K mainGlobals "set" = some none)
    : ∃ fd : FuncData, (∀ (s : Shared) (v : Value), BindsTo s fd ⟨[v], []⟩ [("script", v)]) ∧ ∀ base : Heap, K.In base → base.Ns mainGlobals mg → FnOk l.prog w K mg base CX0 6 fa fd ["script"] (sp_law K) := by
  have e := hfa.symm.trans (PySem.W.mg_of X G a14)
  cases e
  have B : Bt mg := ⟨PySem.W.mg_none_of X G z_range, PySem.W.mg_none_of X G z_len, PySem.W.mg_none_of X G z_sum, PySem.W.mg_none_of X G z_min, PySem.W.mg_none_of X G z_max, PySem.W.mg_none_of X G z_abs, PySem.W.mg_none_of X G z_sorted, PySem.W.mg_none_of X G z_isinstance, PySem.W.mg_none_of X G z_enumerate, PySem.W.mg_none_of X G z_zip, PySem.W.mg_none_of X G z_int, PySem.W.mg_none_of X G z_bool, PySem.W.mg_none_of X G z_str, PySem.W.mg_none_of X G z_list, PySem.W.mg_none_of X G z_tuple, PySem.W.mg_none_of X G z_dict, PySem.W.mg_none_of X G z_set⟩
  refine ⟨PySem.W.fnOf "law" "law" (defArgs s_law) (defBody s_law) (defScope s_law) .none kV14 dc14 pm14 an14 cd14 ct14, fun s v => .of_eq rfl, fun base _ _ => ?_⟩
  have F0 := fun_mk (st := s_taken) l0 c0 k0
  have h_taken : Fn l.prog w K mg base CX0 1 "taken" ["base", "exponent"] (sp_taken K) := ⟨_, _, PySem.W.mg_of X G a0, k0, bi_taken F0, ok_taken F0 B⟩
  have F1 := fun_mk (st := s_root_of) l1 c1 k1
  have h_root_of : Fn l.prog w K mg base CX0 2 "root_of" ["number", "exponent"] (sp_root_of K) := ⟨_, _, PySem.W.mg_of X G a1, k1, bi_root_of F1, ok_root_of F1 B h_taken⟩
  have F2 := fun_mk (st := s_ways_of) l2 c2 k2
  have h_ways_of : Fn l.prog w K mg base CX0 3 "ways_of" ["number"] (sp_ways_of K) := ⟨_, _, PySem.W.mg_of X G a2, k2, bi_ways_of F2, ok_ways_of F2 B h_root_of⟩
  have F3 := fun_mk (st := s_greatest_way) l3 c3 k3
  have h_greatest_way : Fn l.prog w K mg base CX0 4 "greatest_way" ["number"] (sp_greatest_way K) := ⟨_, _, PySem.W.mg_of X G a3, k3, bi_greatest_way F3, ok_greatest_way F3 B h_ways_of⟩
  have F4 := fun_mk (st := s__law_mix) l4 c4 k4
  have h__law_mix : Fn l.prog w K mg base CX0 1 "_law_mix" ["cell", "k"] (sp__law_mix K) := ⟨_, _, PySem.W.mg_of X G a4, k4, bi__law_mix F4, ok__law_mix F4 B⟩
  have F5 := fun_mk (st := s__law_deck) l5 c5 k5
  have h__law_deck : Fn l.prog w K mg base CX0 1 "_law_deck" ["script"] (sp__law_deck K) := ⟨_, _, PySem.W.mg_of X G a5, k5, bi__law_deck F5, ok__law_deck F5 B⟩
  have F6 := fun_mk (st := s__law_next) l6 c6 k6
  have h__law_next : Fn l.prog w K mg base CX0 2 "_law_next" ["deck", "many"] (sp__law_next K) := ⟨_, _, PySem.W.mg_of X G a6, k6, bi__law_next F6, ok__law_next F6 B h__law_mix⟩
  have F7 := fun_mk (st := s__law_great) l7 c7 k7
  have h__law_great : Fn l.prog w K mg base CX0 3 "_law_great" ["deck", "most"] (sp__law_great K) := ⟨_, _, PySem.W.mg_of X G a7, k7, bi__law_great F7, ok__law_great F7 B h__law_next⟩
  have F8 := fun_mk (st := s__law_a_power) l8 c8 k8
  have h__law_a_power : Fn l.prog w K mg base CX0 4 "_law_a_power" ["deck", "most"] (sp__law_a_power K) := ⟨_, _, PySem.W.mg_of X G a8, k8, bi__law_a_power F8, ok__law_a_power F8 B h__law_next h__law_great⟩
  have F9 := fun_mk (st := s__law_number) l9 c9 k9
  have h__law_number : Fn l.prog w K mg base CX0 5 "_law_number" ["deck", "most"] (sp__law_number K) := ⟨_, _, PySem.W.mg_of X G a9, k9, bi__law_number F9, ok__law_number F9 B h__law_next h__law_great h__law_a_power⟩
  have F10 := fun_mk (st := s__law_taken) l10 c10 k10
  have h__law_taken : Fn l.prog w K mg base CX0 1 "_law_taken" ["base", "exponent"] (sp__law_taken K) := ⟨_, _, PySem.W.mg_of X G a10, k10, bi__law_taken F10, ok__law_taken F10 B⟩
  have F11 := fun_mk (st := s__law_root) l11 c11 k11
  have h__law_root : Fn l.prog w K mg base CX0 1 "_law_root" ["number", "exponent"] (sp__law_root K) := ⟨_, _, PySem.W.mg_of X G a11, k11, bi__law_root F11, ok__law_root F11 B⟩
  have F12 := fun_mk (st := s__law_are_wholes) l12 c12 k12
  have h__law_are_wholes : Fn l.prog w K mg base CX0 1 "_law_are_wholes" ["found", "due"] (sp__law_are_wholes K) := ⟨_, _, PySem.W.mg_of X G a12, k12, bi__law_are_wholes F12, ok__law_are_wholes F12 B⟩
  have F13 := fun_mk (st := s__law_due) l13 c13 k13
  have h__law_due : Fn l.prog w K mg base CX0 2 "_law_due" ["number"] (sp__law_due K) := ⟨_, _, PySem.W.mg_of X G a13, k13, bi__law_due F13, ok__law_due F13 B h__law_root h__law_taken⟩
  exact ok_law (fun_mk (st := s_law) l14 c14 k14) B h__law_deck h__law_number h__law_due h__law_taken h__law_are_wholes h_greatest_way h__law_next
end Pn
open PySem PySem.W PyProof.Rows
set_option maxHeartbeats 0 in
theorem PySem.Challenge.cw_powernumbers_k06_greatest_ways_holds : PySem.Challenge.rw_powernumbers_k06_greatest_ways.Holds := by
  w_on; o_law; k_head; (case hw => w_witness2)
  k_fill
  refine L2.walk_of (l := PySem.Challenge.rw_powernumbers_k06_greatest_ways) (n := 63) (k := 6) (x := "script") (CX := fun _ => L2.CX0) (sp := fun w => Pn.sp_law _) rfl (by decide) rfl ⟨rfl, by decide, by decide⟩ (fun w h Y => PySem.W.kIn_of Y) ?F (fun _ _ a ns hl _ hS => ⟨a, ns, rfl, hS, hl, fun _ => rfl⟩) (fun _ _ _ _ _ h => h)
  case F =>
    intro w mg fa h KX G hmg
    refine' Pn.all_mk KX G hmg ?a0 ?l0 ?c0 ?k0 ?a1 ?l1 ?c1 ?k1 ?a2 ?l2 ?c2 ?k2 ?a3 ?l3 ?c3 ?k3 ?a4 ?l4 ?c4 ?k4 ?a5 ?l5 ?c5 ?k5 ?a6 ?l6 ?c6 ?k6 ?a7 ?l7 ?c7 ?k7 ?a8 ?l8 ?c8 ?k8 ?a9 ?l9 ?c9 ?k9 ?a10 ?l10 ?c10 ?k10 ?a11 ?l11 ?c11 ?k11 ?a12 ?l12 ?c12 ?k12 ?a13 ?l13 ?c13 ?k13 ?a14 ?l14 ?c14 ?k14 ?z_range ?z_len ?z_sum ?z_min ?z_max ?z_abs ?z_sorted ?z_isinstance ?z_enumerate ?z_zip ?z_int ?z_bool ?z_str ?z_list ?z_tuple ?z_dict ?z_set
    (case a0 => k_is)
    (case l0 => k_is)
    (case c0 => k_is)
    (case k0 => k_is)
    (case a1 => k_is)
    (case l1 => k_is)
    (case c1 => k_is)
    (case k1 => k_is)
    (case a2 => k_is)
    (case l2 => k_is)
    (case c2 => k_is)
    (case k2 => k_is)
    (case a3 => k_is)
    (case l3 => k_is)
    (case c3 => k_is)
    (case k3 => k_is)
    (case a4 => k_is)
    (case l4 => k_is)
    (case c4 => k_is)
    (case k4 => k_is)
    (case a5 => k_is)
    (case l5 => k_is)
    (case c5 => k_is)
    (case k5 => k_is)
    (case a6 => k_is)
    (case l6 => k_is)
    (case c6 => k_is)
    (case k6 => k_is)
    (case a7 => k_is)
    (case l7 => k_is)
    (case c7 => k_is)
    (case k7 => k_is)
    (case a8 => k_is)
    (case l8 => k_is)
    (case c8 => k_is)
    (case k8 => k_is)
    (case a9 => k_is)
    (case l9 => k_is)
    (case c9 => k_is)
    (case k9 => k_is)
    (case a10 => k_is)
    (case l10 => k_is)
    (case c10 => k_is)
    (case k10 => k_is)
    (case a11 => k_is)
    (case l11 => k_is)
    (case c11 => k_is)
    (case k11 => k_is)
    (case a12 => k_is)
    (case l12 => k_is)
    (case c12 => k_is)
    (case k12 => k_is)
    (case a13 => k_is)
    (case l13 => k_is)
    (case c13 => k_is)
    (case k13 => k_is)
    (case a14 => k_is)
    (case l14 => k_is)
    (case c14 => k_is)
    (case k14 => k_is)
    (case z_range => k_is)
    (case z_len => k_is)
    (case z_sum => k_is)
    (case z_min => k_is)
    (case z_max => k_is)
    (case z_abs => k_is)
    (case z_sorted => k_is)
    (case z_isinstance => k_is)
    (case z_enumerate => k_is)
    (case z_zip => k_is)
    (case z_int => k_is)
    (case z_bool => k_is)
    (case z_str => k_is)
    (case z_list => k_is)
    (case z_tuple => k_is)
    (case z_dict => k_is)
    (case z_set => k_is)
