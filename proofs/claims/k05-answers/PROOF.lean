import PyProof.Rows.All
import Wide.All
import OpenK.AllK
import Wide.FinOn
import HandS.ForMost
import HandS.ForExc
import HandS.IsInst
import HandS.SortInts
import HandS.ListItems
import HandS.EndBits
import HandS.Wide
import HandS.WideBits
import HandS.Conv
import HandS.Style
import HandS.Deep
import HandS.More
import KE.SortKeyed
import KE.DataCmp
import PyProof.MaxThree
import HandS.CallRecv
import HandS.DictComp
import PySem.Challenge.RW_twindice_k05_answers_by_hand
set_option Elab.async false
set_option linter.all false
set_option maxRecDepth 100000
set_option maxHeartbeats 4000000
/-! Twindice: the toolkit (heaps, readings step by step, calls, loops by what is done) -/
namespace Tw
open PySem PySem.Spec PyProof.Rows L2
abbrev St := L2.St
/-! ### heaps -/
section
variable {H H' H0 : Hp} {p a b : Addr} {o x : HO} {K : PySem.W.Frag}
theorem same_new (h : H p = none) : Same H (upd H p o) := fun b x e => (upd_ne (ne_of_none e h)).trans e
theorem keep_new (h : H p = none) (e : H a = some x) : upd H p o a = some x := same_new h a x e
theorem keep_ne (n : a ≠ p) (e : H a = some x) : upd H p o a = some x := (upd_ne n).trans e
theorem same_mut (s : Same H0 H) (h : H0 p = none) : Same H0 (upd H p o) := fun b x e => (upd_ne (ne_of_none e h)).trans (s b x e)
theorem ne_fresh (h' : H b = none) (h : H a = some o) : a ≠ b := ne_of_none h h'
theorem same_rd (s : Same H H') (h : Rd H a o) : Rd H' a o := h.imp (s a _) fun ⟨u, q⟩ => ⟨u, s a _ q⟩
theorem same_l {xs : List V} (s : Same H H') (h : SqL K H a xs) : SqL K H' a xs := h.imp (same_rd s) id
theorem same_t {xs : List V} (s : Same H H') (h : SqT K H a xs) : SqT K H' a xs := h.imp (same_rd s) id
end
mutual
theorem same_dp {K : PySem.W.Frag} {H H' : Hp} (s : Same H H') : ∀ (d : PyData) (v : V), Dp K H v d → Dp K H' v d
  | .none, _, .non => .non
  | .bool b, _, .bl _ => .bl b
  | .int i, _, .int _ => .int i
  | .str x, _, .str _ => .str x
  | .list ds, _, .lst h hs => .lst (same_l s h) (same_dps s ds _ hs)
  | .tuple ds, _, .tup h hs => .tup (same_t s h) (same_dps s ds _ hs)
theorem same_dps {K : PySem.W.Frag} {H H' : Hp} (s : Same H H') : ∀ (ds : List PyData) (vs : List V), DpAll K H vs ds → DpAll K H' vs ds
  | [], _, .nil => .nil
  | d :: ds, _, .cons h hs => .cons (same_dp s d _ h) (same_dps s ds _ hs)
end
theorem dps_ints {K : PySem.W.Frag} {H : Hp} : ∀ ns : List Int, DpAll K H (ns.map V.int) (ns.map PyData.int)
  | [] => .nil
  | n :: r => .cons (.int n) (dps_ints r)
/-- a list of ints, as data -/
def dI (ns : List Int) : PyData := .list (ns.map PyData.int)
theorem dp_ints {K : PySem.W.Frag} {H : Hp} {a : Addr} {ns : List Int} (h : SqL K H a (ns.map V.int)) : Dp K H (.ref a) (dI ns) := .lst h (dps_ints ns)
/-! ### readings, one step -/
section
variable {D : Ends} {σ : St} {H : Hp} {Q : VK} {v : V}
theorem rd_seq {t u : TS} (h : t { D with nx := u D } σ H) : tSeq t u D σ H := h
theorem rd_next (h : D.nx σ H) : tNext D σ H := h
theorem rd_asg {te : TE} {g : TG} (h : te σ H fun x H1 => g x σ H1 D.nx) : tAsg te g D σ H := h
theorem rd_drop {te : TE} (h : te σ H fun _ H1 => D.nx σ H1) : tDrop te D σ H := h
theorem rd_ret {te : TE} (h : te σ H D.rt) : tRet te D σ H := h
theorem rd_retN (h : D.rt .non H) : tRetN D σ H := h
theorem rd_if {c : TT} {t u : TS} (h : c σ H fun b H1 => if b = true then t D σ H1 else u D σ H1) : tIfS c t u D σ H := h
theorem rd_par {i j : Nat} {ta : TA} (h : ta σ H fun vs H1 => ∃ v w, vs = [v, w] ∧ D.nx ((σ.set i (some v)).set j (some w)) H1) : tPar i j ta D σ H := h
theorem rd_var {i : Nat} (e : σ[i]? = some (some v)) (h : Q v H) : tVar i σ H Q := ⟨v, e, h⟩
theorem rd_c (h : Q v H) : tC v σ H Q := h
theorem rd_op {r : R2} {ta tb : TE} (h : ta σ H fun x H1 => tb σ H1 fun y H2 => r x y H2 Q) : tOp r ta tb σ H Q := h
theorem rd_un {r : V → Hp → VK → Prop} {ta : TE} (h : ta σ H fun x H1 => r x H1 Q) : tUn r ta σ H Q := h
theorem rd_I0 {g : Int → Int → V} {i j : Int} (h : Q (g i j) H) : rI0 g (.int i) (.int j) H Q := ⟨i, j, rfl, rfl, h⟩
theorem rd_I {C : Int → Int → Prop} {g : Int → Int → V} {i j : Int} (c : C i j) (h : Q (g i j) H) : rI C g (.int i) (.int j) H Q := ⟨i, j, rfl, rfl, c, h⟩
theorem rd_U {g : Int → V} {i : Int} (h : Q (g i) H) : rU g (.int i) H Q := ⟨i, rfl, h⟩
theorem rd_test {te : TE} {R : Bool → Hp → Prop} (h : te σ H fun x H1 => ∃ k, x = .bl k ∧ R k H1) : tTest te σ H R := h
theorem rd_tB {te : TE} {R : Bool → Hp → Prop} (h : te σ H fun x H1 => ∃ k, x = .bl k ∧ R k H1) : tB te σ H R := h
theorem rd_bl {b : Bool} {R : Bool → Prop} (h : R b) : ∃ k, V.bl b = .bl k ∧ R k := ⟨b, rfl, h⟩
theorem rd_not {t : TT} {R : Bool → Hp → Prop} (h : t σ H fun c H1 => R (!c) H1) : tNot t σ H R := h
theorem rd_and {t u : TT} {R : Bool → Hp → Prop} (h : t σ H fun c H1 => if c = true then u σ H1 R else R false H1) : tAnd t u σ H R := h
theorem rd_or {t u : TT} {R : Bool → Hp → Prop} (h : t σ H fun c H1 => if c = true then R true H1 else u σ H1 R) : tOr t u σ H R := h
theorem rd_andV {ta tb : TE} (h : ta σ H fun x H1 => ∃ c, x = .bl c ∧ if c = true then tb σ H1 Q else Q (.bl false) H1) : tAndV ta tb σ H Q := h
theorem rd_orV {ta tb : TE} (h : ta σ H fun x H1 => ∃ c, x = .bl c ∧ if c = true then Q (.bl true) H1 else tb σ H1 Q) : tOrV ta tb σ H Q := h
theorem rd_notV {ta : TE} (h : ta σ H fun x H1 => ∃ c, x = .bl c ∧ Q (.bl (!c)) H1) : tNotV ta σ H Q := h
theorem rd_tIf {t : TT} {ta tb : TE} (h : t σ H fun c H1 => if c = true then ta σ H1 Q else tb σ H1 Q) : tIf t ta tb σ H Q := h
theorem rd_cb {r : List V → Hp → VK → Prop} {t : TA} (h : t σ H fun vs H1 => r vs H1 Q) : tCB r t σ H Q := h
theorem rd_cons {ta : TE} {tr : TA} {R : List V → Hp → Prop} (h : ta σ H fun x H1 => tr σ H1 fun xs H2 => R (x :: xs) H2) : tCons ta tr σ H R := h
theorem rd_nil {R : List V → Hp → Prop} (h : R [] H) : tNil σ H R := h
theorem rd_isi {K : PySem.W.Frag} {x c : V} {t u : Value} {b : Bool} (k : ClsV c u) (ty : TyX K H x t) (e : PySem.W.kitOne K t u = some b) (h : Q (.bl b) H) : rIsi K [x, c] H Q := ⟨x, c, t, u, b, rfl, k, ty, e, h⟩
theorem rd_all {K : PySem.W.Frag} {a : Addr} {bs : List Bool} (s : SqL K H a (bs.map V.bl)) (h : Q (.bl (bs.all id)) H) : rAll K [.ref a] H Q := ⟨a, bs, rfl, s, h⟩
theorem rd_any {K : PySem.W.Frag} {a : Addr} {bs : List Bool} (s : SqL K H a (bs.map V.bl)) (h : Q (.bl (bs.any id)) H) : rAny K [.ref a] H Q := ⟨a, bs, rfl, s, h⟩
theorem rd_sortI {K : PySem.W.Frag} {a : Addr} {ns : List Int} (s : SqL K H a (ns.map V.int)) (h : ∀ (ns' : List Int) (p : Addr), ns'.Perm ns → ns'.Pairwise (· ≤ ·) → H p = none → Q (.ref p) (upd H p (.lst (ns'.map V.int)))) : rSortedI K [.ref a] H Q := ⟨a, ns, rfl, s, h⟩
theorem rd_neD {K : PySem.W.Frag} {x y : V} {d e : PyData} (hd : Dp K H x d) (he : Dp K H y e) (sd : SeqAt.shaped d = true) (se : SeqAt.shaped e = true) (h : Q (.bl (!PyData.eqv d e)) H) : rNeD K x y H Q := ⟨d, e, hd, he, sd, se, h⟩
theorem rd_eqD {K : PySem.W.Frag} {x y : V} {d e : PyData} (hd : Dp K H x d) (he : Dp K H y e) (sd : SeqAt.shaped d = true) (se : SeqAt.shaped e = true) (h : Q (.bl (PyData.eqv d e)) H) : rEqD K x y H Q := ⟨d, e, hd, he, sd, se, h⟩
theorem rd_call {sp : Sp} {E : XK} {t : TA} (h : t σ H fun vs H1 => sp (vs ++ []) H1 Q E) : tCall sp [] E t σ H Q := h
theorem rd_tup {t : TA} (h : t σ H fun xs H1 => xs.length ≤ sizeLine ∧ ∀ p, H1 p = none → Q (.ref p) (upd H1 p (.tup xs))) : tTup t σ H Q := h
theorem rd_lst {t : TA} (h : t σ H fun xs H1 => xs.length ≤ sizeLine ∧ ∀ p, H1 p = none → Q (.ref p) (upd H1 p (.lst xs))) : tLst t σ H Q := h
theorem rd_gname {i : Nat} {R : St → Hp → Prop} (h : R (σ.set i (some v)) H) : gName i v σ H R := h
theorem rd_chain {r r' : R2} {ta tb tc : TE} (h : ta σ H fun x H1 => tb σ H1 fun y H2 => r x y H2 fun z H3 => ∃ k, z = .bl k ∧ (if k = true then tc σ H3 fun w' H4 => r' y w' H4 Q else Q (.bl false) H3)) : tChain r r' ta tb tc σ H Q := h
theorem rd_lc {wi : TI} {g : TG} {tt : TT} {te : TE} {vs : List Nat} (h : wi σ H fun J H1 => ∀ D, H1 D = none → ∃ W : Nat → Nat → Hp → Prop, (∃ m, W 0 m (upd H1 D (.lst []))) ∧ ∀ i m H, W i m H →
    (J.stop i H ∧ Q (.ref D) H) ∨ (J.go i H ∧ ∃ Nx : Hp → Prop, (∀ H', Nx H' → ∃ m', m' < m ∧ W (i + 1) m' H') ∧ ∀ x H', J.yld i H x H' → g x (wipe σ vs) H' fun σ2 H2 => wipe σ2 vs = wipe σ vs ∧ tt σ2 H2 fun b H3 =>
      if b = true then te σ2 H3 fun y H4 => ∃ acc, H4 D = some (.lst acc) ∧ acc.length < sizeLine ∧ Nx (upd H4 D (.lst (acc ++ [y]))) else Nx H3)) : tLc wi g tt te vs σ H Q := h
theorem rd_dnew (h : ∀ p, H p = none → Q (.ref p) (upd H p (.dK []))) : tDNewK σ H Q := h
theorem rd_dput {td ty tv : TE} (h : tv σ H fun v H1 => td σ H1 fun x H2 => ty σ H2 fun y H3 => ∃ a H4, x = .ref a ∧ DPut H3 a y v H4 ∧ D.nx σ H4) : sDPut td ty tv D σ H := h
theorem rd_dget2 {td ty tx : TE} (h : td σ H fun x H1 => ∃ a, x = .ref a ∧ IsD H1 a ∧ ty σ H1 fun y H2 => tx σ H2 fun z H3 => ∃ o, DGet H3 a y o ∧ Q (o.getD z) H3) : tDGet2 td ty tx σ H Q := h
theorem rd_items {te : TE} (h : te σ H fun x H1 => LiI.rItemsL x H1 Q) : LiI.tListItems te σ H Q := h
theorem rd_sl {r : V → Option Int → Option Int → Hp → VK → Prop} {te : TE} {tl th : TO} (h : te σ H fun x H1 => tl σ H1 fun l H2 => th σ H2 fun u H3 => r x l u H3 Q) : L2.tSl r te tl th σ H Q := h
theorem rd_nopart {R : Option Int → Hp → Prop} (h : R none H) : tNoPart σ H R := h
theorem rd_part {te : TE} {R : Option Int → Hp → Prop} (h : te σ H fun x H1 => ∃ i, x = .int i ∧ R (some i) H1) : tPart te σ H R := h
theorem rd_int {i : Int} {R : Int → Prop} (h : R i) : ∃ j, V.int i = .int j ∧ R j := ⟨i, rfl, h⟩
theorem rd_revL {K : PySem.W.Frag} {te : TE} (h : te σ H fun x H1 => ∃ a xs, x = .ref a ∧ SqL K H1 a xs ∧ ∀ p, H1 p = none → Q (.ref p) (upd H1 p (.lst xs.reverse))) : tRevL K te σ H Q := h
theorem rd_bm {K : PySem.W.Frag} {T : String} {r : V → List V → Hp → VK → Prop} {to : TE} {t : TA} (h : to σ H fun x H1 => tyV K T x H1 ∧ t σ H1 fun xs H2 => r x xs H2 Q) : tBM K T r to t σ H Q := h
theorem rd_bm0 {K : PySem.W.Frag} {T : String} {r : V → List V → Hp → VK → Prop} {to : TE} (h : to σ H fun x H1 => tyV K T x H1 ∧ r x [] H1 Q) : tBM0 K T r to σ H Q := h
theorem rd_tyl {K : PySem.W.Frag} {a : Addr} {xs : List V} {R : Prop} (s : SqL K H a xs) (h : R) : tyV K "list" (.ref a) H ∧ R := ⟨.inl ⟨rfl, xs, s⟩, h⟩
theorem rd_lrg {te : St → Hp → (Int → Int → Hp → Prop) → Prop} (h : te σ H fun a b H1 => RgOk a b ∧ ∀ q, H1 q = none → Q (.ref q) (upd H1 q (.lst (rgV a b)))) : tLstRg te σ H Q := h
theorem rd_rg2 {ta tb : TE} {R : Int → Int → Hp → Prop} (h : ta σ H fun x H1 => tb σ H1 fun y H2 => ∃ i j, x = .int i ∧ y = .int j ∧ R i j H2) : tRg2 ta tb σ H R := h
theorem rd_rg1 {ta : TE} {R : Int → Int → Hp → Prop} (h : ta σ H fun x H1 => ∃ n, x = .int n ∧ R 0 n H1) : tRg1 ta σ H R := h
theorem rd_int2 {i j : Int} {R : Int → Int → Prop} (h : R i j) : ∃ i' j', V.int i = .int i' ∧ V.int j = .int j' ∧ R i' j' := ⟨i, j, rfl, rfl, h⟩
theorem rd_augS {to ti te : TE} {tget : V → V → Hp → VK → Prop} {tip : TIp} {tset : TSet} (h : to σ H fun o H1 => ti σ H1 fun i H2 => tget o i H2 fun x H3 => te σ H3 fun y H4 => tip x y H4 fun z H5 => tset o i z H5 fun H6 => D.nx σ H6) : tAugS to ti te tget tip tset D σ H := h
theorem rd_aug {i : Nat} {te : TE} {ti : TIp} (h : ∃ x, σ[i]? = some (some x) ∧ te σ H fun y H1 => ti x y H1 fun z H2 => D.nx (σ.set i (some z)) H2) : tAug i te ti D σ H := h
theorem rd_ipI {f : Int → Int → Int} {i j : Int} (h : Q (.int (f i j)) H) : ipI f (.int i) (.int j) H Q := ⟨i, j, rfl, rfl, h⟩
theorem rd_sum {K : PySem.W.Frag} {a : Addr} {ns : List Int} (s : SqL K H a (ns.map V.int)) (h : Q (.int ns.sum) H) : rSum K [.ref a] H Q := ⟨a, ns, rfl, s, h⟩
theorem rd_gsub {to ti : TE} {tset : TSet} {R : St → Hp → Prop} (h : to σ H fun o H1 => ti σ H1 fun i H2 => tset o i v H2 fun H3 => R σ H3) : gSub to ti tset v σ H R := h
theorem rd_gtup {K : PySem.W.Frag} {n : Nat} {t : TGs} {a : Addr} {xs : List V} {R : St → Hp → Prop} (s : SqT K H a xs) (l : xs.length = n) (h : t xs σ H R) : gTup K n t (.ref a) σ H R := ⟨a, xs, rfl, s, l, h⟩
theorem rd_gcons {t : TG} {u : TGs} {vs : List V} {R : St → Hp → Prop} (h : t v σ H fun σ' H' => u vs σ' H' R) : gCons t u (v :: vs) σ H R := ⟨v, vs, rfl, h⟩
theorem rd_gnil {R : St → Hp → Prop} (h : R σ H) : gNil [] σ H R := ⟨rfl, h⟩
theorem rd_par2 {v u : V} {R : V → V → Prop} (h : R v u) : ∃ x y, [v, u] = [x, y] ∧ R x y := ⟨v, u, rfl, h⟩
/-- a cut behind an expression, behind a statement -/
theorem cutE {te : TE} (R : VK) (main : ∀ Q' : VK, (∀ v H1, R v H1 → Q' v H1) → te σ H Q') (rest : ∀ v H1, R v H1 → Q v H1) : te σ H Q := main Q rest
theorem cutS {t : TS} (R : St → Hp → Prop) (main : ∀ N : St → Hp → Prop, (∀ σ H, R σ H → N σ H) → t { D with nx := N } σ H) (rest : ∀ σ H, R σ H → D.nx σ H) : t D σ H := main D.nx rest
theorem rd_append {l : Addr} {xs : List V} {y : V} (h : H l = some (.lst xs)) (hz : xs.length < sizeLine) (q : Q .non (upd H l (.lst (xs ++ [y])))) : rAppend (.ref l) [y] H Q := ⟨l, xs, y, rfl, rfl, h, hz, q⟩
theorem rd_ixL {K : PySem.W.Frag} {p : Addr} {xs : List V} {i : Int} {v : V} (s : SqL K H p xs) (e : atI xs i = some v) (h : Q v H) : rIxL K (.ref p) (.int i) H Q := ⟨p, xs, i, v, rfl, rfl, s, e, h⟩
theorem rd_ixT {K : PySem.W.Frag} {p : Addr} {xs : List V} {i : Int} {v : V} (s : SqT K H p xs) (e : atI xs i = some v) (h : Q v H) : rIxT K (.ref p) (.int i) H Q := ⟨p, xs, i, v, rfl, rfl, s, e, h⟩
theorem rd_slL {K : PySem.W.Frag} {p : Addr} {xs : List V} {lo hi : Option Int} (s : SqL K H p xs) (h : ∀ q, H q = none → Q (.ref q) (upd H q (.lst (cutV xs lo hi)))) : rSlL K (.ref p) lo hi H Q := ⟨p, xs, rfl, s, h⟩
theorem rd_rep {l : Addr} {k : Int} {xs : List V} (h : H l = some (.lst xs)) (h1 : -(2 ^ 63) ≤ k) (h2 : k < 2 ^ 63) (h3 : xs.length * k.toNat ≤ sizeLine) (q : ∀ p, H p = none → Q (.ref p) (upd H p (.lst (List.replicate k.toNat xs).flatten))) : rRep (.ref l) (.int k) H Q := ⟨l, k, xs, rfl, rfl, h, h1, h2, h3, q⟩
theorem rd_cat {l b : Addr} {xs zs : List V} (h : H l = some (.lst xs)) (h' : H b = some (.lst zs)) (hz : xs.length + zs.length ≤ sizeLine) (q : ∀ p, H p = none → Q (.ref p) (upd H p (.lst (xs ++ zs)))) : rCat (.ref l) (.ref b) H Q := ⟨l, b, xs, zs, rfl, rfl, h, h', hz, q⟩
theorem rd_for {wi : TI} {g : TG} {tb : TS} (h : wi σ H fun J H1 => ∃ W : Nat → Nat → St → Hp → Prop, (∃ m, W 0 m σ H1) ∧ ∀ i m σ H, W i m σ H →
    (J.stop i H ∧ D.nx σ H) ∨ (J.go i H ∧ ∃ N : St → Hp → Prop, (∀ σ' H', N σ' H' → ∃ m', m' < m ∧ W (i + 1) m' σ' H') ∧ ∀ x H', J.yld i H x H' → g x σ H' fun σ2 H2 => tb { D with nx := N, ct := N, bk := D.nx } σ2 H2)) : tFor wi g tb D σ H := h
end
/-! ### names that stand for built-in classes, for written numbers, for own classes -/
section
variable {X : Cx} {x : Str} {pos : Pos}
theorem pe_ty {T : String} (hm : X.mg x = none) (hv : bootBuiltins x = some (.type T)) (hg : Gl X x := by rfl) (hn : x ≠ "__name__" := by decide) (hd : (x == ("__debug__" : Str)) = false := by decide) : PE X (.Name x pos) (tC (.ty T)) := pe_bltn (v := .ty T) hg hm hv rfl hn hd
theorem pe_num {n : Int} (hm : ∃ t, X.mg x = some (.int n t)) (hg : Gl X x := by rfl) (hd : (x == ("__debug__" : Str)) = false := by decide) : PE X (.Name x pos) (tC (.int n)) := by
  obtain ⟨t, e⟩ := hm
  exact pe_glob (v := .int n) hg e ⟨t, rfl⟩ hd
theorem pe_ref {C : Addr} (hm : X.mg x = some (.ref C)) (hg : Gl X x := by rfl) (hd : (x == ("__debug__" : Str)) = false := by decide) : PE X (.Name x pos) (tC (.ref C)) := pe_glob (v := .ref C) hg hm rfl hd
end
/-! ### a def that keeps its promise, by its name -/
structure Df (P : Program) (w : World) (K : PySem.W.Frag) (mg : Str → Option Value) (base : Heap) (CX : CXT) (k : Nat) (x : Str) (ps : List Str) (sp : Sp) : Prop where
  ex : ∃ f fd, FnOk P w K mg base CX k f fd ps sp ∧ mg x = some (.ref f) ∧ PySem.W.keepIn K (.ref f) = true ∧ Binds K fd ps []
section
variable {X : Cx} {CX : CXT} {k : Nat} {x : Str} {ps : List Str} {sp : Sp} {E : XK} {p pos : Pos} {e : Expr} {es : List Expr} {t : TA}
theorem pe_df (d : Df X.prog X.w X.K X.mg X.base CX k x ps sp) (hr : Room k X.A) (hg : Gl X x) (hx : Passes CX X E) (ha : PA X (e :: es) t)
    (hdb : (x == ("__debug__" : Str)) = false := by decide) (he : starEach (e :: es) X.env = (false, eval e X.env) :: starEach es X.env := by rfl) (hpl : (backTo pos (starEach es X.env)).any (·.1) = false := by rfl) :
    PE X (.Call (.Name x p) (e :: es) [] pos) (tCall sp [] E t) := by
  obtain ⟨f, fd, F, hm, hk, hb⟩ := d.ex
  exact pe_call F hr hg hm hk hb .nil hx ha hdb he hpl
theorem pe_df0 (d : Df X.prog X.w X.K X.mg X.base CX k x ps sp) (hr : Room k X.A) (hg : Gl X x) (hx : Passes CX X E)
    (hdb : (x == ("__debug__" : Str)) = false := by decide) : PE X (.Call (.Name x p) [] [] pos) (tCall sp [] E tNil) := by
  obtain ⟨f, fd, F, hm, hk, hb⟩ := d.ex
  exact pe_call0 F hr hg hm hk hb .nil hx hdb
end
theorem units65 {k : Nat} {A : Around} (r : Room k A) : A.units + 65 < cLine := by have := r.un; omega
/-! ### lists read and written by place: xs[i] op= e -/
section
variable {X : Cx}
def rGetL (K : PySem.W.Frag) : R2 := fun x y H Q => ∃ p xs i v, x = .ref p ∧ y = .int i ∧ SqL K H p xs ∧ 0 ≤ i ∧ atI xs i = some v ∧ Q v H
theorem get_list : PGet X (rGetL X.K) := by
  intro pins s σ H o i ov iv Q I ro ri h
  obtain ⟨p, xs, k, z, rfl, rfl, hq, h0, he, q⟩ := h
  cases ro
  obtain ⟨t, rfl⟩ := ri
  obtain ⟨its, r, pl, hz⟩ := I.list hq
  obtain ⟨j, h1, h2, h3, h4, h5⟩ := atI_get he
  obtain ⟨w, ew, rw'⟩ := r.get h2
  have hl := r.length
  have hn := line63
  have hj : k.toNat = j := by
    rw [seqIndex_of h0 h5] at h1
    exact Option.some.inj h1
  exact wpAny_getItem_list pl.isList h0 (by omega) (by rw [hj]; simpa using ew) ⟨z, H, I, rw', q⟩
def rLen (K : PySem.W.Frag) : List V → Hp → VK → Prop := fun xs H Q => ∃ p ys, xs = [.ref p] ∧ (SqL K H p ys ∨ SqT K H p ys) ∧ Q (.int ys.length) H
theorem call_lenQ : CallR X (.builtin "len") (rLen X.K) := call_len_seq
def rListOf (K : PySem.W.Frag) : List V → Hp → VK → Prop := fun xs H Q => ∃ p ys, xs = [.ref p] ∧ (SqL K H p ys ∨ SqT K H p ys) ∧ ∀ l, H l = none → Q (.ref l) (upd H l (.lst ys))
theorem call_listQ : CallR X (.type "list") (rListOf X.K) := call_list_of
/-! ### order and equality of data -/
def rCmpD (K : PySem.W.Frag) (f : PyData → PyData → Bool) : R2 := fun x y H Q => ∃ d e, Dp K H x d ∧ Dp K H y e ∧ PySem.W.alike d e = true ∧ d ≠ .none ∧ min d.depth e.depth ≤ 60 ∧ Q (.bl (f d e)) H
theorem op_ltD (hu : X.A.units + 64 < cLine) : OpR X (compareOp .Lt) (rCmpD X.K fun d e => PySem.W.dataLt d e) := by
  intro pins s σ H x y v u Q I rx ry h
  obtain ⟨d, e, hd, he, al, nn, dp, q⟩ := h
  obtain ⟨as, r1⟩ := Dp.reads I d x v hd rx
  obtain ⟨bs, r2⟩ := Dp.reads I e y u he ry
  exact PySem.W.lt_data r1 r2 al nn (by omega) ⟨.bl _, H, I, rfl, q⟩
theorem op_gtD (hu : X.A.units + 64 < cLine) : OpR X (compareOp .Gt) (rCmpD X.K fun d e => PySem.W.dataLt e d) := by
  intro pins s σ H x y v u Q I rx ry h
  obtain ⟨d, e, hd, he, al, nn, dp, q⟩ := h
  obtain ⟨as, r1⟩ := Dp.reads I d x v hd rx
  obtain ⟨bs, r2⟩ := Dp.reads I e y u he ry
  exact PySem.W.gt_data r1 r2 al nn (by omega) ⟨.bl _, H, I, rfl, q⟩
theorem op_leD (hu : X.A.units + 64 < cLine) : OpR X (compareOp .LtE) (rCmpD X.K fun d e => !PySem.W.dataLt e d) := by
  intro pins s σ H x y v u Q I rx ry h
  obtain ⟨d, e, hd, he, al, nn, dp, q⟩ := h
  obtain ⟨as, r1⟩ := Dp.reads I d x v hd rx
  obtain ⟨bs, r2⟩ := Dp.reads I e y u he ry
  exact PySem.W.le_data r1 r2 al nn (by omega) ⟨.bl _, H, I, rfl, q⟩
/-! ### sorted -/
def rSortD (K : PySem.W.Frag) : List V → Hp → VK → Prop := fun vs H Q => ∃ (a : Addr) (bs : List (V × PyData)), vs = [.ref a] ∧ SqL K H a (bs.map (·.1)) ∧ (∀ b ∈ bs, Dp K H b.1 b.2) ∧
  PySem.W.AllAlike (bs.map (·.2)) ∧ PySem.W.Sortable (bs.map (·.2)) ∧ (∀ b ∈ bs, b.2.depth ≤ 60) ∧ ∀ p, H p = none → Q (.ref p) (upd H p (.lst ((bs.mergeSort (PySem.W.dataLe false (·.2))).map (·.1))))
theorem each_vals : ∀ {us : List Value} {bs : List (V × PyData)}, PySem.W.EachIs (fun (u : Value) (b : V × PyData) => L2.RelV b.1 u) us bs → Vals (bs.map (·.1)) us
  | _, _, .nil => .nil
  | _, _, .cons r t => .cons r (each_vals t)
theorem vals_each : ∀ {us : List Value} {bs : List (V × PyData)}, Vals (bs.map (·.1)) us → PySem.W.EachIs (fun (u : Value) (b : V × PyData) => L2.RelV b.1 u) us bs
  | _, [], .nil => .nil
  | _, _ :: _, .cons r t => .cons r (vals_each t)
theorem each_reads {R : Value → PyData → Prop} : ∀ {us : List Value} {bs : List (V × PyData)}, PySem.W.EachIs (fun (u : Value) (b : V × PyData) => L2.RelV b.1 u) us bs → (∀ b ∈ bs, ∀ u, L2.RelV b.1 u → R u b.2) → PySem.W.EachIs R us (bs.map (·.2))
  | _, _, .nil, _ => .nil
  | _, _, .cons r t, h => .cons (h _ List.mem_cons_self _ r) (each_reads t fun b hb => h b (List.mem_cons_of_mem _ hb))
theorem cr_sortD (hu : X.A.units + 64 < cLine) : CallR X (.builtin "sorted") (rSortD X.K) := by
  intro pins s σ H xs us Q I r h
  obtain ⟨a, bs, rfl, ha, hd, hal, hsk, hdep, q⟩ := h
  obtain ⟨u, rfl, ru⟩ := vals1 r
  obtain rfl : u = Value.ref a := ru
  obtain ⟨its, rv, ⟨o, n, e1, e2, e3, e4⟩, hz⟩ := I.list ha
  have hL : its.length ≤ sizeLine := by
    rw [← rv.length]
    exact hz
  have hE := vals_each rv
  have hR : PySem.W.EachIs (fun v d => ∃ as, Reads (PySem.W.sortingHeap (PySem.W.copyHeap s.heap its) (s.heap.objs.size + 1) its) v d as) its (bs.map (·.2)) :=
    each_reads hE fun b hb u ru => by
      obtain ⟨as, q1⟩ := Dp.reads I b.2 b.1 u (hd b hb) ru
      exact ⟨as, Reads.keeps (fun _ _ => PySem.W.sorting_copy_old) q1⟩
  have S := PySem.W.SortsAt.data (prog := X.prog) (w := X.w) (A := X.A.in1.in1) (s := { s with heap := PySem.W.sortingHeap (PySem.W.copyHeap s.heap its) (s.heap.objs.size + 1) its }) hR hal hsk (fun d hd' => by
    obtain ⟨b, hb, rfl⟩ := List.mem_map.mp hd'
    have := hdep b hb
    have e : X.A.in1.in1.units = X.A.units + 2 := rfl
    omega)
  have out := PySem.W.keyedOut_each (rev := false) (R := fun (u : Value) (b : V × PyData) => L2.RelV b.1 u) (bs := bs) (vs := its) (fun b => b.2) ⟨_, its, hal, rfl, hR⟩ hE
  refine PySem.W.sorted_vals ⟨o, e1, e2, n, e4⟩ S hL ?_
  obtain ⟨ep, he'⟩ := PyProof.Rows.sortedAll_at s.heap its (PySem.W.sortVals _ false its its).toArray
  have rv' := each_vals out
  have hlen : ((bs.mergeSort (PySem.W.dataLe false (·.2))).map (·.1)).length ≤ sizeLine := by
    rw [List.length_map, List.length_mergeSort]
    rw [List.length_map] at hz
    exact hz
  exact ⟨.ref _, upd H (s.heap.objs.size + 1) (.lst _), I.laid (t' := s.toks) (fun _ _ => PyProof.Rows.sortedAll_old) (Nat.le_succ _) ⟨hlen, _, ep, rv', he'⟩, rfl, q _ (I.hok.fresh (Nat.le_succ _))⟩
end
/-! ### loops by what is done -/
theorem take_succ_of {α : Type} {l : List α} {i : Nat} {z : α} (h : l[i]? = some z) : l.take (i + 1) = l.take i ++ [z] ∧ l = l.take i ++ z :: l.drop (i + 1) := by
  obtain ⟨hi, e⟩ := List.getElem?_eq_some_iff.mp h
  subst e
  refine ⟨by simp, ?_⟩
  rw [List.getElem_cons_drop, List.take_append_drop]
section
variable {α : Type} {K : PySem.W.Frag} {a : Addr} {g : TG} {tb : TS} {D : Ends} {σ : St} {H : Hp}
theorem rd_il {tl : TE} {R : It → Hp → Prop} (h : tl σ H fun x H1 => ∃ a, x = .ref a ∧ (∃ xs, SqL K H1 a xs) ∧ R (Itl K a) H1) : iList K tl σ H R := h
theorem rd_it {tl : TE} {R : It → Hp → Prop} (h : tl σ H fun x H1 => ∃ a, x = .ref a ∧ (∃ xs, SqT K H1 a xs) ∧ R (Itt K a) H1) : iTup K tl σ H R := h
theorem rd_ie {ta : TA} {R : It → Hp → Prop} (h : ta σ H fun vs H1 => ∃ a xs, vs = [.ref a] ∧ SqL K H1 a xs ∧ R (Ite K a) H1) : iEnum K ta σ H R := h
theorem rd_ir {ta : TA} {R : It → Hp → Prop} (h : ta σ H fun vs H1 => ∃ j : Int, vs = [.int j] ∧ -(2 ^ 62) ≤ j ∧ j < 2 ^ 62 ∧ R (Itr 0 j.toNat) H1) : iRng1 ta σ H R := h
theorem rd_ir2 {ta : TA} {R : It → Hp → Prop} (h : ta σ H fun vs H1 => ∃ i j : Int, vs = [.int i, .int j] ∧ (-(2 ^ 62) ≤ i ∧ i < 2 ^ 62 ∧ -(2 ^ 62) ≤ j ∧ j < 2 ^ 62) ∧ R (Itr i (j - i).toNat) H1) : iRng2 ta σ H R := h
theorem il_of {xs : List V} {R : It → Hp → Prop} (h : SqL K H a xs) (q : R (Itl K a) H) : ∃ b, V.ref a = V.ref b ∧ (∃ xs, SqL K H b xs) ∧ R (Itl K b) H := ⟨a, rfl, ⟨xs, h⟩, q⟩
theorem it_of {xs : List V} {R : It → Hp → Prop} (h : SqT K H a xs) (q : R (Itt K a) H) : ∃ b, V.ref a = V.ref b ∧ (∃ xs, SqT K H b xs) ∧ R (Itt K b) H := ⟨a, rfl, ⟨xs, h⟩, q⟩
theorem ie_of {xs : List V} {R : It → Hp → Prop} (h : SqL K H a xs) (q : R (Ite K a) H) : ∃ b ys, [V.ref a] = [V.ref b] ∧ SqL K H b ys ∧ R (Ite K b) H := ⟨a, xs, rfl, h, q⟩
theorem ir_of {j : Int} {R : It → Hp → Prop} (h1 : -(2 ^ 62) ≤ j) (h2 : j < 2 ^ 62) (q : R (Itr 0 j.toNat) H) : ∃ i : Int, [V.int j] = [V.int i] ∧ -(2 ^ 62) ≤ i ∧ i < 2 ^ 62 ∧ R (Itr 0 i.toNat) H := ⟨j, rfl, h1, h2, q⟩
theorem ir2_of {i j : Int} {R : It → Hp → Prop} (h : -(2 ^ 62) ≤ i ∧ i < 2 ^ 62 ∧ -(2 ^ 62) ≤ j ∧ j < 2 ^ 62) (q : R (Itr i (j - i).toNat) H) : ∃ i' j' : Int, [V.int i, V.int j] = [V.int i', V.int j'] ∧ (-(2 ^ 62) ≤ i' ∧ i' < 2 ^ 62 ∧ -(2 ^ 62) ≤ j' ∧ j' < 2 ^ 62) ∧ R (Itr i' (j' - i').toNat) H := ⟨i, j, rfl, h, q⟩
/-- over a list that the body leaves as it is: what is done, and what is left -/
theorem for_listP (f : α → V) (l : List α) (Pv : List α → St → Hp → Prop) (h0 : Pv [] σ H) (hl : ∀ dn σ H, Pv dn σ H → SqL K H a (l.map f))
    (hs : ∀ dn z rs σ H, l = dn ++ z :: rs → Pv dn σ H → g (f z) σ H fun σ2 H2 => tb { D with nx := Pv (dn ++ [z]), ct := Pv (dn ++ [z]), bk := D.nx } σ2 H2) (hd : ∀ σ H, Pv l σ H → D.nx σ H) :
    ∃ W : Nat → Nat → St → Hp → Prop, (∃ m, W 0 m σ H) ∧ ∀ i m σ H, W i m σ H →
      ((Itl K a).stop i H ∧ D.nx σ H) ∨ ((Itl K a).go i H ∧ ∃ N : St → Hp → Prop, (∀ σ' H', N σ' H' → ∃ m', m' < m ∧ W (i + 1) m' σ' H') ∧ ∀ x H', (Itl K a).yld i H x H' → g x σ H' fun σ2 H2 => tb { D with nx := N, ct := N, bk := D.nx } σ2 H2) := by
  refine for_list (xs := l.map f) (fun i σ H => Pv (l.take i) σ H) h0 (fun i σ H _ p => hl _ σ H p) (fun i x σ H hx p => ?_) (fun σ H p => hd σ H ?_)
  · rw [List.getElem?_map] at hx
    cases e : l[i]? with
    | none =>
      rw [e] at hx
      cases hx
    | some z =>
      rw [e] at hx
      obtain ⟨e1, e2⟩ := take_succ_of e
      have ex : x = f z := (Option.some.inj hx).symm
      subst ex
      have q := hs (l.take i) z (l.drop (i + 1)) σ H e2 p
      rw [← e1] at q
      exact q
  · rw [List.length_map, List.take_length] at p
    exact p
/-- [e for x in l], each item read by itself -/
theorem lc_mapP (f h : α → V) (l : List α) {te : TE} {vs : List Nat} {H1 : Hp} {R : Addr} {Qd : Hp → Prop} (nR : H1 R = none) (hl : SqL K H1 a (l.map f)) (hz : l.length ≤ sizeLine)
    (hs : ∀ z, z ∈ l → ∀ H, Same H1 H → ∀ Q' : VK, (∀ H3, Same H H3 → Q' (h z) H3) → g (f z) (wipe σ vs) H fun σ2 H2 => wipe σ2 vs = wipe σ vs ∧ te σ2 H2 Q')
    (hd : ∀ H, Same H1 H → H R = some (.lst (l.map h)) → Qd H) :
    ∃ W : Nat → Nat → Hp → Prop, (∃ m, W 0 m (upd H1 R (.lst []))) ∧ ∀ i m H, W i m H →
      ((Itl K a).stop i H ∧ Qd H) ∨ ((Itl K a).go i H ∧ ∃ Nx : Hp → Prop, (∀ H', Nx H' → ∃ m', m' < m ∧ W (i + 1) m' H') ∧ ∀ x H', (Itl K a).yld i H x H' → g x (wipe σ vs) H' fun σ2 H2 => wipe σ2 vs = wipe σ vs ∧ tYes σ2 H2 fun b H3 =>
        if b = true then te σ2 H3 fun y H4 => ∃ acc, H4 R = some (.lst acc) ∧ acc.length < sizeLine ∧ Nx (upd H4 R (.lst (acc ++ [y]))) else Nx H3) := by
  refine lc_list (xs := l.map f) (fun i H => Same H1 H ∧ H R = some (.lst ((l.take i).map h))) ⟨same_new nR, upd_same⟩ (fun i H _ p => same_l p.1 hl) (fun i x H hx p => ?_) (fun H p => hd H p.1 ?_)
  · obtain ⟨p1, p2⟩ := p
    rw [List.getElem?_map] at hx
    cases e : l[i]? with
    | none =>
      rw [e] at hx
      cases hx
    | some z =>
      rw [e] at hx
      obtain ⟨e1, e2⟩ := take_succ_of e
      have ex : x = f z := (Option.some.inj hx).symm
      subst ex
      have hm : z ∈ l := List.mem_of_getElem? e
      refine hs z hm H p1 _ fun H3 s3 => ?_
      refine ⟨_, s3 _ _ p2, ?_, ?_, ?_⟩
      · have hi := (List.getElem?_eq_some_iff.mp e).1
        rw [List.length_map, List.length_take]
        omega
      · exact same_mut (p1.trans s3) nR
      · rw [upd_same, e1, List.map_append]
        rfl
  · have q := p.2
    rw [List.length_map, List.take_length] at q
    exact q
end
/-! ### the shape of data -/
def Sh (n : Nat) (d : PyData) : Prop := d.canLay0 = true ∧ d.depth ≤ n
theorem lay_all : ∀ {ds : List PyData}, (∀ d ∈ ds, d.canLay0 = true) → PyData.canLayAll0 ds = true
  | [], _ => by simp only [PyData.canLayAll0]
  | d :: r, h => by
    simp only [PyData.canLayAll0, Bool.and_eq_true]
    exact ⟨h d List.mem_cons_self, lay_all fun x hx => h x (List.mem_cons_of_mem _ hx)⟩
theorem depth_all {n : Nat} : ∀ {ds : List PyData}, (∀ d ∈ ds, d.depth ≤ n) → PyData.depthAll ds ≤ n
  | [], _ => by simp only [PyData.depthAll]; exact Nat.zero_le _
  | d :: r, h => by
    simp only [PyData.depthAll]
    exact Nat.max_le.mpr ⟨h d List.mem_cons_self, depth_all fun x hx => h x (List.mem_cons_of_mem _ hx)⟩
theorem sh_int {n : Nat} {i : Int} : Sh n (.int i) := ⟨by simp only [PyData.canLay0], by simp only [PyData.depth]; exact Nat.zero_le _⟩
theorem sh_bool {n : Nat} {i : Bool} : Sh n (.bool i) := ⟨by simp only [PyData.canLay0], by simp only [PyData.depth]; exact Nat.zero_le _⟩
theorem sh_none {n : Nat} : Sh n .none := ⟨by simp only [PyData.canLay0], by simp only [PyData.depth]; exact Nat.zero_le _⟩
theorem sh_list {n : Nat} {ds : List PyData} (h : ∀ d ∈ ds, Sh n d) : Sh (n + 1) (.list ds) := ⟨by simp only [PyData.canLay0]; exact lay_all fun d hd => (h d hd).1, by simp only [PyData.depth]; exact Nat.succ_le_succ (depth_all fun d hd => (h d hd).2)⟩
theorem sh_tuple {n : Nat} {ds : List PyData} (h : ∀ d ∈ ds, Sh n d) : Sh (n + 1) (.tuple ds) := ⟨by simp only [PyData.canLay0]; exact lay_all fun d hd => (h d hd).1, by simp only [PyData.depth]; exact Nat.succ_le_succ (depth_all fun d hd => (h d hd).2)⟩
theorem sh_ints {n : Nat} (ns : List Int) : Sh (n + 1) (dI ns) := sh_list fun d hd => by
  obtain ⟨i, _, rfl⟩ := List.mem_map.mp hd
  exact sh_int
theorem shaped_of {n : Nat} {d : PyData} (h : Sh n d) (hn : n ≤ 64 := by decide) : SeqAt.shaped d = true := by
  unfold SeqAt.shaped
  simp only [Bool.and_eq_true, decide_eq_true_eq]
  exact ⟨h.1, Nat.le_trans h.2 hn⟩
theorem eqv_ints : ∀ ns ms : List Int, PyData.eqvAll (ns.map .int) (ms.map .int) = decide (ns = ms)
  | [], [] => by simp [PyData.eqvAll]
  | [], _ :: _ => by simp [PyData.eqvAll]
  | _ :: _, [] => by simp [PyData.eqvAll]
  | a :: r, b :: s => by
    simp only [List.map_cons, PyData.eqvAll, PyData.eqv, eqv_ints r s]
    by_cases h : a = b <;> by_cases h' : r = s <;> simp [h, h']
theorem eqv_dI (ns ms : List Int) : PyData.eqv (dI ns) (dI ms) = decide (ns = ms) := by
  unfold dI
  simp only [PyData.eqv]
  exact eqv_ints ns ms
/-! ### types of values -/
theorem tyx_list {K : PySem.W.Frag} {H : Hp} {a : Addr} {xs : List V} (h : SqL K H a xs) : TyX K H (.ref a) (.type "list") := by
  rcases h with (h | ⟨o, h⟩) | ⟨o, its, n, hk, hc, _⟩
  · exact .base (.lst h)
  · exact .base (.frz h)
  · exact .kList hk hc
theorem tyx_tuple {K : PySem.W.Frag} {H : Hp} {a : Addr} {xs : List V} (h : SqT K H a xs) : TyX K H (.ref a) (.type "tuple") := by
  rcases h with (h | ⟨o, h⟩) | ⟨o, its, n, hk, hc, _⟩
  · exact .base (.tup h)
  · exact .fTuple h
  · exact .kTuple hk hc
theorem kit_ll {K : PySem.W.Frag} : PySem.W.kitOne K (.type "list") (.type "list") = some true := kit_ty (by decide +kernel)
theorem kit_tl {K : PySem.W.Frag} : PySem.W.kitOne K (.type "tuple") (.type "list") = some false := kit_ty (by decide +kernel)
theorem kit_tt {K : PySem.W.Frag} : PySem.W.kitOne K (.type "tuple") (.type "tuple") = some true := kit_ty (by decide +kernel)
/-- what is known of a value: whether it is an int, a bool -/
def whV : V → Bool
  | .int _ => true
  | _ => false
def intV : V → Bool
  | .int _ => true
  | .bl _ => true
  | _ => false
def blV : V → Bool
  | .bl _ => true
  | _ => false
def Kn (K : PySem.W.Frag) (H : Hp) (x : V) : Prop := ∃ t, TyX K H x t ∧ PySem.W.kitOne K t (.type "int") = some (intV x) ∧ PySem.W.kitOne K t (.type "bool") = some (blV x)
theorem kn_int {K : PySem.W.Frag} {H : Hp} {i : Int} : Kn K H (.int i) := ⟨_, .base (.int i), kit_ty (show kitB "int" "int" = some true by decide +kernel), kit_ty (show kitB "int" "bool" = some false by decide +kernel)⟩
theorem same_ty {K : PySem.W.Frag} {H H' : Hp} {x : V} {t : Value} (s : Same H H') (h : TyX K H x t) : TyX K H' x t := by
  cases h with
  | base b =>
    refine .base ?_
    cases b with
    | non => exact .non
    | bl x => exact .bl x
    | int i => exact .int i
    | str x => exact .str x
    | flt x => exact .flt x
    | lst e => exact .lst (s _ _ e)
    | frz e => exact .frz (s _ _ e)
    | tup e => exact .tup (s _ _ e)
    | dK e => exact .dK (s _ _ e)
    | dT e => exact .dT (s _ _ e)
    | ins e cl ha hn htk hm => exact .ins (s _ _ e) cl ha hn htk hm
  | byt b => exact .byt b
  | set e => exact .set (s _ _ e)
  | kList e c => exact .kList e c
  | kTuple e c => exact .kTuple e c
  | kDict e c => exact .kDict e c
  | fTuple e => exact .fTuple (s _ _ e)
  | fDict e => exact .fDict (s _ _ e)
theorem same_kn {K : PySem.W.Frag} {H H' : Hp} {x : V} (s : Same H H') (h : Kn K H x) : Kn K H' x := let ⟨t, a, b⟩ := h; ⟨t, same_ty s a, b⟩
/-- an own exception class without an own __init__ -/
structure Exq (K : PySem.W.Frag) (mg : Str → Option Value) (n : Str) (C : Addr) : Prop where
  x : PySem.W.excIn K C [.type "ValueError", .type "Exception", .type "BaseException", .type "object"] "ValueError.__new__" = true
  g : mg n = some (.ref C)
  kp : PySem.W.keepIn K (.ref C) = true
  b : PySem.W.subIn K (.ref C) (.type "BaseException") = some true
  t : PySem.W.typeIn K (.ref C) = some (.type "type")
/-- no built-in's name is bound by the text -/
structure Bn (mg : Str → Option Value) : Prop where
  n_isinstance : mg "isinstance" = none
  n_int : mg "int" = none
  n_bool : mg "bool" = none
  n_list : mg "list" = none
  n_tuple : mg "tuple" = none
  n_len : mg "len" = none
  n_all : mg "all" = none
  n_any : mg "any" = none
  n_sum : mg "sum" = none
  n_sorted : mg "sorted" = none
  n_range : mg "range" = none
  n_enumerate : mg "enumerate" = none
  n_max : mg "max" = none
  n_min : mg "min" = none
  n_abs : mg "abs" = none
  n_dict : mg "dict" = none
  n_str : mg "str" = none
  n_set : mg "set" = none
/-! ### how often each comes: a dict of ints -/
def allS (one other : List Int) : List Int := one.flatMap fun m => other.map fun t => m + t
def putN (c : List (Int × Int)) (k v : Int) : List (Int × Int) := if c.any (fun p => decide (p.1 = k)) then c.map (fun p => if p.1 = k then (p.1, v) else p) else c ++ [(k, v)]
def findN (c : List (Int × Int)) (k : Int) : Option Int := (c.find? (fun p => decide (p.1 = k))).map (·.2)
def getN (c : List (Int × Int)) (k : Int) : Int := (findN c k).getD 0
def tallyF (c : List (Int × Int)) (l : List Int) : List (Int × Int) := l.foldl (fun c k => putN c k (getN c k + 1)) c
def tally (l : List Int) : List (Int × Int) := tallyF [] l
def kvs (c : List (Int × Int)) : List (L2.Key × V) := c.map fun p => (Sum.inl p.1, V.int p.2)
theorem valV_kvs (c : List (Int × Int)) (k : Int) : valV (kvs c) (Sum.inl k) = (findN c k).map V.int := by
  induction c with
  | nil => rfl
  | cons p r ih =>
    by_cases h : p.1 = k
    · have e : valV (kvs (p :: r)) (Sum.inl k) = some (V.int p.2) := valV_pos (show (Sum.inl p.1 : L2.Key) = Sum.inl k by rw [h])
      rw [e]
      simp [findN, List.find?_cons, h]
    · have e : valV (kvs (p :: r)) (Sum.inl k) = valV (kvs r) (Sum.inl k) := valV_neg (fun z => h (Sum.inl.inj z))
      rw [e, ih]
      simp [findN, List.find?_cons, h]
theorem getD_kvs (c : List (Int × Int)) (k : Int) : (valV (kvs c) (Sum.inl k)).getD (.int 0) = .int (getN c k) := by
  rw [valV_kvs, getN]
  cases findN c k <;> rfl
theorem put_kvs (c : List (Int × Int)) (k v : Int) : putK (kvs c) (Sum.inl k) (.int v) = kvs (putN c k v) := by
  have ea : ((kvs c).any fun kv => decide (kv.1 = Sum.inl k)) = c.any fun p => decide (p.1 = k) := by
    unfold kvs
    rw [List.any_map]
    congr 1
    funext p
    simp
  unfold putK putN
  rw [ea]
  by_cases h : (c.any fun p => decide (p.1 = k)) = true
  · rw [if_pos h, if_pos h]
    unfold kvs
    rw [List.map_map, List.map_map]
    congr 1
    funext p
    simp only [Function.comp]
    by_cases e : p.1 = k
    · rw [if_pos e, if_pos (by rw [e])]
    · rw [if_neg e, if_neg (fun z => e (Sum.inl.inj z))]
  · rw [if_neg h, if_neg h]
    unfold kvs
    rw [List.map_append]
    rfl
theorem put_len (c : List (Int × Int)) (k v : Int) : (putN c k v).length ≤ c.length + 1 := by
  unfold putN
  split
  · rw [List.length_map]
    omega
  · rw [List.length_append]
    exact Nat.le_refl _
theorem tallyF_len : ∀ (l : List Int) (c : List (Int × Int)), (tallyF c l).length ≤ c.length + l.length
  | [], c => Nat.le_refl _
  | k :: r, c => by
    have h := tallyF_len r (putN c k (getN c k + 1))
    have h2 := put_len c k (getN c k + 1)
    show (tallyF (putN c k (getN c k + 1)) r).length ≤ c.length + (r.length + 1)
    omega
theorem tallyF_app (c : List (Int × Int)) (l m : List Int) : tallyF c (l ++ m) = tallyF (tallyF c l) m := List.foldl_append
theorem allS_app (l m o : List Int) : allS (l ++ m) o = allS l o ++ allS m o := List.flatMap_append
theorem allS_one (m : Int) (o : List Int) : allS [m] o = o.map fun t => m + t := by simp [allS]
theorem allS_len (l o : List Int) : (allS l o).length = l.length * o.length := by
  induction l with
  | nil => simp [allS]
  | cons m r ih =>
    have e : allS (m :: r) o = o.map (fun t => m + t) ++ allS r o := rfl
    rw [e, List.length_append, List.length_map, ih, List.length_cons, Nat.add_mul, Nat.one_mul, Nat.add_comm]
/-! ### what the top has left: defs by their names -/
def DefIn (K : PySem.W.Frag) (x q : Str) (st : Stmt) (f : Addr) : Prop := ∃ (oc : Value) (od : Option Addr) (kV dc pm : Value) (an : Option Addr) (cd ct : Value) (sl : Array (Option Value)),
  K.lookup f = some ⟨oc, od, .func (PySem.W.fnOf x q (defArgs st) (defBody st) (defScope st) .none kV dc pm an cd ct), sl⟩ ∧ PySem.W.codeIn K cd q = true ∧ PySem.W.keepIn K (.ref f) = true
theorem defIn_of {K : PySem.W.Frag} {x q : Str} {st : Stmt} {f : Addr} {oc : Value} {od : Option Addr} {kV dc pm : Value} {an : Option Addr} {cd ct : Value} {sl : Array (Option Value)}
    (l : K.lookup f = some ⟨oc, od, .func (PySem.W.fnOf x q (defArgs st) (defBody st) (defScope st) .none kV dc pm an cd ct), sl⟩) (c : PySem.W.codeIn K cd q = true) (k : PySem.W.keepIn K (.ref f) = true) : DefIn K x q st f := ⟨oc, od, kV, dc, pm, an, cd, ct, sl, l, c, k⟩
theorem const_of {K : PySem.W.Frag} {x : Str} {n : Int} {t : Tok} (h : PySem.W.nsIn K mainGlobals x = some (some (.int n t))) : ∃ t, PySem.W.nsIn K mainGlobals x = some (some (.int n t)) := ⟨t, h⟩
theorem df_mk {P : Program} {w : World} {K : PySem.W.Frag} {mg : Str → Option Value} {base : Heap} {CX : CXT} {k : Nat} {x : Str} {st : Stmt} {f : Addr} {ps : List Str} {sp : Sp} (d : DefIn K x x st f) (g : mg x = some (.ref f))
    (bd : ∀ (kV doc pm : Value) (an : Option Addr) (cdv ct : Value) (us : List Value), us.length = ps.length → bindArgs (PySem.W.fnOf x x (defArgs st) (defBody st) (defScope st) .none kV doc pm an cdv ct) ⟨us, []⟩ = pure (ps.zip us))
    (ok : ∀ fd, Fun K x x st f fd → FnOk P w K mg base CX k f fd ps sp) : Df P w K mg base CX k x ps sp := by
  obtain ⟨oc, od, kV, dc, pm, an, cd, ct, sl, h1, h2, h3⟩ := d
  have F := fun_mk (st := st) h1 h2 h3
  exact ⟨f, _, ok _ F, g, h3, F.binds bd⟩
end Tw
set_option Elab.async false
set_option linter.all false
set_option maxRecDepth 100000
set_option maxHeartbeats 4000000
/-! Twindice: order of data, sorted lists (plain) -/
namespace Tw
open PySem PySem.Spec PyProof.Rows L2
/-! ### sorting -/
section
variable {α β : Type}
def ins1 (le : α → α → Bool) (x : α) : List α → List α
  | [] => [x]
  | y :: r => if le x y = true then x :: y :: r else y :: ins1 le x r
def isort (le : α → α → Bool) : List α → List α
  | [] => []
  | x :: r => ins1 le x (isort le r)
theorem ins1_perm (le : α → α → Bool) (x : α) : ∀ l : List α, (ins1 le x l).Perm (x :: l)
  | [] => .refl _
  | y :: r => by
    unfold ins1
    split
    · exact .refl _
    · exact ((ins1_perm le x r).cons y).trans (.swap x y r)
theorem isort_perm (le : α → α → Bool) : ∀ l : List α, (isort le l).Perm l
  | [] => .refl _
  | x :: r => (ins1_perm le x _).trans ((isort_perm le r).cons x)
theorem ins1_sorted {le : α → α → Bool} (tr : ∀ a b c, le a b = true → le b c = true → le a c = true) (tot : ∀ a b, le a b = true ∨ le b a = true) (x : α) : ∀ l : List α, l.Pairwise (fun a b => le a b = true) → (ins1 le x l).Pairwise (fun a b => le a b = true)
  | [], _ => by
    unfold ins1
    exact List.pairwise_singleton _ _
  | y :: r, h => by
    unfold ins1
    have h' := List.pairwise_cons.mp h
    split
    · rename_i e
      refine List.pairwise_cons.mpr ⟨fun z hz => ?_, h⟩
      rcases List.mem_cons.mp hz with rfl | hz
      · exact e
      · exact tr _ _ _ e (h'.1 z hz)
    · rename_i e
      refine List.pairwise_cons.mpr ⟨fun z hz => ?_, ins1_sorted tr tot x r h'.2⟩
      rcases List.mem_cons.mp ((ins1_perm le x r).mem_iff.mp hz) with rfl | hz
      · exact (tot z y).resolve_left e
      · exact h'.1 z hz
theorem isort_sorted {le : α → α → Bool} (tr : ∀ a b c, le a b = true → le b c = true → le a c = true) (tot : ∀ a b, le a b = true ∨ le b a = true) : ∀ l : List α, (isort le l).Pairwise (fun a b => le a b = true)
  | [] => .nil
  | x :: r => ins1_sorted tr tot x _ (isort_sorted tr tot r)
/-- a total order -/
structure TotO (le : α → α → Bool) : Prop where
  tr : ∀ a b c, le a b = true → le b c = true → le a c = true
  tot : ∀ a b, le a b = true ∨ le b a = true
  anti : ∀ a b, le a b = true → le b a = true → a = b
theorem TotO.uniq {le : α → α → Bool} (o : TotO le) {l m : List α} (h : l.Perm m) (hs : l.Pairwise (fun a b => le a b = true)) : l = isort le m :=
  (h.trans (isort_perm le m).symm).eq_of_pairwise (fun a b _ _ h1 h2 => o.anti a b h1 h2) hs (isort_sorted o.tr o.tot m)
theorem TotO.merge {le : α → α → Bool} (o : TotO le) (l : List α) : l.mergeSort le = isort le l :=
  o.uniq (List.mergeSort_perm l le) (List.pairwise_mergeSort o.tr (fun a b => by
    rcases o.tot a b with h | h <;> simp [h]) l)
theorem TotO.perm {le : α → α → Bool} (o : TotO le) {l m : List α} (h : l.Perm m) : isort le l = isort le m := o.uniq ((isort_perm le l).trans h) (isort_sorted o.tr o.tot l)
end
/-! ### the order of data -/
theorem lt_tcons {x y : PyData} {xs ys : List PyData} (h : PySem.W.alike x y = true) : PySem.W.dataLt (.tuple (x :: xs)) (.tuple (y :: ys)) = if PyData.eqv x y = true then PySem.W.dataLt (.tuple xs) (.tuple ys) else PySem.W.dataLt x y := by
  by_cases e : PyData.eqv x y = true
  · rw [if_pos e, PySem.W.dataLt_tuple, PySem.W.dataLt_tuple, PySem.W.dataLt_all_yes h e]
  · rw [if_neg e, PySem.W.dataLt_tuple, PySem.W.dataLt_all_no h (by simpa using e)]
theorem lt_lcons {x y : PyData} {xs ys : List PyData} (h : PySem.W.alike x y = true) : PySem.W.dataLt (.list (x :: xs)) (.list (y :: ys)) = if PyData.eqv x y = true then PySem.W.dataLt (.list xs) (.list ys) else PySem.W.dataLt x y := by
  by_cases e : PyData.eqv x y = true
  · rw [if_pos e, PySem.W.dataLt_list, PySem.W.dataLt_list, PySem.W.dataLt_all_yes h e]
  · rw [if_neg e, PySem.W.dataLt_list, PySem.W.dataLt_all_no h (by simpa using e)]
theorem lt_self (d : PyData) : PySem.W.dataLt d d = false := (PyProof.Rows.listOrd PyProof.Rows.itemOrd).irrefl (PySem.W.keyToks d)
def ltL : List Int → List Int → Bool
  | [], [] => false
  | [], _ :: _ => true
  | _ :: _, [] => false
  | x :: xs, y :: ys => if x = y then ltL xs ys else decide (x < y)
theorem lt_nil_cons {y : PyData} {ys : List PyData} : PySem.W.dataLt (.list []) (.list (y :: ys)) = true := by
  rw [PySem.W.dataLt_list, PySem.W.toks_all_cons]
  simp only [PySem.W.keyToksAll]
  rw [PySem.W.lex_atom (by decide), PySem.W.lex_one]
  decide
theorem lt_cons_nil {y : PyData} {ys : List PyData} : PySem.W.dataLt (.list (y :: ys)) (.list []) = false := by
  rw [PySem.W.dataLt_list, PySem.W.toks_all_cons]
  simp only [PySem.W.keyToksAll]
  rw [PySem.W.lex_atom (by decide), PySem.W.lex_one]
  decide
theorem alike_ints : ∀ xs ys : List Int, PySem.W.alikeAll (xs.map .int) (ys.map .int) = true
  | [], _ => by simp [PySem.W.alikeAll]
  | _ :: _, [] => by simp [PySem.W.alikeAll]
  | x :: xs, y :: ys => by simp only [List.map_cons, PySem.W.alikeAll, PySem.W.alike, alike_ints xs ys, Bool.and_self]
theorem alike_dI (xs ys : List Int) : PySem.W.alike (dI xs) (dI ys) = true := by
  unfold dI
  simp only [PySem.W.alike]
  exact alike_ints xs ys
theorem eqv_int (i j : Int) : PyData.eqv (.int i) (.int j) = decide (i = j) := by
  simp only [PyData.eqv]
  by_cases h : i = j <;> simp [h]
theorem lt_dI : ∀ xs ys : List Int, PySem.W.dataLt (dI xs) (dI ys) = ltL xs ys
  | [], [] => lt_self _
  | [], _ :: _ => lt_nil_cons
  | _ :: _, [] => lt_cons_nil
  | x :: xs, y :: ys => by
    have h : PySem.W.alike (.int x) (.int y) = true := by simp only [PySem.W.alike]
    have e : PySem.W.dataLt (dI (x :: xs)) (dI (y :: ys)) = _ := lt_lcons (xs := xs.map .int) (ys := ys.map .int) h
    rw [e, eqv_int, PySem.W.dataLt_int]
    unfold ltL
    by_cases z : x = y
    · rw [decide_eq_true z, if_pos rfl, if_pos z]
      exact lt_dI xs ys
    · rw [decide_eq_false z, if_neg Bool.false_ne_true, if_neg z]
/-! pairs of ints -/
def dP (q : Int × Int) : PyData := .tuple [.int q.1, .int q.2]
def leP (a b : Int × Int) : Bool := if a.1 = b.1 then decide (a.2 ≤ b.2) else decide (a.1 < b.1)
theorem leP_tot : TotO leP where
  tr a b c h1 h2 := by
    unfold leP at *
    split at h1 <;> split at h2 <;> split <;> simp only [decide_eq_true_eq] at * <;> omega
  tot a b := by
    unfold leP
    split <;> split <;> simp only [decide_eq_true_eq] <;> omega
  anti a b h1 h2 := by
    unfold leP at *
    split at h1 <;> split at h2 <;> simp only [decide_eq_true_eq] at *
    · exact Prod.ext (by assumption) (by omega)
    all_goals omega
theorem le_dP (a b : Int × Int) : (!PySem.W.dataLt (dP b) (dP a)) = leP a b := by
  have h1 : PySem.W.alike (.int b.1) (.int a.1) = true := by simp only [PySem.W.alike]
  have h2 : PySem.W.alike (.int b.2) (.int a.2) = true := by simp only [PySem.W.alike]
  unfold dP
  rw [lt_tcons h1, lt_tcons h2, eqv_int, eqv_int, PySem.W.dataLt_int, PySem.W.dataLt_int, lt_self]
  unfold leP
  by_cases z : b.1 = a.1
  · rw [decide_eq_true z, if_pos rfl, if_pos z.symm]
    by_cases z2 : b.2 = a.2
    · simp [z2]
    · rw [decide_eq_false z2, if_neg Bool.false_ne_true]
      by_cases z3 : b.2 < a.2
      · rw [decide_eq_true z3, decide_eq_false (by omega)]
        rfl
      · rw [decide_eq_false z3, decide_eq_true (by omega)]
        rfl
  · rw [decide_eq_false z, if_neg Bool.false_ne_true, if_neg (fun e => z e.symm)]
    by_cases z3 : b.1 < a.1
    · rw [decide_eq_true z3, decide_eq_false (by omega)]
      rfl
    · rw [decide_eq_false z3, decide_eq_true (by omega)]
      rfl
/-! ### sorted, by types -/
/-- data of one kind that can be sorted: how they are written, their order -/
structure Srt {δ : Type} (enc : δ → PyData) (le : δ → δ → Bool) : Prop where
  al : ∀ x y, PySem.W.alike (enc x) (enc y) = true
  sk : (∀ x, ∃ u r, enc x = .tuple (u :: r)) ∨ ∀ x, enc x ≠ .none ∧ ∀ xs, enc x ≠ .tuple xs
  dep : ∀ x, (enc x).depth ≤ 60
  ord : ∀ x y, (!PySem.W.dataLt (enc y) (enc x)) = le x y
  o : TotO le
theorem rd_sortT {δ : Type} {enc : δ → PyData} {le : δ → δ → Bool} (S : Srt enc le) {K : PySem.W.Frag} {H : Hp} {Q : VK} {a : Addr} (zs : List (V × δ)) (hs : SqL K H a (zs.map (·.1))) (hd : ∀ z ∈ zs, Dp K H z.1 (enc z.2))
    (q : ∀ (p : Addr) (zs' : List (V × δ)), H p = none → zs'.Perm zs → zs'.map (·.2) = isort le (zs.map (·.2)) → Q (.ref p) (upd H p (.lst (zs'.map (·.1))))) : rSortD K [.ref a] H Q := by
  refine ⟨a, zs.map fun z => (z.1, enc z.2), rfl, ?_, ?_, ?_, ?_, ?_, fun p np => ?_⟩
  · rw [List.map_map]
    exact hs
  · intro b hb
    obtain ⟨z, hz, rfl⟩ := List.mem_map.mp hb
    exact hd z hz
  · intro d hd d' hd'
    rw [List.map_map] at hd hd'
    obtain ⟨z, _, rfl⟩ := List.mem_map.mp hd
    obtain ⟨z', _, rfl⟩ := List.mem_map.mp hd'
    exact S.al _ _
  · rw [List.map_map]
    rcases S.sk with h | h
    · left
      intro d hd
      obtain ⟨z, _, rfl⟩ := List.mem_map.mp hd
      exact h _
    · right
      intro d hd
      obtain ⟨z, _, rfl⟩ := List.mem_map.mp hd
      exact h _
  · intro b hb
    obtain ⟨z, hz, rfl⟩ := List.mem_map.mp hb
    exact S.dep _
  · have e : (zs.map fun z => (z.1, enc z.2)).mergeSort (PySem.W.dataLe false (·.2)) = (zs.mergeSort fun a b => le a.2 b.2).map fun z => (z.1, enc z.2) := by
      refine (List.map_mergeSort fun a _ b _ => ?_).symm
      exact (S.ord a.2 b.2).symm
    rw [e, List.map_map]
    refine q p _ np (List.mergeSort_perm _ _) ?_
    rw [← S.o.merge]
    exact List.map_mergeSort fun a _ b _ => rfl
theorem srt_dP : Srt dP leP where
  al x y := by simp only [dP, PySem.W.alike, PySem.W.alikeAll, Bool.and_self]
  sk := .inl fun x => ⟨_, _, rfl⟩
  dep x := by simp only [dP, PyData.depth, PyData.depthAll]; decide
  ord := le_dP
  o := leP_tot
theorem srt_int : Srt PyData.int (fun a b : Int => decide (a ≤ b)) where
  al x y := by simp only [PySem.W.alike]
  sk := .inr fun x => ⟨(fun h => by cases h), (fun _ h => by cases h)⟩
  dep x := by simp only [PyData.depth]; decide
  ord x y := by
    rw [PySem.W.dataLt_int]
    by_cases h : y < x
    · rw [decide_eq_true h, decide_eq_false (by omega)]
      rfl
    · rw [decide_eq_false h, decide_eq_true (by omega)]
      rfl
  o := { tr := fun a b c h1 h2 => by simp only [decide_eq_true_eq] at *; omega, tot := fun a b => by simp only [decide_eq_true_eq]; omega, anti := fun a b h1 h2 => by simp only [decide_eq_true_eq] at *; omega }
/-! ### sizes of great ints -/
def Bd (n : Nat) (x : Int) : Prop := x.natAbs < 2 ^ n
theorem Bd.mono {n m : Nat} {x : Int} (h : Bd n x) (l : n ≤ m) : Bd m x := Nat.lt_of_lt_of_le h (Nat.pow_le_pow_right (by decide) l)
theorem Bd.add {n : Nat} {x y : Int} (h : Bd n x) (h' : Bd n y) : Bd (n + 1) (x + y) := by
  unfold Bd at *
  rw [Nat.pow_succ]
  have := Int.natAbs_add_le x y
  omega
theorem Bd.mul {n m : Nat} {x y : Int} (h : Bd n x) (h' : Bd m y) : Bd (n + m) (x * y) := wide_lt h h'
theorem Bd.mulx {n m : Nat} {x y : Int} (h : Bd n x) (h' : Bd m y) (l : n + m ≤ 134217728) : CMulX x y := mulx_ok h h' l
theorem Bd.of_bits {n : Nat} {x : Int} (h : Builtin.Int.intBits x ≤ n) : Bd n x := by
  unfold Builtin.Int.intBits at h
  unfold Bd
  by_cases e : x = 0
  · subst e
    exact Nat.pow_pos (by decide)
  · have e' : (x == 0) = false := by simpa using e
    rw [e'] at h
    have h1 : x.natAbs < 2 ^ (x.natAbs.log2 + 1) := Nat.lt_log2_self
    exact Nat.lt_of_lt_of_le h1 (Nat.pow_le_pow_right (by decide) h)
theorem bd_sum {n : Nat} : ∀ l : List Int, (∀ x ∈ l, Bd n x) → Bd (n + l.length) l.sum
  | [], _ => by
    unfold Bd
    exact Nat.pow_pos (by decide)
  | x :: r, h => by
    rw [List.sum_cons]
    have h1 := bd_sum r fun y hy => h y (List.mem_cons_of_mem _ hy)
    exact Bd.add ((h x List.mem_cons_self).mono (Nat.le_add_right _ _)) h1
/-! ### slices -/
theorem cut_to (xs : List V) (k : Nat) : cutV xs none (some (k : Int)) = xs.take k := by
  unfold cutV
  rw [HT.sIx_nat, HT.sIx_none, Nat.sub_zero, List.drop_zero]
  exact (List.take_eq_take_min).symm
end Tw
set_option Elab.async false
set_option linter.all false
set_option maxRecDepth 100000
set_option maxHeartbeats 4000000
/-! Twindice: counts of sums (plain) -/
namespace Tw
open PySem L2
theorem findN_inj {c : List (Int × Int)} {k : Int} {o : Option Int} (h : valV (kvs c) (Sum.inl k) = o.map V.int) : findN c k = o := by
  rw [valV_kvs] at h
  cases e : findN c k <;> cases o <;> rw [e] at h <;> simp_all
theorem findN_put (c : List (Int × Int)) (k j v : Int) : findN (putN c k v) j = if j = k then some v else findN c j := by
  apply findN_inj
  rw [← put_kvs, valV_put, valV_kvs]
  by_cases h : j = k
  · subst h
    simp
  · rw [if_neg (fun z => h (Sum.inl.inj z)), if_neg h]
theorem any_key (c : List (Int × Int)) (k : Int) : (c.any fun p => decide (p.1 = k)) = true ↔ k ∈ c.map (·.1) := by
  rw [List.any_eq_true, List.mem_map]
  constructor
  · rintro ⟨p, hp, e⟩
    exact ⟨p, hp, of_decide_eq_true e⟩
  · rintro ⟨p, hp, e⟩
    exact ⟨p, hp, decide_eq_true e⟩
theorem keys_put (c : List (Int × Int)) (k v : Int) : (putN c k v).map (·.1) = if k ∈ c.map (·.1) then c.map (·.1) else c.map (·.1) ++ [k] := by
  unfold putN
  by_cases h : (c.any fun p => decide (p.1 = k)) = true
  · rw [if_pos h, if_pos ((any_key c k).mp h), List.map_map]
    congr 1
    funext p
    simp only [Function.comp]
    split <;> rfl
  · rw [if_neg h, if_neg (fun z => h ((any_key c k).mpr z)), List.map_append]
    rfl
theorem nodup_put {c : List (Int × Int)} (h : (c.map (·.1)).Nodup) (k v : Int) : ((putN c k v).map (·.1)).Nodup := by
  rw [keys_put]
  split
  · exact h
  · rename_i hk
    refine List.nodup_append.mpr ⟨h, List.pairwise_singleton _ _, ?_⟩
    intro a ha b hb e
    rw [List.mem_singleton] at hb
    subst hb
    subst e
    exact hk ha
theorem tally_snoc (l : List Int) (k : Int) : tally (l ++ [k]) = putN (tally l) k (getN (tally l) k + 1) := by
  unfold tally
  rw [tallyF_app]
  rfl
theorem rev_ind {α : Type} {p : List α → Prop} (h0 : p []) (hs : ∀ l x, p l → p (l ++ [x])) (l : List α) : p l := by
  have h : ∀ m : List α, p m.reverse := fun m => by
    induction m with
    | nil => exact h0
    | cons x r ih =>
      rw [List.reverse_cons]
      exact hs _ x ih
  have := h l.reverse
  rwa [List.reverse_reverse] at this
theorem tally_nodup (l : List Int) : ((tally l).map (·.1)).Nodup := by
  induction l using rev_ind with
  | h0 => exact List.nodup_nil
  | hs l x ih =>
    rw [tally_snoc]
    exact nodup_put ih x _
theorem findN_tally (l : List Int) (k : Int) : findN (tally l) k = if k ∈ l then some (l.count k : Int) else none := by
  induction l using rev_ind with
  | h0 => simp [tally, tallyF, findN]
  | hs l x ih =>
    rw [tally_snoc, findN_put]
    by_cases h : k = x
    · subst h
      rw [if_pos rfl, if_pos (by simp), getN, ih, List.count_append]
      by_cases hk : k ∈ l
      · rw [if_pos hk]
        simp
      · rw [if_neg hk, List.count_eq_zero_of_not_mem hk]
        simp
    · rw [if_neg h, ih, List.count_append]
      have e : (x == k) = false := by simpa using fun z => h z.symm
      by_cases hk : k ∈ l
      · rw [if_pos hk, if_pos (List.mem_append_left _ hk)]
        simp [List.count_singleton, e]
      · rw [if_neg hk, if_neg (by
          intro z
          rcases List.mem_append.mp z with z | z
          · exact hk z
          · exact h (List.mem_singleton.mp z))]
/-- how often a sum comes -/
theorem getN_tally (l : List Int) (k : Int) : getN (tally l) k = l.count k := by
  rw [getN, findN_tally]
  by_cases h : k ∈ l
  · rw [if_pos h]
    rfl
  · rw [if_neg h, List.count_eq_zero_of_not_mem h]
    rfl
theorem mem_find : ∀ {c : List (Int × Int)}, (c.map (·.1)).Nodup → ∀ p : Int × Int, p ∈ c ↔ findN c p.1 = some p.2
  | [], _, p => by simp [findN]
  | q :: r, h, p => by
    rw [List.map_cons, List.nodup_cons] at h
    by_cases e : q.1 = p.1
    · have e2 : findN (q :: r) p.1 = some q.2 := by simp [findN, List.find?_cons, e]
      rw [e2]
      constructor
      · intro hp
        rcases List.mem_cons.mp hp with rfl | hp
        · rfl
        · exact absurd (by rw [e]; exact List.mem_map.mpr ⟨p, hp, rfl⟩) h.1
      · intro z
        have : q = p := Prod.ext e (Option.some.inj z)
        rw [this]
        exact List.mem_cons_self
    · have e2 : findN (q :: r) p.1 = findN r p.1 := by simp [findN, List.find?_cons, e]
      rw [e2, ← mem_find h.2 p]
      constructor
      · intro hp
        rcases List.mem_cons.mp hp with rfl | hp
        · exact absurd rfl e
        · exact hp
      · exact fun hp => List.mem_cons_of_mem _ hp
theorem nodup_of_keys : ∀ {c : List (Int × Int)}, (c.map (·.1)).Nodup → c.Nodup
  | [], _ => List.nodup_nil
  | q :: r, h => by
    rw [List.map_cons, List.nodup_cons] at h
    exact List.nodup_cons.mpr ⟨fun z => h.1 (List.mem_map.mpr ⟨q, z, rfl⟩), nodup_of_keys h.2⟩
theorem tally_perm {l m : List Int} (h : l.Perm m) : (tally l).Perm (tally m) := by
  refine (List.perm_ext_iff_of_nodup (nodup_of_keys (tally_nodup l)) (nodup_of_keys (tally_nodup m))).mpr fun p => ?_
  rw [mem_find (tally_nodup l), mem_find (tally_nodup m), findN_tally, findN_tally, h.count_eq]
  simp only [h.mem_iff]
theorem sum_put : ∀ {c : List (Int × Int)}, (c.map (·.1)).Nodup → ∀ k v, ((putN c k v).map (·.2)).sum = (c.map (·.2)).sum - getN c k + v
  | [], _, k, v => by simp [putN, getN, findN]
  | q :: r, h, k, v => by
    rw [List.map_cons, List.nodup_cons] at h
    have ih := sum_put h.2 k v
    by_cases e : q.1 = k
    · have hk : ¬ k ∈ r.map (·.1) := by
        rw [← e]
        exact h.1
      have e1 : putN (q :: r) k v = (q.1, v) :: r := by
        unfold putN
        rw [if_pos (by simp [e]), List.map_cons, if_pos e]
        congr 1
        conv => rhs; rw [← List.map_id r]
        refine List.map_congr_left fun p hp => ?_
        rw [if_neg (fun z => hk (List.mem_map.mpr ⟨p, hp, z⟩))]
        rfl
      have e2 : getN (q :: r) k = q.2 := by simp [getN, findN, List.find?_cons, e]
      rw [e1, e2, List.map_cons, List.map_cons, List.sum_cons, List.sum_cons]
      omega
    · have e1 : putN (q :: r) k v = q :: putN r k v := by
        unfold putN
        have ea : ((q :: r).any fun p => decide (p.1 = k)) = r.any fun p => decide (p.1 = k) := by simp [e]
        rw [ea]
        split
        · rw [List.map_cons, if_neg e]
        · rfl
      have e2 : getN (q :: r) k = getN r k := by simp [getN, findN, List.find?_cons, e]
      rw [e1, e2, List.map_cons, List.map_cons, List.sum_cons, List.sum_cons, ih]
      omega
theorem tally_sum (l : List Int) : ((tally l).map (·.2)).sum = l.length := by
  induction l using rev_ind with
  | h0 => rfl
  | hs l x ih =>
    rw [tally_snoc, sum_put (tally_nodup l), ih, List.length_append, List.length_singleton]
    omega
theorem allS_nil : ∀ l : List Int, allS l [] = []
  | [] => rfl
  | m :: r => by
    show ([] : List Int) ++ allS r [] = []
    rw [allS_nil r]
    rfl
theorem allS_right : ∀ (l : List Int) (x : Int) (r : List Int), (allS l (x :: r)).Perm (l.map (fun m => m + x) ++ allS l r)
  | [], _, _ => .refl _
  | m :: l, x, r => by
    have ih := allS_right l x r
    have e1 : allS (m :: l) (x :: r) = (m + x) :: (r.map (fun t => m + t) ++ allS l (x :: r)) := rfl
    have e2 : allS (m :: l) r = r.map (fun t => m + t) ++ allS l r := rfl
    rw [e1, e2, List.map_cons, List.cons_append]
    refine .cons _ ?_
    refine (ih.append_left _).trans ?_
    rw [← List.append_assoc, ← List.append_assoc]
    exact (List.perm_append_comm).append_right _
theorem allS_comm : ∀ l m : List Int, (allS l m).Perm (allS m l)
  | [], m => by
    rw [allS_nil]
    exact .refl _
  | x :: r, m => by
    refine .trans ?_ (allS_right m x r).symm
    have e : allS (x :: r) m = m.map (fun t => x + t) ++ allS r m := rfl
    rw [e]
    refine .append ?_ (allS_comm r m)
    rw [show (fun t : Int => x + t) = fun m => m + x from funext fun t => Int.add_comm x t]
theorem perm_sum {l m : List Int} (h : l.Perm m) : l.sum = m.sum := by
  induction h with
  | nil => rfl
  | cons x _ ih => rw [List.sum_cons, List.sum_cons, ih]
  | swap x y l => simp only [List.sum_cons]; omega
  | trans _ _ h1 h2 => exact h1.trans h2
def sumsM (one other : List Int) : List (Int × Int) := isort leP (tally (allS one other))
theorem sumsM_comm (one other : List Int) : sumsM one other = sumsM other one := leP_tot.perm (tally_perm (allS_comm one other))
theorem sumsM_sum (one other : List Int) : ((sumsM one other).map (·.2)).sum = (one.length : Int) * other.length := by
  have h : ((sumsM one other).map (·.2)).Perm ((tally (allS one other)).map (·.2)) := (isort_perm leP _).map _
  rw [perm_sum h, tally_sum, allS_len]
  exact Int.natCast_mul _ _
/-! pairs as data -/
def dPs (ps : List (Int × Int)) : PyData := .list (ps.map dP)
theorem sh_dP {q : Int × Int} : Sh 1 (dP q) := sh_tuple fun d hd => by
  simp only [List.mem_cons, List.not_mem_nil, or_false] at hd
  rcases hd with rfl | rfl <;> exact sh_int
theorem sh_dPs (ps : List (Int × Int)) : Sh 2 (dPs ps) := sh_list fun d hd => by
  obtain ⟨q, _, rfl⟩ := List.mem_map.mp hd
  exact sh_dP
theorem eqv_self {n : Nat} {d : PyData} (h : Sh n d) : PyData.eqv d d = true := SeqAt.eqv_refl d h.1
end Tw
set_option Elab.async false
set_option linter.all false
set_option maxRecDepth 100000
set_option maxHeartbeats 4000000
/-! Twindice: min of four, == of dicts, classes -/
namespace Tw
open PySem PySem.Spec PyProof.Rows L2
section
variable {prog : Program} {w : World} {A : Around} {E : Value → Shared → Prop} {s : Shared}
theorem args_min4 (a b c d : Value) : argsOk "min" ⟨[a, b, c, d], []⟩ := by unfold argsOk; kernel_rfl
theorem call_min_four {a b c d : Value} {Q : Value → Shared → Prop}
    (h : wpAny (model prog w) A.in1 (pyIter (.ref s.heap.objs.size)) (fun it u => ∃ I fp wr n G St bt, it = .ref I ∧ Walks prog w A.in1 I fp wr n G St ∧ St 0 u.heap ∧ (∀ y ∈ fp, y < u.heap.objs.size) ∧ 0 < n ∧ CmpOf prog w A.in1 .Lt G bt ∧
      ∀ v h' tk, G (argBest bt (n - 1)) v → (∀ y o, y ∉ wr → u.heap.get? y = some o → h'.get? y = some o) → Q v { u with heap := h', toks := tk }) E
      { s with heap := s.heap.push { cls := .type "tuple", data := .seq #[a, b, c, d] } }) :
    wpAny (model prog w) A (call (.builtin "min") [a, b, c, d]) Q E s := by
  have nm : (toString "min" ++ toString ".loop" : String) = "min.loop" := by decide
  refine call_function_tree F.kind_min F.plain_min F.entry_min (args_min4 _ _ _ _) ?_
  show wpAny _ A.in1 (Builtin.Builtins.bindParams "min" ["key", "default"] 0 ⟨[], []⟩ >>= _) _ E s
  refine wpAny_bind (wpAny_of_eq (show Builtin.Builtins.bindParams "min" ["key", "default"] 0 ⟨[], []⟩ = pure ([none, none] : List (Option Value)) from rfl) ?_)
  show wpAny _ A.in1 (newTuple [a, b, c, d] >>= _) _ E s
  refine wpAny_bind (wpAny_newObj_type (wpAny_bind (wpAny_mono h (fun it u hu => ?_) fun _ _ e => e)))
  obtain ⟨I, fp, wr, n, G, St, bt, rfl, W, hst, hfp, hn, hcmp, hQ⟩ := hu
  refine wpAny_bind (wpAny_newObj_type ?_)
  rw [nm]
  refine wpAny_pure ⟨plainId_quiet F.plain_min_loop _, codeAny_min_loop_first W bt hcmp u.heap.objs.size (fun hm => Nat.lt_irrefl _ (hfp _ hm)) hn (W.frame _ _ _ hst fun y _ o e => Heap.get?_push_of_some _ e) (Heap.get?_push_size _ rfl) fun v h' tk hP hk => ?_⟩
  exact hQ v h' tk hP fun y o hy e => hk y o hy (Nat.ne_of_lt (Heap.lt_size e)) (Heap.get?_push_of_some _ e)
/-- min(a, b, c, d) of four ints -/
def min4 (a b c d : Int) : Int := min (min (min a b) c) d
theorem min_four {a b c d : Int} {t1 t2 t3 t4 : Tok} {Q : Value → Shared → Prop} (hh : A.handled = none)
    (h : ∀ h' tk t, (∀ y o, s.heap.get? y = some o → h'.get? y = some o) → Q (.int (min4 a b c d) t) { s with heap := h', toks := tk }) :
    wpAny (model prog w) A (call (.builtin "min") [.int a t1, .int b t2, .int c t3, .int d t4]) Q E s := by
  have hT : (s.heap.push { cls := .type "tuple", data := .seq #[.int a t1, .int b t2, .int c t3, .int d t4] }).IsTuple s.heap.objs.size (intItems #[(a, t1), (b, t2), (c, t3), (d, t4)]) := ⟨_, Heap.get?_push_size _ rfl, rfl, 0, by simp [intItems]⟩
  have hsz : (s.heap.push { cls := .type "tuple", data := .seq #[.int a t1, .int b t2, .int c t3, .int d t4] }).objs.size = s.heap.objs.size + 1 := Heap.size_push ..
  refine call_min_four (wpAny_pyIter_tuple hT ?_)
  refine ⟨_, [_, s.heap.objs.size], [_], _, _, _, _, rfl, Walks.tuple (A := A.in1) hh _ s.heap.objs.size (by rw [hsz]; exact Nat.ne_of_lt (Nat.lt_succ_self _)) (intItems #[(a, t1), (b, t2), (c, t3), (d, t4)]),
    ⟨⟨_, Heap.get?_push_size _ rfl, rfl, rfl⟩, hT.push _⟩, fun y hy => ?_, by simp [intItems], CmpOf.ints_lt (numAt #[(a, t1), (b, t2), (c, t3), (d, t4)]) (fun _ _ => intItems_at), fun v h' tk hP hk => ?_⟩
  · show y < ((s.heap.push _).push _).objs.size
    rw [Heap.size_push, hsz]
    simp only [List.mem_cons, List.not_mem_nil, or_false] at hy
    rcases hy with rfl | rfl
    · rw [hsz]
      exact Nat.lt_succ_self _
    · exact Nat.lt_succ_of_lt (Nat.lt_succ_self _)
  · have hold : ∀ y o, s.heap.get? y = some o → h'.get? y = some o := fun y o e => by
      refine hk y o (fun hm => ?_) (Heap.get?_push_of_some _ (Heap.get?_push_of_some _ e))
      have e1 := List.mem_singleton.mp hm
      have lt := Heap.lt_size e
      rw [e1, hsz] at lt
      exact Nat.lt_irrefl _ (Nat.lt_of_succ_lt lt)
    have hP2 : (intItems #[(a, t1), (b, t2), (c, t3), (d, t4)])[argBest (fun i j => decide (numAt #[(a, t1), (b, t2), (c, t3), (d, t4)] i < numAt #[(a, t1), (b, t2), (c, t3), (d, t4)] j)) 3]? = some v := by
      have z : (intItems #[(a, t1), (b, t2), (c, t3), (d, t4)]).size - 1 = 3 := by simp [intItems]
      rw [← z]
      exact hP
    have hv : ∃ t, v = .int (min4 a b c d) t := by
      unfold min4
      by_cases h1 : b < a
      · by_cases h2 : c < b
        · by_cases h3 : d < c
          · simp [argBest, numAt, h1, h2, h3, intItems] at hP2
            exact ⟨t4, by rw [← hP2]; congr 1; omega⟩
          · simp [argBest, numAt, h1, h2, h3, intItems] at hP2
            exact ⟨t3, by rw [← hP2]; congr 1; omega⟩
        · by_cases h3 : d < b
          · simp [argBest, numAt, h1, h2, h3, intItems] at hP2
            exact ⟨t4, by rw [← hP2]; congr 1; omega⟩
          · simp [argBest, numAt, h1, h2, h3, intItems] at hP2
            exact ⟨t2, by rw [← hP2]; congr 1; omega⟩
      · by_cases h2 : c < a
        · by_cases h3 : d < c
          · simp [argBest, numAt, h1, h2, h3, intItems] at hP2
            exact ⟨t4, by rw [← hP2]; congr 1; omega⟩
          · simp [argBest, numAt, h1, h2, h3, intItems] at hP2
            exact ⟨t3, by rw [← hP2]; congr 1; omega⟩
        · by_cases h3 : d < a
          · simp [argBest, numAt, h1, h2, h3, intItems] at hP2
            exact ⟨t4, by rw [← hP2]; congr 1; omega⟩
          · simp [argBest, numAt, h1, h2, h3, intItems] at hP2
            exact ⟨t1, by rw [← hP2]; congr 1; omega⟩
    obtain ⟨t, rfl⟩ := hv
    exact h h' tk t hold
end
section
variable {X : Cx}
def rMin4 : List V → Hp → VK → Prop := fun xs H Q => ∃ a b c d : Int, xs = [.int a, .int b, .int c, .int d] ∧ Q (.int (min4 a b c d)) H
theorem call_min4 (hc : X.calm = true) : CallR X (.builtin "min") rMin4 := by
  intro pins s σ H xs us Q I r h
  obtain ⟨a, b, c, d, rfl, q⟩ := h
  match us, r with
  | [_, _, _, _], .cons ⟨t1, e1⟩ (.cons ⟨t2, e2⟩ (.cons ⟨t3, e3⟩ (.cons ⟨t4, e4⟩ .nil))) =>
    subst e1 e2 e3 e4
    exact min_four (I.ok.hd hc) fun h' tk t k => ⟨.int (min4 a b c d), H, I.kept k, ⟨t, rfl⟩, q⟩
/-! ### == of two dicts of ints -/
def dEq (c1 c2 : List (Int × Int)) : Bool := decide (c1.length = c2.length) && c1.all fun p => decide (findN c2 p.1 = some p.2)
def rEqK : R2 := fun x y H Q => ∃ a b c1 c2, x = .ref a ∧ y = .ref b ∧ H a = some (.dK (kvs c1)) ∧ H b = some (.dK (kvs c2)) ∧ Q (.bl (dEq c1 c2)) H
theorem hits_of {A : Around} {s : Shared} {c2 : List (Int × Int)} {vb : List (L2.Key × Value)} (rb : KV (kvs c2) vb) : ∀ {c1 : List (Int × Int)} {va : List (L2.Key × Value)}, KV (kvs c1) va → PySem.W.KeqHits A s vb va (c1.all fun p => decide (findN c2 p.1 = some p.2))
  | [], _, .nil => .nil
  | p :: c1, _, .cons (b := q) h t => by
    have ih := hits_of (A := A) (s := s) rb t
    obtain ⟨k, v⟩ := q
    obtain ⟨ek, tk, ev⟩ := h
    have ek' : k = Sum.inl p.1 := ek.symm
    have ev' : v = Value.int p.2 tk := ev
    subst ek' ev'
    have hv := KV.val rb (Sum.inl p.1)
    rw [valV_kvs] at hv
    rw [List.all_cons]
    cases e : findN c2 p.1 with
    | none =>
      rw [e] at hv
      have hn : valueAt vb (Sum.inl p.1) = none := RelO.none_of hv
      have e2 : decide ((none : Option Int) = some p.2) = false := rfl
      rw [e2, Bool.false_and]
      exact .miss hn
    | some z =>
      rw [e] at hv
      obtain ⟨y, hy, ty, ey⟩ := RelO.some_of hv
      subst ey
      have e2 : decide (some z = some p.2) = PyData.eqv (.int p.2) (.int z) := by
        rw [eqv_int]
        by_cases h : p.2 = z
        · simp [h]
        · simp [h]
          exact fun w => h w.symm
      rw [e2]
      exact .hit hy (PySem.W.keq_flat (fun h => .int _ _) (fun h => .int _ _)) ih
theorem op_eqDict (hu : X.A.units < cLine) : OpR X (compareOp .Eq) rEqK := by
  intro pins s σ H x y v u Q I rx ry h
  obtain ⟨a, b, c1, c2, rfl, rfl, ea, eb, q⟩ := h
  obtain rfl : v = Value.ref a := rx
  obtain rfl : u = Value.ref b := ry
  obtain ⟨_, ya, va, ra, da⟩ := (show ObjOk X.prog X.w H s.heap a (.dK (kvs c1)) from I.hok a _ ea)
  obtain ⟨_, yb, vb, rb, db⟩ := (show ObjOk X.prog X.w H s.heap b (.dK (kvs c2)) from I.hok b _ eb)
  refine PySem.W.keq_eq (knd := mixKind X.prog X.w) ya yb da db hu (fun _ => hits_of rb ra) (fin_bl I q ?_)
  have l1 : va.length = c1.length := by
    rw [← ra.length]
    exact List.length_map ..
  have l2 : vb.length = c2.length := by
    rw [← rb.length]
    exact List.length_map ..
  rw [l1, l2]
  unfold dEq
  congr 1
/-! ### C() of a class without an own __init__ -/
structure Cl0 (K : PySem.W.Frag) (mg : Str → Option Value) (x : Str) (C : Addr) : Prop where
  g : mg x = some (.ref C)
  makes : PySem.W.makesIn K C = true
  init : PySem.W.findIn K (.ref C) "__init__" = some (some (.builtin "object.__init__"))
  kp : PySem.W.keepIn K (.ref C) = true
def tNew0 (C : Addr) : TE := fun _ H Q => ∀ x dx, H x = none → H dx = none → dx ≠ x → Q (.ref x) (upd (upd H dx (.own x)) x (.ins C dx []))
theorem run_new0 {x : Str} {C : Addr} {pins : List (Addr × Obj)} {σ : St} {H : Hp} {s : Shared} {Q : VK} (M : Cl0 X.K X.mg x C) (I : Inv X pins σ H s) (h : tNew0 C σ H Q) : wpAny (model X.prog X.w) X.A (call (.ref C) []) (EP X pins σ Q) X.xe s := by
  have hq := h (s.heap.objs.size + 1) s.heap.objs.size (I.hok.fresh (Nat.le_succ _)) (I.hok.fresh (Nat.le_refl _)) (Nat.ne_of_lt (Nat.lt_succ_self _))
  have I2 := Inv.made (C := C) I
  have Y := PySem.W.makes_of (M := model X.prog X.w) I.kIn M.makes
  refine wpAny_call (make_map0 I.kIn M.makes M.init (fun self => PySem.W.Looks.of_pure (PySem.W.oi_bind self)) ?_)
  have g1 : ((s.heap.push PySem.W.emptyDict).push (PySem.W.instObj C s.heap.objs.size)).get? (s.heap.objs.size + 1) = some (PySem.W.instObj C s.heap.objs.size) := by
    have e := Heap.get?_push_size (s.heap.push PySem.W.emptyDict) (o := PySem.W.instObj C s.heap.objs.size) rfl
    rw [Heap.size_push] at e
    exact e
  have t1 : PySem.W.Looks (model X.prog X.w) ((s.heap.push PySem.W.emptyDict).push (PySem.W.instObj C s.heap.objs.size)) (typeOf (.ref (s.heap.objs.size + 1))) (.ref C) := (PySem.W.Looks.ld g1).andThen .now
  have t2 : PySem.W.Looks (model X.prog X.w) ((s.heap.push PySem.W.emptyDict).push (PySem.W.instObj C s.heap.objs.size)) (isInstance (.ref (s.heap.objs.size + 1)) (.type "object")) true := t1.andThen (Y.top.keeps fun b o e => Heap.get?_push_of_some (PySem.W.instObj C s.heap.objs.size) (Heap.get?_push_of_some PySem.W.emptyDict e))
  refine codeAny_call_builtin PySem.W.oi_plain PySem.W.entry_oi (@PySem.W.check_slot (model X.prog X.w) _ _ _ "object.__init__" "object" "__init__" (.ref (s.heap.objs.size + 1)) [] [] _ PySem.W.oi_kind PySem.W.oi_split t2 (PySem.W.oi_args (.ref (s.heap.objs.size + 1))) ?_)
  rw [PySem.W.oi_run]
  exact wpAny_pure (And.intro rfl ⟨V.ref (s.heap.objs.size + 1), _, I2, rfl, hq⟩)
theorem pe_new0 {x : Str} {C : Addr} {p pos : Pos} (M : Cl0 X.K X.mg x C) (hg : Gl X x) (hdb : (x == ("__debug__" : Str)) = false := by decide) : PE X (.Call (.Name x p) [] [] pos) (tNew0 C) := by
  refine ⟨fun pins s σ H Q I h => ?_⟩
  refine wpAny_Call_Name_kw (ld_glob I hg M.g ?_ hdb)
  exact PySem.W.callWith_K0 I.kIn M.kp (run_new0 M I h)
/-- one of two readings -/
theorem pe_alt {e : Expr} {t u : TE} (h : PE X e t) (h' : PE X e u) : PE X e (fun σ H Q => t σ H Q ∨ u σ H Q) := ⟨fun pins s σ H Q I q => q.elim (h.run pins s σ H Q I) (h'.run pins s σ H Q I)⟩
end
/-- a class that is only named -/
structure ClG (K : PySem.W.Frag) (mg : Str → Option Value) (x : Str) (C : Addr) : Prop where
  g : mg x = some (.ref C)
/-- what isinstance asks of an own class's instances -/
structure InsT (K : PySem.W.Frag) (C : Addr) : Prop where
  c : Cls K C
  ha : PySem.W.findIn K (.ref C) "__class__" = some (some (.builtin "object.__class__"))
  hn : PySem.W.specialIn K (.builtin "object.__class__") "__get__" = some (some (.builtin "getset_descriptor.__get__"))
  htk : PySem.W.takesIn K (.builtin "object.__class__") = some true
  hm : PySem.W.mroIn K C (.type "object") = some true
theorem InsT.ty {K : PySem.W.Frag} {C a dx : Addr} {H : Hp} {fs : List (Str × V)} (i : InsT K C) (h : H a = some (.ins C dx fs)) : TyX K H (.ref a) (.ref C) := .base (.ins h i.c i.ha i.hn i.htk i.hm)
/-! ### classes with an __init__, methods, by their promises -/
structure ClM (P : Program) (w : World) (K : PySem.W.Frag) (mg : Str → Option Value) (base : Heap) (x : Str) (C : Addr) (k : Nat) (ps : List Str) (sp : Sp) : Prop where
  g : mg x = some (.ref C)
  ex : ∃ f fd, Mk K C f ∧ FnOk P w K mg base CX0 k f fd ps sp ∧ Binds K fd ps []
structure Md (P : Program) (w : World) (K : PySem.W.Frag) (mg : Str → Option Value) (base : Heap) (C : Addr) (m : Str) (k : Nat) (ps : List Str) (sp : Sp) : Prop where
  c : Cls K C
  ex : ∃ f fd, Meth K C m f ∧ FnOk P w K mg base CX0 k f fd ps sp ∧ Binds K fd ps []
section
variable {X : Cx} {k : Nat} {x m : Str} {C : Addr} {ps : List Str} {sp : Sp} {p pos apos : Pos} {o e : Expr} {es : List Expr} {ta : TE} {t : TA}
theorem pe_mk (M : ClM X.prog X.w X.K X.mg X.base x C k ps sp) (hr : Room (k + 1) X.A) (hg : Gl X x) (ha : PA X (e :: es) t)
    (hdb : (x == ("__debug__" : Str)) = false := by decide) (he : starEach (e :: es) X.env = (false, eval e X.env) :: starEach es X.env := by rfl) (hpl : (backTo pos (starEach es X.env)).any (·.1) = false := by rfl) :
    PE X (.Call (.Name x p) (e :: es) [] pos) (tMake C sp [] E0 t) := by
  obtain ⟨f, fd, mk, F, hb⟩ := M.ex
  exact pe_make mk F hr hg M.g hb .nil pass0 ha hdb he hpl
theorem pe_md {pl : Sem Bool} (he : PE X o ta) (M : Md X.prog X.w X.K X.mg X.base C m k ps sp) (hr : Room k X.A) (ha : PA X (e :: es) t)
    (hst : starEach (e :: es) X.env = (false, eval e X.env) :: starEach es X.env := by rfl) (hpl : (backTo pos (starEach es X.env)).any (·.1) = false := by rfl)
    (ht : eval (.Call (.Attribute o m apos) (e :: es) [] pos) X.env = (do
      let ov ← eval o X.env
      standAt apos.atName
      let (f, first) ← holding [ov] (getMethod ov m pl)
      callWith pos f first (backTo pos (starEach (e :: es) X.env)) (backToKw pos (keywordEach [] X.env))) := by rfl) :
    PE X (.Call (.Attribute o m apos) (e :: es) [] pos) (tMeth C m sp [] E0 ta t) := by
  obtain ⟨f, fd, me, F, hb⟩ := M.ex
  exact pe_meth he M.c me F hr hb .nil pass0 ha hst hpl ht
theorem rd_mk {σ : St} {H : Hp} {Q : VK} {E : XK} (h : t σ H fun vs H1 => ∀ x dx, H1 x = none → H1 dx = none → dx ≠ x → sp (.ref x :: (vs ++ [])) (upd (upd H1 dx (.own x)) x (.ins C dx [])) (fun v H2 => v = .non ∧ Q (.ref x) H2) E) : tMake C sp [] E t σ H Q := h
theorem rd_md {σ : St} {H : Hp} {Q : VK} {E : XK} (h : ta σ H fun x H1 => ∃ a dx fs, x = .ref a ∧ H1 a = some (.ins C dx fs) ∧ fs.lookup m = none ∧ t σ H1 fun vs H2 => sp (x :: (vs ++ [])) H2 Q E) : tMeth C m sp [] E ta t σ H Q := h
theorem rd_new0 {σ : St} {H : Hp} {Q : VK} (h : ∀ x dx, H x = none → H dx = none → dx ≠ x → Q (.ref x) (upd (upd H dx (.own x)) x (.ins C dx []))) : tNew0 C σ H Q := h
theorem rd_fld {K : PySem.W.Frag} {f : Str} {σ : St} {H : Hp} {Q : VK} (h : ta σ H fun x H1 => ∃ a C dx fs v, x = .ref a ∧ H1 a = some (.ins C dx fs) ∧ Cls K C ∧ NoAttr K C f ∧ fs.lookup f = some v ∧ Q v H1) : tFld K ta f σ H Q := h
theorem rd_sfld {K : PySem.W.Frag} {f : Str} {tv : TE} {D : Ends} {σ : St} {H : Hp} (h : tv σ H fun y H1 => ta σ H1 fun x H2 => ∃ a C dx fs, x = .ref a ∧ H2 a = some (.ins C dx fs) ∧ Cls K C ∧ NoAttr K C f ∧ fs.length < 1000 ∧ D.nx σ (upd H2 a (.ins C dx (putF f y fs)))) : sFld K ta tv f D σ H := h
end
end Tw
set_option Elab.async false
set_option linter.all false
set_option maxRecDepth 100000
set_option maxHeartbeats 4000000
/-! Twindice: what is promised of the program's defs -/
namespace Tw
open PySem PySem.Spec PyProof.Rows L2
theorem wh_eq (x : V) : (intV x && !blV x) = whV x := by cases x <;> rfl
def spIsWhole (K : PySem.W.Frag) : Sp := fun vs H Q _ => ∃ x, vs = [x] ∧ Kn K H x ∧ Q (.bl (whV x)) H
/-- the number in a value -/
def valI : V → Int
  | .int i => i
  | _ => 0
/-- whether a list of values is a die -/
def dieB (xs : List V) : Bool := decide (2 ≤ xs.length) && (decide (xs.length ≤ 72) && (xs.all whV && ((xs.map valI).all (fun n => decide (1 ≤ n) && decide (n ≤ 100)) && decide ((xs.map valI).Pairwise (· ≤ ·)))))
theorem whole_ints : ∀ xs : List V, xs.all whV = true → xs = (xs.map valI).map V.int
  | [], _ => rfl
  | x :: r, h => by
    simp only [List.all_cons, Bool.and_eq_true] at h
    have e := whole_ints r h.2
    cases x <;> first | (have h1 := h.1; cases h1) | skip
    · simp only [List.map_cons, valI]
      rw [← e]
def dieI (ns : List Int) : Bool := decide (2 ≤ ns.length) && (decide (ns.length ≤ 72) && (ns.all (fun n => decide (1 ≤ n) && decide (n ≤ 100)) && decide (ns.Pairwise (· ≤ ·))))
theorem dieB_int (ns : List Int) : dieB (ns.map V.int) = dieI ns := by
  have e1 : (ns.map V.int).map valI = ns := by
    rw [List.map_map]
    exact List.map_id' ns
  have e2 : (ns.map V.int).all whV = true := by
    rw [List.all_map]
    exact List.all_eq_true.mpr fun _ _ => rfl
  unfold dieB dieI
  rw [e1, e2, List.length_map, Bool.true_and]
theorem pw_unique : ∀ {l m : List Int}, l.Perm m → l.Pairwise (· ≤ ·) → m.Pairwise (· ≤ ·) → l = m := fun {l m} h a b =>
  h.eq_of_pairwise (fun x y _ _ h1 h2 => Int.le_antisymm h1 h2) a b
def NoList (K : PySem.W.Frag) (H : Hp) (x : V) : Prop := ∃ t, TyX K H x t ∧ PySem.W.kitOne K t (.type "list") = some false
def spCheckDie (K : PySem.W.Frag) (C : Addr) : Sp := fun vs H Q E => ∃ x, vs = [x] ∧ ((NoList K H x ∧ ∀ H', Same H H' → E (.ref C) none H') ∨
  ∃ a xs, x = .ref a ∧ SqL K H a xs ∧ xs.length ≤ sizeLine ∧ (∀ v ∈ xs, Kn K H v) ∧ (dieB xs = true → ∀ H', Same H H' → Q .non H') ∧ (dieB xs = false → ∀ H', Same H H' → E (.ref C) none H'))
def spCounts (K : PySem.W.Frag) : Sp := fun vs H Q _ => ∃ (a b : Addr) (one other : List Int), vs = [.ref a, .ref b] ∧ SqL K H a (one.map V.int) ∧ SqL K H b (other.map V.int) ∧ one.length ≤ 100 ∧ other.length ≤ 100 ∧
  ∀ H' d, Same H H' → H d = none → H' d = some (.dK (kvs (tally (allS one other)))) → Q (.ref d) H'
def IsDie (K : PySem.W.Frag) (H : Hp) (x : V) (a : Addr) (ns : List Int) : Prop := x = .ref a ∧ SqL K H a (ns.map V.int) ∧ dieI ns = true
def NoDie (K : PySem.W.Frag) (H : Hp) (x : V) : Prop := NoList K H x ∨ ∃ a xs, x = .ref a ∧ SqL K H a xs ∧ xs.length ≤ sizeLine ∧ (∀ v ∈ xs, Kn K H v) ∧ dieB xs = false
theorem same_die {K : PySem.W.Frag} {H H' : Hp} {x : V} {a : Addr} {ns : List Int} (s : Same H H') (h : IsDie K H x a ns) : IsDie K H' x a ns := ⟨h.1, same_l s h.2.1, h.2.2⟩
theorem same_nodie {K : PySem.W.Frag} {H H' : Hp} {x : V} (s : Same H H') (h : NoDie K H x) : NoDie K H' x := by
  rcases h with ⟨t, a, b⟩ | ⟨a, xs, e, hS, hz, hk, hb⟩
  · exact .inl ⟨t, same_ty s a, b⟩
  · exact .inr ⟨a, xs, e, same_l s hS, hz, fun v hv => same_kn s (hk v hv), hb⟩
def spDie (K : PySem.W.Frag) (C : Addr) : Sp := fun vs H Q E => ∃ x, vs = [x] ∧ ((NoDie K H x ∧ ∀ H', Same H H' → E (.ref C) none H') ∨ ∃ a ns, IsDie K H x a ns ∧ ∀ H', Same H H' → Q .non H')
theorem dieI_len {ns : List Int} (h : dieI ns = true) : 2 ≤ ns.length ∧ ns.length ≤ 72 := by
  unfold dieI at h
  simp only [Bool.and_eq_true, decide_eq_true_eq] at h
  exact ⟨h.1, h.2.1⟩
theorem die_of_sp {K : PySem.W.Frag} {C : Addr} {vs : List V} {H : Hp} {Q : VK} {E : XK} (h : spDie K C vs H Q E) : spCheckDie K C vs H Q E := by
  obtain ⟨x, rfl, h⟩ := h
  refine ⟨x, rfl, ?_⟩
  rcases h with ⟨h | ⟨a, xs, e, hS, hz, hk, hb⟩, qe⟩ | ⟨a, ns, ⟨e, hS, hb⟩, q⟩
  · exact .inl ⟨h, qe⟩
  · refine .inr ⟨a, xs, e, hS, hz, hk, fun z => ?_, fun _ => qe⟩
    rw [hb] at z
    cases z
  · refine .inr ⟨a, _, e, hS, ?_, fun v hv => ?_, fun _ => q, fun z => ?_⟩
    · have := dieI_len hb
      rw [List.length_map, sizeLine_eq]
      omega
    · obtain ⟨i, _, rfl⟩ := List.mem_map.mp hv
      exact kn_int
    · rw [dieB_int, hb] at z
      cases z
def PairT (H : Hp) (z : V × (Int × Int)) : Prop := ∃ t, z.1 = .ref t ∧ H t = some (.tup [.int z.2.1, .int z.2.2])
theorem pairT_dp {K : PySem.W.Frag} {H : Hp} {z : V × (Int × Int)} (h : PairT H z) : Dp K H z.1 (dP z.2) := by
  obtain ⟨t, e, h⟩ := h
  rw [e]
  exact .tup (.of h) (.cons (.int _) (.cons (.int _) .nil))
theorem dps_zs {K : PySem.W.Frag} {H : Hp} : ∀ {zs : List (V × (Int × Int))}, (∀ z ∈ zs, PairT H z) → DpAll K H (zs.map (·.1)) ((zs.map (·.2)).map dP)
  | [], _ => .nil
  | z :: r, h => .cons (pairT_dp (h z List.mem_cons_self)) (dps_zs fun y hy => h y (List.mem_cons_of_mem _ hy))
theorem dp_zs {K : PySem.W.Frag} {H : Hp} {p : Addr} {zs : List (V × (Int × Int))} (h : SqL K H p (zs.map (·.1))) (hz : ∀ z ∈ zs, PairT H z) : Dp K H (.ref p) (dPs (zs.map (·.2))) := .lst h (dps_zs hz)
theorem same_pairT {H H' : Hp} {z : V × (Int × Int)} (s : Same H H') (h : PairT H z) : PairT H' z := let ⟨t, e, h⟩ := h; ⟨t, e, s _ _ h⟩
theorem items_zs {H : Hp} : ∀ {ts : List Addr} {c : List (Int × Int)}, Paired (fun (t : Addr) (q : L2.Key × V) => H t = some (.tup [kV q.1, q.2])) ts (kvs c) →
    ∃ zs : List (V × (Int × Int)), zs.map (·.1) = ts.map V.ref ∧ zs.map (·.2) = c ∧ ∀ z ∈ zs, PairT H z
  | [], [], .nil => ⟨[], rfl, rfl, fun _ h => nomatch h⟩
  | t :: ts, q :: c, .cons h r => by
    obtain ⟨zs, e1, e2, h2⟩ := items_zs r
    refine ⟨(.ref t, q) :: zs, by rw [List.map_cons, e1]; rfl, by rw [List.map_cons, e2], fun z hz => ?_⟩
    rcases List.mem_cons.mp hz with rfl | hz
    · exact ⟨t, rfl, h⟩
    · exact h2 z hz
def spSums (K : PySem.W.Frag) (C : Addr) : Sp := fun vs H Q E => ∃ x y, vs = [x, y] ∧ ((NoDie K H x ∧ ∀ H', Same H H' → E (.ref C) none H') ∨ ∃ a one, IsDie K H x a one ∧
  ((NoDie K H y ∧ ∀ H', Same H H' → E (.ref C) none H') ∨ ∃ b other, IsDie K H y b other ∧
    ∀ (H' : Hp) (p : Addr) (zs : List (V × (Int × Int))), Same H H' → H p = none → H' p = some (.lst (zs.map (·.1))) → zs.map (·.2) = sumsM one other → (∀ z ∈ zs, PairT H' z) → Q (.ref p) H'))
/-! ### the laws' own defs -/
theorem bd_lit {n : Nat} {x : Int} (h : x.natAbs < 2 ^ 64) (l : 64 ≤ n) : Bd n x := Bd.mono (n := 64) h l
def spNum : Sp := fun vs H Q _ => ∃ c a w : Int, vs = [.int c, .int a, .int w] ∧ Bd 1048576 c ∧ (0 ≤ a ∧ a ≤ 1000) ∧ Bd 1048700 w ∧ ∀ n : Int, Q (.int n) H
theorem sz63 : (63 : Nat) ≤ sizeLine := by
  rw [sizeLine_eq]
  decide
theorem cut_63 (xs : List V) : cutV xs none (some 63) = xs.take 63 := cut_to xs 63
def spLDie (K : PySem.W.Frag) : Sp := fun vs H Q _ => ∃ (a : Addr) (ns : List Int) (by' most : Int), vs = [.ref a, .int by', .int most] ∧ SqL K H a (ns.map V.int) ∧ ns.length ≤ 63 ∧ (∀ z ∈ ns, Bd 1048576 z) ∧ 0 ≤ by' ∧ by' ≤ 100 ∧ 3 ≤ most ∧ most ≤ 20 ∧
  ∀ (H' : Hp) (p : Addr) (D : List Int), Same H H' → H p = none → H' p = some (.lst (D.map V.int)) → dieI D = true → (D.length : Int) ≤ most → Q (.ref p) H'
theorem atI_mod {α : Type} (xs : List α) (i : Int) (h0 : 0 ≤ i) (h : i < xs.length) : ∃ x, atI xs i = some x ∧ x ∈ xs := by
  obtain ⟨k, rfl⟩ : ∃ k : Nat, i = k := ⟨i.toNat, by omega⟩
  have hk : k < xs.length := by omega
  exact ⟨xs[k], atI_nat (List.getElem?_eq_getElem hk), List.getElem_mem hk⟩
/-! ### mirrored, answers -/
def mirM (ns : List Int) : List Int := ns.reverse.map fun n => ns.headD 0 + ns.getLastD 0 - n
def spMirrored (K : PySem.W.Frag) (C : Addr) : Sp := fun vs H Q E => ∃ x, vs = [x] ∧ ((NoDie K H x ∧ ∀ H', Same H H' → E (.ref C) none H') ∨ ∃ a ns, IsDie K H x a ns ∧
  ∀ (H' : Hp) (p : Addr), Same H H' → H p = none → H' p = some (.lst ((mirM ns).map V.int)) → Q (.ref p) H')
def hoM (f s t : Int) : Int := if min4 (t - 1) (f + s + 1 - t) f s > 0 then min4 (t - 1) (f + s + 1 - t) f s else 0
def spHow : Sp := fun vs H Q _ => ∃ f s t : Int, vs = [.int f, .int s, .int t] ∧ Q (.int (hoM f s t)) H
def leI (a b : Int) : Bool := decide (a ≤ b)
def rgI (a b : Int) : List Int := (List.range (b - a).toNat).map fun i => a + ((i : Nat) : Int)
theorem rgV_rgI (a b : Int) : rgV a b = (rgI a b).map V.int := by
  unfold rgV rgI
  rw [List.map_map]
  rfl
def foL (f s : Int) (one other : List Int) : List Int := isort leI ((tally (allS one other)).map (·.1) ++ rgI 2 (f + s + 1))
def foM (f s : Int) (one other : List Int) : Int := ((foL f s one other).find? fun t => decide (getN (tally (allS one other)) t ≠ hoM f s t)).getD 0
def SidesOk (f : Int) : Prop := 2 ≤ f ∧ f ≤ 12
def spFirstOff (K : PySem.W.Frag) : Sp := fun vs H Q _ => ∃ (f s : Int) (a b : Addr) (one other : List Int), vs = [.int f, .int s, .ref a, .ref b] ∧ SidesOk f ∧ SidesOk s ∧ SqL K H a (one.map V.int) ∧ SqL K H b (other.map V.int) ∧ one.length ≤ 100 ∧ other.length ≤ 100 ∧
  ∀ H', Same H H' → Q (.int (foM f s one other)) H'
def spTShows (K : PySem.W.Frag) : Sp := fun vs H Q _ => ∃ (x : V) (f s : Int) (a b : Addr) (one other : List Int), vs = [x, .int f, .int s, .ref a, .ref b] ∧ SidesOk f ∧ SidesOk s ∧ SqL K H a (one.map V.int) ∧ SqL K H b (other.map V.int) ∧ one.length ≤ 100 ∧ other.length ≤ 100 ∧
  ∀ H', Same H H' → Q (.bl (decide (foM f s one other = 0))) H'
def spOInit (C : Addr) : Sp := fun vs H Q _ => ∃ (x dx : Addr) (v : V), vs = [.ref x, v] ∧ H x = some (.ins C dx []) ∧ Q .non (upd H x (.ins C dx [("total", v)]))
def ofM (f s t : Int) (one other : List Int) : Bool := !decide (getN (tally (allS one other)) t = hoM f s t)
def spOShows (K : PySem.W.Frag) (C : Addr) : Sp := fun vs H Q _ => ∃ (x dx : Addr) (t f s : Int) (a b : Addr) (one other : List Int), vs = [.ref x, .int f, .int s, .ref a, .ref b] ∧ H x = some (.ins C dx [("total", .int t)]) ∧ SqL K H a (one.map V.int) ∧ SqL K H b (other.map V.int) ∧ one.length ≤ 100 ∧ other.length ≤ 100 ∧
  ∀ H', Same H H' → Q (.bl (ofM f s t one other)) H'
theorem look_one (n : Str) (v : V) : List.lookup n [(n, v)] = some v := by simp [List.lookup]
theorem leI_tot : TotO leI := srt_int.o
theorem pw_isort {l m : List Int} (h : l.Perm m) (hs : l.Pairwise (· ≤ ·)) : l = isort leI m := leI_tot.uniq h (hs.imp fun h => decide_eq_true h)
end Tw
set_option Elab.async false
set_option linter.all false
set_option maxRecDepth 100000
set_option maxHeartbeats 4000000
/-! Twindice: plain dice, how often, dicts of counts (plain) -/
namespace Tw
open PySem PySem.Spec PyProof.Rows L2
theorem mem_rgI {a b x : Int} : x ∈ rgI a b ↔ a ≤ x ∧ x < b := by
  unfold rgI
  rw [List.mem_map]
  constructor
  · rintro ⟨i, hi, rfl⟩
    rw [List.mem_range] at hi
    omega
  · intro h
    exact ⟨(x - a).toNat, List.mem_range.mpr (by omega), by omega⟩
theorem len_rgI (a b : Int) : (rgI a b).length = (b - a).toNat := by
  unfold rgI
  rw [List.length_map, List.length_range]
theorem mem_allS {l m : List Int} {t : Int} : t ∈ allS l m ↔ ∃ x ∈ l, ∃ y ∈ m, x + y = t := by
  unfold allS
  rw [List.mem_flatMap]
  constructor
  · rintro ⟨x, hx, h⟩
    obtain ⟨y, hy, e⟩ := List.mem_map.mp h
    exact ⟨x, hx, y, hy, e⟩
  · rintro ⟨x, hx, y, hy, e⟩
    exact ⟨x, hx, List.mem_map.mpr ⟨y, hy, e⟩⟩
/-- the sums of two plain dice -/
def plS (f s : Int) : List Int := allS (rgI 1 (f + 1)) (rgI 1 (s + 1))
theorem hoM_out {f s t : Int} (h : t < 2 ∨ f + s < t) : hoM f s t = 0 := by
  unfold hoM min4
  split
  · omega
  · rfl
theorem ho_tab : ∀ F < 13, ∀ S < 13, ∀ T < 25, 2 ≤ F → 2 ≤ S → (((plS (F : Nat) (S : Nat)).count ((T : Nat) : Int) : Nat) : Int) = hoM (F : Nat) (S : Nat) (T : Nat) := by decide +kernel
theorem hoM_count {f s : Int} (hf : SidesOk f) (hs : SidesOk s) (t : Int) : ((plS f s).count t : Int) = hoM f s t := by
  obtain ⟨f1, f2⟩ := hf
  obtain ⟨s1, s2⟩ := hs
  by_cases h : t < 2 ∨ f + s < t
  · rw [hoM_out h]
    have hn : ¬ t ∈ plS f s := fun hm => by
      obtain ⟨x, hx, y, hy, e⟩ := mem_allS.mp hm
      rw [mem_rgI] at hx hy
      omega
    rw [List.count_eq_zero_of_not_mem hn]
    rfl
  · have e := ho_tab f.toNat (by omega) s.toNat (by omega) t.toNat (by omega) (by omega) (by omega)
    rw [show ((f.toNat : Nat) : Int) = f by omega, show ((s.toNat : Nat) : Int) = s by omega, show ((t.toNat : Nat) : Int) = t by omega] at e
    exact e
theorem getN_plain {f s : Int} (hf : SidesOk f) (hs : SidesOk s) (t : Int) : getN (tally (plS f s)) t = hoM f s t := by
  rw [getN_tally]
  exact hoM_count hf hs t
theorem sub_all {α : Type} [DecidableEq α] : ∀ {l m : List α}, l.Nodup → l ⊆ m → m.length ≤ l.length → m ⊆ l
  | [], m, _, _, h => by
    have e : m = [] := List.eq_nil_of_length_eq_zero (Nat.le_zero.mp h)
    rw [e]
    exact fun _ hx => hx
  | x :: l, m, hn, hs, h => by
    rw [List.nodup_cons] at hn
    have hx : x ∈ m := hs List.mem_cons_self
    have hl : (m.erase x).length = m.length - 1 := List.length_erase_of_mem hx
    have hs' : l ⊆ m.erase x := fun y hy => (List.mem_erase_of_ne (fun e => hn.1 (by rw [← e]; exact hy))).mpr (hs (List.mem_cons_of_mem _ hy))
    rw [List.length_cons] at h
    have ih := sub_all hn.2 hs' (by omega)
    intro y hy
    by_cases e : y = x
    · rw [e]
      exact List.mem_cons_self
    · exact List.mem_cons_of_mem _ (ih ((List.mem_erase_of_ne e).mpr hy))
theorem dEq_iff (l m : List Int) : dEq (tally l) (tally m) = true ↔ ∀ k, l.count k = m.count k := by
  unfold dEq
  simp only [Bool.and_eq_true, decide_eq_true_eq, List.all_eq_true]
  constructor
  · rintro ⟨h1, h2⟩ k
    have sub : tally l ⊆ tally m := fun p hp => (mem_find (tally_nodup m) p).mpr (h2 p hp)
    have sub2 := sub_all (nodup_of_keys (tally_nodup l)) sub (by omega)
    have e1 := findN_tally l k
    have e2 := findN_tally m k
    by_cases hl : k ∈ l
    · rw [if_pos hl] at e1
      have hp := sub ((mem_find (tally_nodup l) (k, (l.count k : Int))).mpr e1)
      have e3 := (mem_find (tally_nodup m) _).mp hp
      by_cases hm : k ∈ m
      · rw [if_pos hm] at e2
        have e4 := Option.some.inj (e3.symm.trans e2)
        exact Int.ofNat.inj e4
      · rw [if_neg hm] at e2
        rw [e2] at e3
        cases e3
    · by_cases hm : k ∈ m
      · rw [if_pos hm] at e2
        have hp := sub2 ((mem_find (tally_nodup m) (k, (m.count k : Int))).mpr e2)
        have e3 := (mem_find (tally_nodup l) _).mp hp
        rw [if_neg hl] at e1
        rw [e1] at e3
        cases e3
      · rw [List.count_eq_zero_of_not_mem hl, List.count_eq_zero_of_not_mem hm]
  · intro h
    have hp : l.Perm m := List.perm_iff_count.mpr h
    have ht := tally_perm hp
    exact ⟨ht.length_eq, fun p hp => (mem_find (tally_nodup m) p).mp (ht.mem_iff.mp hp)⟩
def Pos (l : List Int) : Prop := ∀ x ∈ l, 1 ≤ x
theorem foL_mem {f s : Int} {one other : List Int} {t : Int} : t ∈ foL f s one other ↔ t ∈ allS one other ∨ (2 ≤ t ∧ t < f + s + 1) := by
  unfold foL
  rw [(isort_perm leI _).mem_iff, List.mem_append, mem_rgI]
  have e : t ∈ (tally (allS one other)).map (·.1) ↔ t ∈ allS one other := by
    rw [List.mem_map]
    constructor
    · rintro ⟨p, hp, rfl⟩
      have e := (mem_find (tally_nodup _) p).mp hp
      rw [findN_tally] at e
      by_cases h : p.1 ∈ allS one other
      · exact h
      · rw [if_neg h] at e
        cases e
    · intro h
      exact ⟨(t, ((allS one other).count t : Int)), (mem_find (tally_nodup _) _).mpr (by rw [findN_tally, if_pos h]), rfl⟩
  rw [e]
theorem foM_zero {f s : Int} (hf : SidesOk f) (hs : SidesOk s) {one other : List Int} (h1 : Pos one) (h2 : Pos other) : foM f s one other = 0 ↔ ∀ t, (allS one other).count t = (plS f s).count t := by
  have big : ∀ t ∈ foL f s one other, 2 ≤ t := fun t ht => by
    rcases foL_mem.mp ht with h | h
    · obtain ⟨x, hx, y, hy, e⟩ := mem_allS.mp h
      have := h1 x hx
      have := h2 y hy
      omega
    · exact h.1
  unfold foM
  constructor
  · intro h t
    cases e : (foL f s one other).find? fun t => decide (getN (tally (allS one other)) t ≠ hoM f s t) with
    | some z =>
      rw [e] at h
      have := big z (List.mem_of_find?_eq_some e)
      have h0 : z = 0 := h
      omega
    | none =>
      rw [List.find?_eq_none] at e
      have q : ((allS one other).count t : Int) = hoM f s t := by
        by_cases ht : t ∈ foL f s one other
        · have := e t ht
          rw [← getN_tally]
          simpa using this
        · have hn : ¬ t ∈ allS one other := fun z => ht (foL_mem.mpr (.inl z))
          have ho : ¬ (2 ≤ t ∧ t < f + s + 1) := fun z => ht (foL_mem.mpr (.inr z))
          rw [List.count_eq_zero_of_not_mem hn, hoM_out (by omega)]
          rfl
      rw [← hoM_count hf hs] at q
      exact Int.ofNat.inj q
  · intro h
    have e : (foL f s one other).find? (fun t => decide (getN (tally (allS one other)) t ≠ hoM f s t)) = none := by
      rw [List.find?_eq_none]
      intro t _
      rw [getN_tally, h t, hoM_count hf hs]
      simp
    rw [e]
    rfl
theorem twin_eq {f s : Int} (hf : SidesOk f) (hs : SidesOk s) {one other : List Int} (h1 : Pos one) (h2 : Pos other) : dEq (tally (allS one other)) (tally (plS f s)) = decide (foM f s one other = 0) := by
  have a := dEq_iff (allS one other) (plS f s)
  have b := foM_zero hf hs h1 h2
  by_cases c : foM f s one other = 0
  · rw [decide_eq_true c]
    exact a.mpr (b.mp c)
  · rw [decide_eq_false c]
    cases e : dEq (tally (allS one other)) (tally (plS f s)) with
    | false => rfl
    | true => exact absurd (b.mpr (a.mp e)) c
theorem off_eq {f s : Int} (hf : SidesOk f) (hs : SidesOk s) (t : Int) (one other : List Int) : ofM f s t one other = !decide (getN (tally (allS one other)) t = getN (tally (plS f s)) t) := by
  rw [getN_plain hf hs]
  rfl
theorem pos_die {ns : List Int} (h : dieI ns = true) : Pos ns := fun x hx => by
  unfold dieI at h
  simp only [Bool.and_eq_true, decide_eq_true_eq, List.all_eq_true] at h
  exact (h.2.2.1 x hx).1
theorem pos_plain (f : Int) : Pos (rgI 1 (f + 1)) := fun x hx => (mem_rgI.mp hx).1
/-! ### mirrors -/
theorem getLastD_concat' (l : List Int) (x d : Int) : (l ++ [x]).getLastD d = x := by
  rw [List.getLastD_eq_getLast?, List.getLast?_concat]
  rfl
theorem two_ends {ns : List Int} (h : ns ≠ []) : (∃ r, ns = ns.headD 0 :: r) ∧ ∃ i, ns = i ++ [ns.getLastD 0] := by
  constructor
  · cases ns with
    | nil => exact absurd rfl h
    | cons x r => exact ⟨r, rfl⟩
  · refine ⟨ns.dropLast, ?_⟩
    conv => lhs; rw [← List.dropLast_concat_getLast h]
    rw [List.getLastD_eq_getLast?, List.getLast?_eq_getLast h]
    rfl
theorem ends_le {ns : List Int} (h : ns ≠ []) (hs : ns.Pairwise (· ≤ ·)) : ∀ x ∈ ns, ns.headD 0 ≤ x ∧ x ≤ ns.getLastD 0 := by
  obtain ⟨⟨r, e1⟩, i, e2⟩ := two_ends h
  intro x hx
  constructor
  · rw [e1] at hx hs
    rcases List.mem_cons.mp hx with e | hx
    · exact Int.le_of_eq e.symm
    · exact (List.pairwise_cons.mp hs).1 x hx
  · rw [e2] at hx hs
    rcases List.mem_append.mp hx with hx | hx
    · exact (List.pairwise_append.mp hs).2.2 x hx _ (List.mem_singleton.mpr rfl)
    · exact Int.le_of_eq (List.mem_singleton.mp hx)
theorem mir_ends {ns : List Int} (h : ns ≠ []) : (mirM ns).headD 0 = ns.headD 0 ∧ (mirM ns).getLastD 0 = ns.getLastD 0 := by
  obtain ⟨⟨r, e1⟩, i, e2⟩ := two_ends h
  generalize ha : ns.headD 0 = a at *
  generalize hb : ns.getLastD 0 = b at *
  unfold mirM
  rw [ha, hb]
  constructor
  · rw [e2, List.reverse_append]
    show a + b - b = a
    omega
  · rw [e1, List.reverse_cons, List.map_append]
    rw [show (List.map (fun n => a + b - n) [a]) = [a + b - a] from rfl, getLastD_concat']
    omega
theorem mir_mir {ns : List Int} (h : ns ≠ []) : mirM (mirM ns) = ns := by
  obtain ⟨e1, e2⟩ := mir_ends h
  unfold mirM at e1 e2 ⊢
  rw [e1, e2, ← List.map_reverse, List.reverse_reverse, List.map_map]
  conv => rhs; rw [← List.map_id ns]
  refine List.map_congr_left fun x _ => ?_
  simp only [Function.comp]
  show _ = x
  omega
theorem mir_sorted {ns : List Int} (hs : ns.Pairwise (· ≤ ·)) : (mirM ns).Pairwise (· ≤ ·) := by
  unfold mirM
  rw [List.pairwise_map, List.pairwise_reverse]
  exact hs.imp fun h => by omega
theorem die_ne {ns : List Int} (h : dieI ns = true) : ns ≠ [] := fun e => by
  subst e
  have := (dieI_len h).1
  simp at this
theorem die_sorted {ns : List Int} (h : dieI ns = true) : ns.Pairwise (· ≤ ·) := by
  unfold dieI at h
  simp only [Bool.and_eq_true, decide_eq_true_eq] at h
  exact h.2.2.2
theorem mir_die {ns : List Int} (h : dieI ns = true) : dieI (mirM ns) = true := by
  have hne := die_ne h
  have hs := die_sorted h
  have hl := dieI_len h
  have le := ends_le hne hs
  have h0 := h
  unfold dieI at h0 ⊢
  simp only [Bool.and_eq_true, decide_eq_true_eq, List.all_eq_true] at h0 ⊢
  have len : (mirM ns).length = ns.length := by
    unfold mirM
    rw [List.length_map, List.length_reverse]
  refine ⟨by omega, by omega, fun x hx => ?_, mir_sorted hs⟩
  unfold mirM at hx
  obtain ⟨y, hy, e⟩ := List.mem_map.mp hx
  have ly := le y (List.mem_reverse.mp hy)
  obtain ⟨⟨r, e1⟩, i, e2⟩ := two_ends hne
  have m1 : ns.headD 0 ∈ ns := by
    generalize ns.headD 0 = a at e1
    rw [e1]
    exact List.mem_cons_self
  have m2 : ns.getLastD 0 ∈ ns := by
    generalize ns.getLastD 0 = b at e2
    rw [e2]
    exact List.mem_append_right _ (List.mem_singleton.mpr rfl)
  have b1 := h0.2.2.1 (ns.headD 0) m1
  have b2 := h0.2.2.1 (ns.getLastD 0) m2
  omega
theorem mir_due {ns L : List Int} (h : dieI ns = true) (p : L.Perm (ns.map fun n => ns.headD 0 + ns.getLastD 0 - n)) (hs : L.Pairwise (· ≤ ·)) : L = mirM ns := by
  have e1 := pw_isort p hs
  have e2 : mirM ns = isort leI (ns.map fun n => ns.headD 0 + ns.getLastD 0 - n) := pw_isort (by unfold mirM; exact (List.reverse_perm ns).map _) (mir_sorted (die_sorted h))
  rw [e1, e2]
theorem at_head {ns : List Int} (h : ns ≠ []) : atI (ns.map V.int) 0 = some (.int (ns.headD 0)) := by
  refine atI_nat (j := 0) ?_
  cases ns with
  | nil => exact absurd rfl h
  | cons x r => rfl
theorem at_last {ns : List Int} (h : ns ≠ []) : atI (ns.map V.int) (-1) = some (.int (ns.getLastD 0)) := by
  obtain ⟨_, i, e⟩ := two_ends h
  conv => lhs; rw [e, List.map_append]
  exact atI_last _ _
/-! ### promises of the laws' own defs -/
def spTwo (K : PySem.W.Frag) : Sp := fun vs H Q _ => ∃ (a : Addr) (ns : List Int) (by' most : Int), vs = [.ref a, .int by', .int most] ∧ SqL K H a (ns.map V.int) ∧ ns.length ≤ 63 ∧ (∀ z ∈ ns, Bd 1048576 z) ∧ 0 ≤ by' ∧ by' ≤ 100 ∧ 3 ≤ most ∧ most ≤ 12 ∧
  ∀ (H' : Hp) (t : Addr) (f s : Int), Same H H' → H' t = some (.tup [.int f, .int s]) → 2 ≤ f → f ≤ most → 2 ≤ s → s ≤ most → Q (.ref t) H'
def spPlain : Sp := fun vs H Q _ => ∃ n : Int, vs = [.int n] ∧ 0 ≤ n ∧ n ≤ 100 ∧ ∀ (H' : Hp) (p : Addr), Same H H' → H p = none → H' p = some (.lst ((rgI 1 (n + 1)).map V.int)) → Q (.ref p) H'
def spLTwins (K : PySem.W.Frag) : Sp := fun vs H Q _ => ∃ (f s : Int) (a b : Addr) (one other : List Int), vs = [.int f, .int s, .ref a, .ref b] ∧ SidesOk f ∧ SidesOk s ∧ SqL K H a (one.map V.int) ∧ SqL K H b (other.map V.int) ∧ one.length ≤ 100 ∧ other.length ≤ 100 ∧
  ∀ H', Same H H' → Q (.bl (dEq (tally (allS one other)) (tally (plS f s)))) H'
def spSays : Sp := fun vs H Q _ => ∃ b1 b2 : Bool, vs = [.bl b1, .bl b2] ∧ Q (.bl (decide (b1 = b2))) H
def spOffRight (K : PySem.W.Frag) : Sp := fun vs H Q _ => ∃ (f s : Int) (a b : Addr) (one other : List Int) (t : Int), vs = [.int f, .int s, .ref a, .ref b, .int t] ∧ SidesOk f ∧ SidesOk s ∧ SqL K H a (one.map V.int) ∧ SqL K H b (other.map V.int) ∧ one.length ≤ 100 ∧ other.length ≤ 100 ∧
  ∀ H', Same H H' → Q (.bl true) H'
theorem look_shows (v : V) : List.lookup ("shows" : Str) [(("total" : Str), v)] = none := by
  have e : (("shows" : Str) == ("total" : Str)) = false := by decide +kernel
  simp [List.lookup, e]
theorem kit_bb {K : PySem.W.Frag} : PySem.W.kitOne K (.type "bool") (.type "bool") = some true := kit_ty (by decide +kernel)
theorem sameI {H : Hp} {x dx C : Addr} {fs : List (Str × V)} (nx : H x = none) (nd : H dx = none) : Same H (upd (upd H dx (.own x)) x (.ins C dx fs)) := same_mut (same_new nd) nx
end Tw
set_option Elab.async false
set_option linter.all false
set_option maxRecDepth 100000
set_option maxHeartbeats 4000000
namespace Tw
open PySem PySem.Spec PyProof.Rows L2
local macro_rules | `(tactic| walk_at "rd0") => `(tactic| first
  | with_reducible refine Tw.rd_seq ?_
  | with_reducible refine Tw.rd_asg ?_
  | with_reducible refine Tw.rd_drop ?_
  | with_reducible refine Tw.rd_ret ?_
  | with_reducible refine Tw.rd_retN ?_
  | with_reducible refine Tw.rd_next ?_
  | ((with_reducible refine Tw.rd_var (v := ?vv) ?hv ?_); (case hv => exact rfl))
  | with_reducible refine Tw.rd_c ?_
  | with_reducible refine Tw.rd_op ?_
  | with_reducible refine Tw.rd_un ?_
  | with_reducible refine Tw.rd_I0 ?_
  | with_reducible refine Tw.rd_U ?_
  | with_reducible refine Tw.rd_test ?_
  | with_reducible refine Tw.rd_tB ?_
  | with_reducible refine Tw.rd_bl ?_
  | with_reducible refine Tw.rd_not ?_
  | with_reducible refine Tw.rd_and ?_
  | with_reducible refine Tw.rd_or ?_
  | with_reducible refine Tw.rd_andV ?_
  | with_reducible refine Tw.rd_orV ?_
  | with_reducible refine Tw.rd_notV ?_
  | with_reducible refine Tw.rd_tIf ?_
  | with_reducible refine Tw.rd_cb ?_
  | with_reducible refine Tw.rd_cons ?_
  | with_reducible refine Tw.rd_nil ?_
  | with_reducible refine Tw.rd_call ?_
  | with_reducible refine Tw.rd_tup ?_
  | with_reducible refine Tw.rd_lst ?_
  | with_reducible refine Tw.rd_gname ?_
  | with_reducible refine Tw.rd_chain ?_
  | with_reducible refine Tw.rd_lc ?_
  | with_reducible refine Tw.rd_il ?_
  | with_reducible refine Tw.rd_it ?_
  | with_reducible refine Tw.rd_ie ?_
  | with_reducible refine Tw.rd_ir ?_
  | with_reducible refine Tw.rd_ir2 ?_
  | with_reducible refine Tw.rd_dput ?_
  | with_reducible refine Tw.rd_dget2 ?_
  | with_reducible refine Tw.rd_items ?_
  | with_reducible refine Tw.rd_sl ?_
  | with_reducible refine Tw.rd_nopart ?_
  | with_reducible refine Tw.rd_part ?_
  | with_reducible refine Tw.rd_int ?_
  | with_reducible refine Tw.rd_revL ?_
  | with_reducible refine Tw.rd_bm ?_
  | with_reducible refine Tw.rd_bm0 ?_
  | with_reducible refine Tw.rd_lrg ?_
  | with_reducible refine Tw.rd_rg2 ?_
  | with_reducible refine Tw.rd_rg1 ?_
  | with_reducible refine Tw.rd_int2 ?_
  | with_reducible refine Tw.rd_augS ?_
  | with_reducible refine Tw.rd_ipI ?_
  | with_reducible refine Tw.rd_gsub ?_
  | with_reducible refine Tw.rd_gcons ?_
  | with_reducible refine Tw.rd_gnil ?_
  | with_reducible refine Tw.rd_par ?_
  | with_reducible refine Tw.rd_par2 ?_
  | with_reducible refine Tw.rd_mk ?_
  | with_reducible refine Tw.rd_md ?_
  | with_reducible refine Tw.rd_fld ?_
  | with_reducible refine Tw.rd_sfld ?_)
local macro_rules | `(tactic| walk_at "rd1") => `(tactic| first
  | walk_at "rd0"
  | with_reducible refine Tw.rd_if ?_
  | with_reducible refine Tw.rd_for ?_)
local macro_rules | `(tactic| walk_at "rs") => `(tactic| repeat walk_at "rd0")
local macro_rules | `(tactic| walk_at "rd") => `(tactic| repeat walk_at "rd1")
local macro_rules | `(tactic| walk_at "ini") => `(tactic| (dsimp only [L2.cxOf, L2.start, L2.Cx.wish, L2.Cx.nox, List.map, List.length_cons, List.length_nil, Nat.reduceAdd, Nat.reduceSub, List.replicate, List.cons_append, List.nil_append]; walk_at "rd"))
local macro_rules | `(tactic| walk_at "num") => `(tactic| first
  | exact (show (0 : Int) < _ from by decide)
  | exact (show (0 : Int) < _ ∧ _ < (1073741824 : Int) from by decide)
  | exact (show (0 : Int) ≤ _ ∧ _ ≤ (1000000 : Int) ∧ _ < 2 ^ 64 from by decide))
local macro_rules | `(tactic| walk_at "rn") => `(tactic| repeat (first | walk_at "rd1" | ((with_reducible refine Tw.rd_I ?c ?_); (case c => walk_at "num"))))
def topS (i : Nat) : Stmt := PySem.Challenge.pw_twindice_k05_answers_by_hand.main.body.getD i (.Pass ⟨0, 0, 0, 0⟩)
abbrev s_is_whole : Stmt := topS 6
abbrev s_check_die : Stmt := topS 7
abbrev s_counts_of : Stmt := topS 8
abbrev s_mirrored : Stmt := topS 9
abbrev s_how_often : Stmt := topS 12
abbrev s_first_off : Stmt := topS 13
abbrev s_Twin_shows : Stmt := inClass (topS 14) 0
abbrev s_Off___init__ : Stmt := inClass (topS 15) 0
abbrev s_Off_shows : Stmt := inClass (topS 15) 1
abbrev s__law_number : Stmt := topS 17
abbrev s__law_die : Stmt := topS 18
abbrev s__law_two_sides : Stmt := topS 19
abbrev s__law_counts : Stmt := topS 20
abbrev s__law_plain : Stmt := topS 21
abbrev s__law_twins : Stmt := topS 22
abbrev s__law_says : Stmt := topS 23
abbrev s__law_off_right : Stmt := topS 24
abbrev s_law : Stmt := topS 25

end Tw
set_option Elab.async false
set_option linter.all false
set_option maxRecDepth 100000
set_option maxHeartbeats 4000000
namespace Tw
open PySem PySem.Spec PyProof.Rows L2
local macro_rules | `(tactic| walk_at "rd0") => `(tactic| first
  | with_reducible refine Tw.rd_seq ?_
  | with_reducible refine Tw.rd_asg ?_
  | with_reducible refine Tw.rd_drop ?_
  | with_reducible refine Tw.rd_ret ?_
  | with_reducible refine Tw.rd_retN ?_
  | with_reducible refine Tw.rd_next ?_
  | ((with_reducible refine Tw.rd_var (v := ?vv) ?hv ?_); (case hv => exact rfl))
  | with_reducible refine Tw.rd_c ?_
  | with_reducible refine Tw.rd_op ?_
  | with_reducible refine Tw.rd_un ?_
  | with_reducible refine Tw.rd_I0 ?_
  | with_reducible refine Tw.rd_U ?_
  | with_reducible refine Tw.rd_test ?_
  | with_reducible refine Tw.rd_tB ?_
  | with_reducible refine Tw.rd_bl ?_
  | with_reducible refine Tw.rd_not ?_
  | with_reducible refine Tw.rd_and ?_
  | with_reducible refine Tw.rd_or ?_
  | with_reducible refine Tw.rd_andV ?_
  | with_reducible refine Tw.rd_orV ?_
  | with_reducible refine Tw.rd_notV ?_
  | with_reducible refine Tw.rd_tIf ?_
  | with_reducible refine Tw.rd_cb ?_
  | with_reducible refine Tw.rd_cons ?_
  | with_reducible refine Tw.rd_nil ?_
  | with_reducible refine Tw.rd_call ?_
  | with_reducible refine Tw.rd_tup ?_
  | with_reducible refine Tw.rd_lst ?_
  | with_reducible refine Tw.rd_gname ?_
  | with_reducible refine Tw.rd_chain ?_
  | with_reducible refine Tw.rd_lc ?_
  | with_reducible refine Tw.rd_il ?_
  | with_reducible refine Tw.rd_it ?_
  | with_reducible refine Tw.rd_ie ?_
  | with_reducible refine Tw.rd_ir ?_
  | with_reducible refine Tw.rd_ir2 ?_
  | with_reducible refine Tw.rd_dput ?_
  | with_reducible refine Tw.rd_dget2 ?_
  | with_reducible refine Tw.rd_items ?_
  | with_reducible refine Tw.rd_sl ?_
  | with_reducible refine Tw.rd_nopart ?_
  | with_reducible refine Tw.rd_part ?_
  | with_reducible refine Tw.rd_int ?_
  | with_reducible refine Tw.rd_revL ?_
  | with_reducible refine Tw.rd_bm ?_
  | with_reducible refine Tw.rd_bm0 ?_
  | with_reducible refine Tw.rd_lrg ?_
  | with_reducible refine Tw.rd_rg2 ?_
  | with_reducible refine Tw.rd_rg1 ?_
  | with_reducible refine Tw.rd_int2 ?_
  | with_reducible refine Tw.rd_augS ?_
  | with_reducible refine Tw.rd_ipI ?_
  | with_reducible refine Tw.rd_gsub ?_
  | with_reducible refine Tw.rd_gcons ?_
  | with_reducible refine Tw.rd_gnil ?_
  | with_reducible refine Tw.rd_par ?_
  | with_reducible refine Tw.rd_par2 ?_
  | with_reducible refine Tw.rd_mk ?_
  | with_reducible refine Tw.rd_md ?_
  | with_reducible refine Tw.rd_fld ?_
  | with_reducible refine Tw.rd_sfld ?_)
local macro_rules | `(tactic| walk_at "rd1") => `(tactic| first
  | walk_at "rd0"
  | with_reducible refine Tw.rd_if ?_
  | with_reducible refine Tw.rd_for ?_)
local macro_rules | `(tactic| walk_at "rs") => `(tactic| repeat walk_at "rd0")
local macro_rules | `(tactic| walk_at "rd") => `(tactic| repeat walk_at "rd1")
local macro_rules | `(tactic| walk_at "ini") => `(tactic| (dsimp only [L2.cxOf, L2.start, L2.Cx.wish, L2.Cx.nox, List.map, List.length_cons, List.length_nil, Nat.reduceAdd, Nat.reduceSub, List.replicate, List.cons_append, List.nil_append]; walk_at "rd"))
local macro_rules | `(tactic| walk_at "num") => `(tactic| first
  | exact (show (0 : Int) < _ from by decide)
  | exact (show (0 : Int) < _ ∧ _ < (1073741824 : Int) from by decide)
  | exact (show (0 : Int) ≤ _ ∧ _ ≤ (1000000 : Int) ∧ _ < 2 ^ 64 from by decide))
local macro_rules | `(tactic| walk_at "rn") => `(tactic| repeat (first | walk_at "rd1" | ((with_reducible refine Tw.rd_I ?c ?_); (case c => walk_at "num"))))
theorem sc_is_whole : FnScope ["thing"] ["thing"] (defScope s_is_whole) := ⟨rfl, rfl, rfl, by decide +kernel, rfl, by decide +kernel, by decide +kernel⟩
section
variable {P : Program} {w : World} {K : PySem.W.Frag} {mg : Str → Option Value} {base : Heap}
theorem ok_is_whole {f : Addr} {fd : FuncData} (F : Fun K "is_whole" "is_whole" s_is_whole f fd) (B : Bn mg) : FnOk P w K mg base CX0 1 f fd ["thing"] (spIsWhole K) := by
  refine F.ok sc_is_whole (fun vs H Q E h => ?_) (fun cdv A outer s H vs Q E hr h => ?_)
  · obtain ⟨x, rfl, _⟩ := h
    rfl
  · obtain ⟨x, rfl, ⟨t, ty, e1, e2⟩, q⟩ := h
    rw [← wh_eq] at q
    refine ⟨_, (pss_one (ps_ret (pe_and (pe_callB (r := rIsi K) call_isi (by rfl) B.n_isinstance boot_isinstance (pa_cons (pv 0) (pa_cons (pe_ty B.n_int boot_int) pa_nil))) (pe_one (pe_not (pe_callB (r := rIsi K) call_isi (by rfl) B.n_isinstance boot_isinstance (pa_cons (pv 0) (pa_cons (pe_ty B.n_bool boot_bool) pa_nil)))))))), ?_⟩
    walk_at "rd"
    refine rd_isi (.ty _) ty e1 ?_
    walk_at "rd"
    cases h1 : intV x with
    | false =>
      rw [h1] at q
      exact iteF q
    | true =>
      rw [h1] at q
      refine iteT ?_
      walk_at "rd"
      refine rd_isi (.ty _) ty e2 ?_
      walk_at "rd"
      exact q
end


end Tw
set_option Elab.async false
set_option linter.all false
set_option maxRecDepth 100000
set_option maxHeartbeats 4000000
namespace Tw
open PySem PySem.Spec PyProof.Rows L2
local macro_rules | `(tactic| walk_at "rd0") => `(tactic| first
  | with_reducible refine Tw.rd_seq ?_
  | with_reducible refine Tw.rd_asg ?_
  | with_reducible refine Tw.rd_drop ?_
  | with_reducible refine Tw.rd_ret ?_
  | with_reducible refine Tw.rd_retN ?_
  | with_reducible refine Tw.rd_next ?_
  | ((with_reducible refine Tw.rd_var (v := ?vv) ?hv ?_); (case hv => exact rfl))
  | with_reducible refine Tw.rd_c ?_
  | with_reducible refine Tw.rd_op ?_
  | with_reducible refine Tw.rd_un ?_
  | with_reducible refine Tw.rd_I0 ?_
  | with_reducible refine Tw.rd_U ?_
  | with_reducible refine Tw.rd_test ?_
  | with_reducible refine Tw.rd_tB ?_
  | with_reducible refine Tw.rd_bl ?_
  | with_reducible refine Tw.rd_not ?_
  | with_reducible refine Tw.rd_and ?_
  | with_reducible refine Tw.rd_or ?_
  | with_reducible refine Tw.rd_andV ?_
  | with_reducible refine Tw.rd_orV ?_
  | with_reducible refine Tw.rd_notV ?_
  | with_reducible refine Tw.rd_tIf ?_
  | with_reducible refine Tw.rd_cb ?_
  | with_reducible refine Tw.rd_cons ?_
  | with_reducible refine Tw.rd_nil ?_
  | with_reducible refine Tw.rd_call ?_
  | with_reducible refine Tw.rd_tup ?_
  | with_reducible refine Tw.rd_lst ?_
  | with_reducible refine Tw.rd_gname ?_
  | with_reducible refine Tw.rd_chain ?_
  | with_reducible refine Tw.rd_lc ?_
  | with_reducible refine Tw.rd_il ?_
  | with_reducible refine Tw.rd_it ?_
  | with_reducible refine Tw.rd_ie ?_
  | with_reducible refine Tw.rd_ir ?_
  | with_reducible refine Tw.rd_ir2 ?_
  | with_reducible refine Tw.rd_dput ?_
  | with_reducible refine Tw.rd_dget2 ?_
  | with_reducible refine Tw.rd_items ?_
  | with_reducible refine Tw.rd_sl ?_
  | with_reducible refine Tw.rd_nopart ?_
  | with_reducible refine Tw.rd_part ?_
  | with_reducible refine Tw.rd_int ?_
  | with_reducible refine Tw.rd_revL ?_
  | with_reducible refine Tw.rd_bm ?_
  | with_reducible refine Tw.rd_bm0 ?_
  | with_reducible refine Tw.rd_lrg ?_
  | with_reducible refine Tw.rd_rg2 ?_
  | with_reducible refine Tw.rd_rg1 ?_
  | with_reducible refine Tw.rd_int2 ?_
  | with_reducible refine Tw.rd_augS ?_
  | with_reducible refine Tw.rd_ipI ?_
  | with_reducible refine Tw.rd_gsub ?_
  | with_reducible refine Tw.rd_gcons ?_
  | with_reducible refine Tw.rd_gnil ?_
  | with_reducible refine Tw.rd_par ?_
  | with_reducible refine Tw.rd_par2 ?_
  | with_reducible refine Tw.rd_mk ?_
  | with_reducible refine Tw.rd_md ?_
  | with_reducible refine Tw.rd_fld ?_
  | with_reducible refine Tw.rd_sfld ?_)
local macro_rules | `(tactic| walk_at "rd1") => `(tactic| first
  | walk_at "rd0"
  | with_reducible refine Tw.rd_if ?_
  | with_reducible refine Tw.rd_for ?_)
local macro_rules | `(tactic| walk_at "rs") => `(tactic| repeat walk_at "rd0")
local macro_rules | `(tactic| walk_at "rd") => `(tactic| repeat walk_at "rd1")
local macro_rules | `(tactic| walk_at "ini") => `(tactic| (dsimp only [L2.cxOf, L2.start, L2.Cx.wish, L2.Cx.nox, List.map, List.length_cons, List.length_nil, Nat.reduceAdd, Nat.reduceSub, List.replicate, List.cons_append, List.nil_append]; walk_at "rd"))
local macro_rules | `(tactic| walk_at "num") => `(tactic| first
  | exact (show (0 : Int) < _ from by decide)
  | exact (show (0 : Int) < _ ∧ _ < (1073741824 : Int) from by decide)
  | exact (show (0 : Int) ≤ _ ∧ _ ≤ (1000000 : Int) ∧ _ < 2 ^ 64 from by decide))
local macro_rules | `(tactic| walk_at "rn") => `(tactic| repeat (first | walk_at "rd1" | ((with_reducible refine Tw.rd_I ?c ?_); (case c => walk_at "num"))))
theorem sc_check_die : FnScope ["die", "one"] ["die"] (defScope s_check_die) := ⟨rfl, rfl, rfl, by decide +kernel, rfl, by decide +kernel, by decide +kernel⟩
section
variable {P : Program} {w : World} {K : PySem.W.Frag} {mg : Str → Option Value} {base : Heap}
theorem ok_check_die {f C : Addr} {fd : FuncData} (F : Fun K "check_die" "check_die" s_check_die f fd) (B : Bn mg) (x_BadDie : Exq K mg "BadDie" C) (m_MOST_SIDES : ∃ t, mg "MOST_SIDES" = some (.int 72 t)) (m_MOST_NUMBER : ∃ t, mg "MOST_NUMBER" = some (.int 100 t))
    (d_is_whole : Df P w K mg base CX0 1 "is_whole" ["thing"] (spIsWhole K)) : FnOk P w K mg base (L2.CX P w) 2 f fd ["die"] (spCheckDie K C) := by
  refine F.okX sc_check_die (fun vs H Q E h => ?_) (fun cdv A outer s H vs Q E hr h => ?_)
  · obtain ⟨x, rfl, _⟩ := h
    rfl
  · obtain ⟨x, rfl, h⟩ := h
    refine ⟨_, (pss_cons (ps_if (PW.pt (pw_or (pt_not (pt_val (pe_callB (r := rIsi K) call_isi (by rfl) B.n_isinstance boot_isinstance (pa_cons (pv 0) (pa_cons (pe_ty B.n_list boot_list) pa_nil))))) (pw_or (pt_not (pt_chain op_le op_le pe_int (pe_callB (r := rLen K) call_lenQ (by rfl) B.n_len boot_len (pa_cons (pv 0) pa_nil)) (pe_num m_MOST_SIDES))) (pw_or1 (pt_not (pt_val (pe_callB (r := rAll K) (cr_all rfl) (by rfl) B.n_all boot_all (pa_cons (pe_lc (own := [("one", 1)]) (g := gName 1) rfl sc_check_die.nd (pi_list (pv 0)) (blkOk_by (own := [("one", 1)]) (N := ["die", "one"]) (sc := defScope s_check_die) (by decide +kernel)) (fun _ _ _ _ _ => pg_name (i := 1) sc_check_die.nd rfl (Or.inl rfl)) (fun _ _ _ _ _ => pts_nil) (fun _ _ _ _ _ => (pe_df d_is_whole (hr.mono (by decide)) (by rfl) pass0 (pa_cons (pv 1) pa_nil)))) pa_nil)))))))) (pss_one (ps_raise rfl (takes_of rfl rfl rfl rfl) (pmk_own PySem.F.excBase_ValueError x_BadDie.x x_BadDie.g x_BadDie.kp (raises_own x_BadDie.b x_BadDie.t) rfl))) pss_nil)
    (pss_one (ps_if (PW.pt (pw_or (pt_not (pt_val (pe_callB (r := rAll K) (cr_all rfl) (by rfl) B.n_all boot_all (pa_cons (pe_lc (own := [("one", 1)]) (g := gName 1) rfl sc_check_die.nd (pi_list (pv 0)) (blkOk_by (own := [("one", 1)]) (N := ["die", "one"]) (sc := defScope s_check_die) (by decide +kernel)) (fun _ _ _ _ _ => pg_name (i := 1) sc_check_die.nd rfl (Or.inl rfl)) (fun _ _ _ _ _ => pts_nil) (fun _ _ _ _ _ => (pe_chain op_le op_le pe_int (pv 1) (pe_num m_MOST_NUMBER)))) pa_nil)))) (pw_or1 (pt_cmpR (op_neD hr.units) (pv 0) (pe_callB (r := rSortedI K) cr_sortedI (by rfl) B.n_sorted boot_sorted (pa_cons (pv 0) pa_nil)) (nomark _))))) (pss_one (ps_raise rfl (takes_of rfl rfl rfl rfl) (pmk_own PySem.F.excBase_ValueError x_BadDie.x x_BadDie.g x_BadDie.kp (raises_own x_BadDie.b x_BadDie.t) rfl))) pss_nil))), ?_⟩
    walk_at "ini"
    rcases h with ⟨⟨t, ty, e⟩, qe⟩ | ⟨a, xs, rfl, hS, hz, hk, q, qe⟩
    · refine rd_isi (.ty _) ty e ?_
      walk_at "rd"
      refine iteT (iteT ?_)
      exact qe _ (Same.refl _)
    · refine rd_isi (.ty _) (tyx_list hS) kit_ll ?_
      walk_at "rd"
      refine iteF ?_
      walk_at "rd"
      refine ⟨a, xs, rfl, .inl hS, ?_⟩
      walk_at "rd"
      have bad : ∀ c : Bool, dieB xs = c → c = false → ∀ H', Same H H' → E (.ref C) none H' := fun c h1 h2 => qe (h1.trans h2)
      by_cases c1 : 2 ≤ xs.length
      case neg =>
        rw [decide_eq_false (show ¬ ((2 : Int) ≤ xs.length) by omega)]
        refine iteF ?_
        walk_at "rd"
        refine iteT (iteT ?_)
        exact qe (by simp [dieB, c1]) _ (Same.refl _)
      rw [decide_eq_true (show (2 : Int) ≤ xs.length by omega)]
      refine iteT ?_
      walk_at "rd"
      by_cases c2 : xs.length ≤ 72
      case neg =>
        rw [decide_eq_false (show ¬ ((xs.length : Int) ≤ 72) by omega)]
        refine iteT (iteT ?_)
        exact qe (by simp [dieB, c2]) _ (Same.refl _)
      rw [decide_eq_true (show (xs.length : Int) ≤ 72 by omega)]
      refine iteF ?_
      walk_at "rd"
      refine ⟨a, rfl, ⟨_, hS⟩, fun R nR => ?_⟩
      refine lc_mapP (fun v : V => v) (fun v => V.bl (whV v)) xs nR (by rw [List.map_id']; exact hS) hz (fun z hz' H2 s2 Q' q' => ⟨rfl, ?_⟩) (fun H2 s2 h2 => ?_)
      · walk_at "rd"
        exact ⟨z, rfl, same_kn s2 (hk z hz'), q' _ (Same.refl _)⟩
      · walk_at "rd"
        refine rd_all (bs := xs.map whV) (.of (by rw [h2, List.map_map]; rfl)) ?_
        walk_at "rd"
        rw [List.all_map]
        cases c3 : xs.all (id ∘ whV) with
        | false =>
          refine iteT ?_
          exact qe (by
            have c3' : xs.all whV = false := c3
            simp [dieB, c3']) _ s2
        | true =>
          refine iteF ?_
          obtain ⟨ns, rfl⟩ : ∃ ns : List Int, xs = ns.map V.int := ⟨_, whole_ints xs c3⟩
          rw [dieB_int] at q qe
          rw [List.length_map] at c1 c2 hz
          have hS2 := same_l s2 hS
          walk_at "rd"
          refine ⟨a, rfl, ⟨_, hS2⟩, fun R2 nR2 => ?_⟩
          refine lc_mapP V.int (fun n : Int => V.bl (decide (1 ≤ n) && decide (n ≤ 100))) ns nR2 hS2 hz (fun z hz' H3 s3 Q' q' => ⟨rfl, ?_⟩) (fun H3 s3 h3 => ?_)
          · walk_at "rd"
            by_cases z1 : (1 : Int) ≤ z
            · rw [decide_eq_true z1] at q' ⊢
              refine iteT ?_
              walk_at "rd"
              exact q' _ (Same.refl _)
            · rw [decide_eq_false z1] at q' ⊢
              exact iteF (q' _ (Same.refl _))
          · walk_at "rd"
            refine rd_all (bs := ns.map fun n => decide (1 ≤ n) && decide (n ≤ 100)) (.of (by rw [h3, List.map_map]; rfl)) ?_
            walk_at "rd"
            rw [List.all_map]
            have s3' : Same H H3 := s2.trans s3
            cases c4 : ns.all (id ∘ fun n : Int => decide (1 ≤ n) && decide (n ≤ 100)) with
            | false =>
              refine iteT (iteT ?_)
              exact qe (by
                have c4' : ns.all (fun n : Int => decide (1 ≤ n) && decide (n ≤ 100)) = false := c4
                rw [dieI, c4']
                simp) _ s3'
            | true =>
              refine iteF ?_
              have c4' : ns.all (fun n : Int => decide (1 ≤ n) && decide (n ≤ 100)) = true := c4
              walk_at "rd"
              have hS3 := same_l s3 hS2
              refine rd_sortI hS3 (fun ns' p perm srt np => ?_)
              have s4 : Same H (upd H3 p (.lst (ns'.map V.int))) := s3'.trans (same_new np)
              refine rd_neD (dp_ints (same_l (same_new np) hS3)) (dp_ints (.of upd_same)) (shaped_of (sh_ints (n := 0) _)) (shaped_of (sh_ints (n := 0) _)) ?_
              rw [eqv_dI]
              walk_at "rd"
              by_cases c5 : ns.Pairwise (· ≤ ·)
              · have e : ns = ns' := pw_unique perm.symm c5 srt
                rw [decide_eq_true e]
                refine iteF ?_
                walk_at "rd"
                exact q (by simp [dieI, c1, c2, c4', c5]) _ s4
              · have e : ¬ ns = ns' := fun e => c5 (by rw [e]; exact srt)
                rw [decide_eq_false e]
                refine iteT ?_
                exact qe (by simp [dieI, c5]) _ s4
end

end Tw
set_option Elab.async false
set_option linter.all false
set_option maxRecDepth 100000
set_option maxHeartbeats 4000000
namespace Tw
open PySem PySem.Spec PyProof.Rows L2
local macro_rules | `(tactic| walk_at "rd0") => `(tactic| first
  | with_reducible refine Tw.rd_seq ?_
  | with_reducible refine Tw.rd_asg ?_
  | with_reducible refine Tw.rd_drop ?_
  | with_reducible refine Tw.rd_ret ?_
  | with_reducible refine Tw.rd_retN ?_
  | with_reducible refine Tw.rd_next ?_
  | ((with_reducible refine Tw.rd_var (v := ?vv) ?hv ?_); (case hv => exact rfl))
  | with_reducible refine Tw.rd_c ?_
  | with_reducible refine Tw.rd_op ?_
  | with_reducible refine Tw.rd_un ?_
  | with_reducible refine Tw.rd_I0 ?_
  | with_reducible refine Tw.rd_U ?_
  | with_reducible refine Tw.rd_test ?_
  | with_reducible refine Tw.rd_tB ?_
  | with_reducible refine Tw.rd_bl ?_
  | with_reducible refine Tw.rd_not ?_
  | with_reducible refine Tw.rd_and ?_
  | with_reducible refine Tw.rd_or ?_
  | with_reducible refine Tw.rd_andV ?_
  | with_reducible refine Tw.rd_orV ?_
  | with_reducible refine Tw.rd_notV ?_
  | with_reducible refine Tw.rd_tIf ?_
  | with_reducible refine Tw.rd_cb ?_
  | with_reducible refine Tw.rd_cons ?_
  | with_reducible refine Tw.rd_nil ?_
  | with_reducible refine Tw.rd_call ?_
  | with_reducible refine Tw.rd_tup ?_
  | with_reducible refine Tw.rd_lst ?_
  | with_reducible refine Tw.rd_gname ?_
  | with_reducible refine Tw.rd_chain ?_
  | with_reducible refine Tw.rd_lc ?_
  | with_reducible refine Tw.rd_il ?_
  | with_reducible refine Tw.rd_it ?_
  | with_reducible refine Tw.rd_ie ?_
  | with_reducible refine Tw.rd_ir ?_
  | with_reducible refine Tw.rd_ir2 ?_
  | with_reducible refine Tw.rd_dput ?_
  | with_reducible refine Tw.rd_dget2 ?_
  | with_reducible refine Tw.rd_items ?_
  | with_reducible refine Tw.rd_sl ?_
  | with_reducible refine Tw.rd_nopart ?_
  | with_reducible refine Tw.rd_part ?_
  | with_reducible refine Tw.rd_int ?_
  | with_reducible refine Tw.rd_revL ?_
  | with_reducible refine Tw.rd_bm ?_
  | with_reducible refine Tw.rd_bm0 ?_
  | with_reducible refine Tw.rd_lrg ?_
  | with_reducible refine Tw.rd_rg2 ?_
  | with_reducible refine Tw.rd_rg1 ?_
  | with_reducible refine Tw.rd_int2 ?_
  | with_reducible refine Tw.rd_augS ?_
  | with_reducible refine Tw.rd_ipI ?_
  | with_reducible refine Tw.rd_gsub ?_
  | with_reducible refine Tw.rd_gcons ?_
  | with_reducible refine Tw.rd_gnil ?_
  | with_reducible refine Tw.rd_par ?_
  | with_reducible refine Tw.rd_par2 ?_
  | with_reducible refine Tw.rd_mk ?_
  | with_reducible refine Tw.rd_md ?_
  | with_reducible refine Tw.rd_fld ?_
  | with_reducible refine Tw.rd_sfld ?_)
local macro_rules | `(tactic| walk_at "rd1") => `(tactic| first
  | walk_at "rd0"
  | with_reducible refine Tw.rd_if ?_
  | with_reducible refine Tw.rd_for ?_)
local macro_rules | `(tactic| walk_at "rs") => `(tactic| repeat walk_at "rd0")
local macro_rules | `(tactic| walk_at "rd") => `(tactic| repeat walk_at "rd1")
local macro_rules | `(tactic| walk_at "ini") => `(tactic| (dsimp only [L2.cxOf, L2.start, L2.Cx.wish, L2.Cx.nox, List.map, List.length_cons, List.length_nil, Nat.reduceAdd, Nat.reduceSub, List.replicate, List.cons_append, List.nil_append]; walk_at "rd"))
local macro_rules | `(tactic| walk_at "num") => `(tactic| first
  | exact (show (0 : Int) < _ from by decide)
  | exact (show (0 : Int) < _ ∧ _ < (1073741824 : Int) from by decide)
  | exact (show (0 : Int) ≤ _ ∧ _ ≤ (1000000 : Int) ∧ _ < 2 ^ 64 from by decide))
local macro_rules | `(tactic| walk_at "rn") => `(tactic| repeat (first | walk_at "rd1" | ((with_reducible refine Tw.rd_I ?c ?_); (case c => walk_at "num"))))
theorem sc_counts_of : FnScope ["one", "other", "found", "mine", "theirs"] ["one", "other"] (defScope s_counts_of) := ⟨rfl, rfl, rfl, by decide +kernel, rfl, by decide +kernel, by decide +kernel⟩
section
variable {P : Program} {w : World} {K : PySem.W.Frag} {mg : Str → Option Value} {base : Heap}
theorem ok_counts_of {f : Addr} {fd : FuncData} (F : Fun K "counts_of" "counts_of" s_counts_of f fd) : FnOk P w K mg base CX0 1 f fd ["one", "other"] (spCounts K) := by
  refine F.ok sc_counts_of (fun vs H Q E h => ?_) (fun cdv A outer s H vs Q E hr h => ?_)
  · obtain ⟨a, b, one, other, rfl, _⟩ := h
    rfl
  · obtain ⟨a, b, one, other, rfl, h1, h2, l1, l2, q⟩ := h
    refine ⟨_, (pss_cons (ps_set (i := 2) sc_counts_of.nd rfl (Or.inl rfl) pe_dnewK)
    (pss_cons (ps_for PassesOwn.never rfl (pi_list (pv 0)) (pg_name (i := 3) sc_counts_of.nd rfl (Or.inl rfl))
      (pss_one (ps_for PassesOwn.never rfl (pi_list (pv 1)) (pg_name (i := 4) sc_counts_of.nd rfl (Or.inl rfl))
      (pss_one (ps_dput (hu_of hr) (pv 2) (pe_op op_add (pv 3) (pv 4)) (pe_op op_add (pe_dget2 (hu_of hr) (pv 2) (pe_op op_add (pv 3) (pv 4)) pe_int ⟨rfl, rfl, rfl, rfl⟩) pe_int) rfl)))))
    (pss_one (ps_ret (pv 2))))), ?_⟩
    walk_at "ini"
    refine rd_dnew fun d nd => ?_
    walk_at "rd"
    have s0 : Same H (upd H d (.dK [])) := same_new nd
    refine ⟨a, rfl, ⟨_, same_l s0 h1⟩, ?_⟩
    refine for_listP V.int one (fun dn σ H1 => ∃ y3 y4, σ = [some (.ref a), some (.ref b), some (.ref d), y3, y4] ∧ Same H H1 ∧ dn.length ≤ one.length ∧ H1 d = some (.dK (kvs (tally (allS dn other)))))
      ⟨none, none, rfl, s0, Nat.zero_le _, upd_same⟩ (fun dn σ H1 ⟨_, _, _, s1, _⟩ => same_l s1 h1) (fun dn m rs σ H1 e ⟨y3, y4, eσ, s1, hl, hd⟩ => ?_) (fun σ H1 ⟨y3, y4, eσ, s1, _, hd⟩ => ?_)
    · subst eσ
      have hl' : (dn ++ [m]).length ≤ one.length := by
        rw [e]
        simp
      walk_at "rd"
      refine ⟨b, rfl, ⟨_, same_l s1 h2⟩, ?_⟩
      refine for_listP V.int other (fun dn2 σ H2 => ∃ y4, σ = [some (.ref a), some (.ref b), some (.ref d), some (.int m), y4] ∧ Same H H2 ∧ dn2.length ≤ other.length ∧ H2 d = some (.dK (kvs (tallyF (tally (allS dn other)) (dn2.map fun t => m + t)))))
        ⟨y4, rfl, s1, Nat.zero_le _, hd⟩ (fun dn2 σ H2 ⟨_, _, s2, _⟩ => same_l s2 h2) (fun dn2 t rs2 σ H2 e2 ⟨y4, eσ, s2, hl2, hd2⟩ => ?_) (fun σ H2 ⟨y4, eσ, s2, _, hd2⟩ => ?_)
      · subst eσ
        walk_at "rd"
        refine ⟨d, rfl, .inl ⟨_, .inl hd2⟩, ?_⟩
        walk_at "rd"
        refine ⟨_, DGet.k (k := Sum.inl (m + t)) hd2, ?_⟩
        rw [getD_kvs]
        walk_at "rd"
        refine ⟨d, _, rfl, DPut.k (k := Sum.inl (m + t)) hd2 ?_, ?_⟩
        · have z1 := tallyF_len (dn2.map fun t => m + t) (tally (allS dn other))
          have z2 := tallyF_len (allS dn other) []
          rw [allS_len] at z2
          have z3 : dn.length * other.length ≤ 100 * 100 := Nat.mul_le_mul (by omega) l2
          have z4 : (tally (allS dn other)).length ≤ 0 + dn.length * other.length := z2
          rw [List.length_map] at z1
          have z5 : sizeLine = 16777216 := sizeLine_eq
          unfold kvs
          rw [List.length_map, z5]
          omega
        · refine ⟨some (.int t), rfl, same_mut s2 nd, ?_, ?_⟩
          · rw [e2]
            simp
          · rw [upd_same, put_kvs, List.map_append, tallyF_app]
            rfl
      · subst eσ
        refine ⟨some (.int m), y4, rfl, s2, hl', ?_⟩
        rw [hd2, allS_app, allS_one]
        unfold tally
        rw [tallyF_app]
    · subst eσ
      walk_at "rd"
      exact q H1 d s1 nd hd
end


end Tw
set_option Elab.async false
set_option linter.all false
set_option maxRecDepth 100000
set_option maxHeartbeats 4000000
namespace Tw
open PySem PySem.Spec PyProof.Rows L2
local macro_rules | `(tactic| walk_at "rd0") => `(tactic| first
  | with_reducible refine Tw.rd_seq ?_
  | with_reducible refine Tw.rd_asg ?_
  | with_reducible refine Tw.rd_drop ?_
  | with_reducible refine Tw.rd_ret ?_
  | with_reducible refine Tw.rd_retN ?_
  | with_reducible refine Tw.rd_next ?_
  | ((with_reducible refine Tw.rd_var (v := ?vv) ?hv ?_); (case hv => exact rfl))
  | with_reducible refine Tw.rd_c ?_
  | with_reducible refine Tw.rd_op ?_
  | with_reducible refine Tw.rd_un ?_
  | with_reducible refine Tw.rd_I0 ?_
  | with_reducible refine Tw.rd_U ?_
  | with_reducible refine Tw.rd_test ?_
  | with_reducible refine Tw.rd_tB ?_
  | with_reducible refine Tw.rd_bl ?_
  | with_reducible refine Tw.rd_not ?_
  | with_reducible refine Tw.rd_and ?_
  | with_reducible refine Tw.rd_or ?_
  | with_reducible refine Tw.rd_andV ?_
  | with_reducible refine Tw.rd_orV ?_
  | with_reducible refine Tw.rd_notV ?_
  | with_reducible refine Tw.rd_tIf ?_
  | with_reducible refine Tw.rd_cb ?_
  | with_reducible refine Tw.rd_cons ?_
  | with_reducible refine Tw.rd_nil ?_
  | with_reducible refine Tw.rd_call ?_
  | with_reducible refine Tw.rd_tup ?_
  | with_reducible refine Tw.rd_lst ?_
  | with_reducible refine Tw.rd_gname ?_
  | with_reducible refine Tw.rd_chain ?_
  | with_reducible refine Tw.rd_lc ?_
  | with_reducible refine Tw.rd_il ?_
  | with_reducible refine Tw.rd_it ?_
  | with_reducible refine Tw.rd_ie ?_
  | with_reducible refine Tw.rd_ir ?_
  | with_reducible refine Tw.rd_ir2 ?_
  | with_reducible refine Tw.rd_dput ?_
  | with_reducible refine Tw.rd_dget2 ?_
  | with_reducible refine Tw.rd_items ?_
  | with_reducible refine Tw.rd_sl ?_
  | with_reducible refine Tw.rd_nopart ?_
  | with_reducible refine Tw.rd_part ?_
  | with_reducible refine Tw.rd_int ?_
  | with_reducible refine Tw.rd_revL ?_
  | with_reducible refine Tw.rd_bm ?_
  | with_reducible refine Tw.rd_bm0 ?_
  | with_reducible refine Tw.rd_lrg ?_
  | with_reducible refine Tw.rd_rg2 ?_
  | with_reducible refine Tw.rd_rg1 ?_
  | with_reducible refine Tw.rd_int2 ?_
  | with_reducible refine Tw.rd_augS ?_
  | with_reducible refine Tw.rd_ipI ?_
  | with_reducible refine Tw.rd_gsub ?_
  | with_reducible refine Tw.rd_gcons ?_
  | with_reducible refine Tw.rd_gnil ?_
  | with_reducible refine Tw.rd_par ?_
  | with_reducible refine Tw.rd_par2 ?_
  | with_reducible refine Tw.rd_mk ?_
  | with_reducible refine Tw.rd_md ?_
  | with_reducible refine Tw.rd_fld ?_
  | with_reducible refine Tw.rd_sfld ?_)
local macro_rules | `(tactic| walk_at "rd1") => `(tactic| first
  | walk_at "rd0"
  | with_reducible refine Tw.rd_if ?_
  | with_reducible refine Tw.rd_for ?_)
local macro_rules | `(tactic| walk_at "rs") => `(tactic| repeat walk_at "rd0")
local macro_rules | `(tactic| walk_at "rd") => `(tactic| repeat walk_at "rd1")
local macro_rules | `(tactic| walk_at "ini") => `(tactic| (dsimp only [L2.cxOf, L2.start, L2.Cx.wish, L2.Cx.nox, List.map, List.length_cons, List.length_nil, Nat.reduceAdd, Nat.reduceSub, List.replicate, List.cons_append, List.nil_append]; walk_at "rd"))
local macro_rules | `(tactic| walk_at "num") => `(tactic| first
  | exact (show (0 : Int) < _ from by decide)
  | exact (show (0 : Int) < _ ∧ _ < (1073741824 : Int) from by decide)
  | exact (show (0 : Int) ≤ _ ∧ _ ≤ (1000000 : Int) ∧ _ < 2 ^ 64 from by decide))
local macro_rules | `(tactic| walk_at "rn") => `(tactic| repeat (first | walk_at "rd1" | ((with_reducible refine Tw.rd_I ?c ?_); (case c => walk_at "num"))))
theorem sc_mirrored : FnScope ["die", "one"] ["die"] (defScope s_mirrored) := ⟨rfl, rfl, rfl, by decide +kernel, rfl, by decide +kernel, by decide +kernel⟩
section
variable {P : Program} {w : World} {K : PySem.W.Frag} {mg : Str → Option Value} {base : Heap}
theorem ok_mirrored {f C : Addr} {fd : FuncData} (F : Fun K "mirrored" "mirrored" s_mirrored f fd) (B : Bn mg) (d_check_die : Df P w K mg base (L2.CX P w) 2 "check_die" ["die"] (spDie K C)) : FnOk P w K mg base (L2.CX P w) 3 f fd ["die"] (spMirrored K C) := by
  refine F.okX sc_mirrored (fun vs H Q E h => ?_) (fun cdv A outer s H vs Q E hr h => ?_)
  · obtain ⟨x, rfl, _⟩ := h
    rfl
  · obtain ⟨x, rfl, h⟩ := h
    refine ⟨_, (pss_cons (ps_expr (pe_df d_check_die (hr.mono (by decide)) (by rfl) (passes_call (takes_of rfl rfl rfl rfl) (fun _ _ _ _ h => h)) (pa_cons (pv 0) pa_nil)))
    (pss_one (ps_ret (pe_lc (own := [("one", 1)]) (g := gName 1) rfl sc_mirrored.nd (pi_list (pe_revL (pv 0))) (blkOk_by (own := [("one", 1)]) (N := ["die", "one"]) (sc := defScope s_mirrored) (by decide +kernel)) (fun _ _ _ _ _ => pg_name (i := 1) sc_mirrored.nd rfl (Or.inl rfl)) (fun _ _ _ _ _ => pts_nil) (fun _ _ _ _ _ => (pe_op op_sub (pe_op op_add (pe_ix (r := rIxL K) ix_list (pv 0) pe_int (fun _ _ => rfl)) (pe_ix (r := rIxL K) ix_list (pv 0) (pe_un un_neg pe_int) (fun _ _ => rfl))) (pv 1))))))), ?_⟩
    walk_at "ini"
    rcases h with ⟨h, qe⟩ | ⟨a, ns, h1, q⟩
    · exact ⟨x, rfl, .inl ⟨h, qe⟩⟩
    refine ⟨x, rfl, .inr ⟨a, ns, h1, fun H1 s1 => ?_⟩⟩
    obtain ⟨rfl, hA, dA⟩ := h1
    have lA := dieI_len dA
    have hA1 := same_l s1 hA
    walk_at "rd"
    refine ⟨a, _, rfl, hA1, fun r nr => ?_⟩
    refine ⟨r, rfl, ⟨_, .of upd_same⟩, fun D nD => ?_⟩
    have s2 : Same H1 (upd H1 r (.lst (ns.map V.int).reverse)) := same_new nr
    refine lc_mapP V.int (fun n => V.int (ns.headD 0 + ns.getLastD 0 - n)) ns.reverse nD (.of (by rw [upd_same, List.map_reverse])) (by rw [List.length_reverse, sizeLine_eq]; omega) (fun z hz H3 s3 Q' q' => ⟨rfl, ?_⟩) (fun H3 s3 h3 => ?_)
    · have hA3 := same_l (s2.trans s3) hA1
      walk_at "rd"
      have e0 : atI (ns.map V.int) 0 = some (.int (ns.headD 0)) := by
        refine atI_nat (j := 0) ?_
        cases ns with
        | nil => simp at lA
        | cons x r => rfl
      have e1 : atI (ns.map V.int) (-1) = some (.int (ns.getLastD 0)) := by
        have hne : ns ≠ [] := fun e => by
          subst e
          simp at lA
        have e2 : ns = ns.dropLast ++ [ns.getLastD 0] := by
          conv => lhs; rw [← List.dropLast_concat_getLast hne]
          rw [List.getLastD_eq_getLast?, List.getLast?_eq_getLast hne]
          rfl
        conv => lhs; rw [e2, List.map_append]
        exact atI_last _ _
      refine rd_ixL hA3 e0 ?_
      walk_at "rd"
      refine rd_ixL hA3 e1 ?_
      walk_at "rd"
      exact q' _ (Same.refl _)
    · refine q _ D (s1.trans (s2.trans s3)) (s1.free (s2.free nD)) ?_
      rw [h3]
      unfold mirM
      rw [List.map_map]
      rfl
end

end Tw
set_option Elab.async false
set_option linter.all false
set_option maxRecDepth 100000
set_option maxHeartbeats 4000000
namespace Tw
open PySem PySem.Spec PyProof.Rows L2
local macro_rules | `(tactic| walk_at "rd0") => `(tactic| first
  | with_reducible refine Tw.rd_seq ?_
  | with_reducible refine Tw.rd_asg ?_
  | with_reducible refine Tw.rd_drop ?_
  | with_reducible refine Tw.rd_ret ?_
  | with_reducible refine Tw.rd_retN ?_
  | with_reducible refine Tw.rd_next ?_
  | ((with_reducible refine Tw.rd_var (v := ?vv) ?hv ?_); (case hv => exact rfl))
  | with_reducible refine Tw.rd_c ?_
  | with_reducible refine Tw.rd_op ?_
  | with_reducible refine Tw.rd_un ?_
  | with_reducible refine Tw.rd_I0 ?_
  | with_reducible refine Tw.rd_U ?_
  | with_reducible refine Tw.rd_test ?_
  | with_reducible refine Tw.rd_tB ?_
  | with_reducible refine Tw.rd_bl ?_
  | with_reducible refine Tw.rd_not ?_
  | with_reducible refine Tw.rd_and ?_
  | with_reducible refine Tw.rd_or ?_
  | with_reducible refine Tw.rd_andV ?_
  | with_reducible refine Tw.rd_orV ?_
  | with_reducible refine Tw.rd_notV ?_
  | with_reducible refine Tw.rd_tIf ?_
  | with_reducible refine Tw.rd_cb ?_
  | with_reducible refine Tw.rd_cons ?_
  | with_reducible refine Tw.rd_nil ?_
  | with_reducible refine Tw.rd_call ?_
  | with_reducible refine Tw.rd_tup ?_
  | with_reducible refine Tw.rd_lst ?_
  | with_reducible refine Tw.rd_gname ?_
  | with_reducible refine Tw.rd_chain ?_
  | with_reducible refine Tw.rd_lc ?_
  | with_reducible refine Tw.rd_il ?_
  | with_reducible refine Tw.rd_it ?_
  | with_reducible refine Tw.rd_ie ?_
  | with_reducible refine Tw.rd_ir ?_
  | with_reducible refine Tw.rd_ir2 ?_
  | with_reducible refine Tw.rd_dput ?_
  | with_reducible refine Tw.rd_dget2 ?_
  | with_reducible refine Tw.rd_items ?_
  | with_reducible refine Tw.rd_sl ?_
  | with_reducible refine Tw.rd_nopart ?_
  | with_reducible refine Tw.rd_part ?_
  | with_reducible refine Tw.rd_int ?_
  | with_reducible refine Tw.rd_revL ?_
  | with_reducible refine Tw.rd_bm ?_
  | with_reducible refine Tw.rd_bm0 ?_
  | with_reducible refine Tw.rd_lrg ?_
  | with_reducible refine Tw.rd_rg2 ?_
  | with_reducible refine Tw.rd_rg1 ?_
  | with_reducible refine Tw.rd_int2 ?_
  | with_reducible refine Tw.rd_augS ?_
  | with_reducible refine Tw.rd_ipI ?_
  | with_reducible refine Tw.rd_gsub ?_
  | with_reducible refine Tw.rd_gcons ?_
  | with_reducible refine Tw.rd_gnil ?_
  | with_reducible refine Tw.rd_par ?_
  | with_reducible refine Tw.rd_par2 ?_
  | with_reducible refine Tw.rd_mk ?_
  | with_reducible refine Tw.rd_md ?_
  | with_reducible refine Tw.rd_fld ?_
  | with_reducible refine Tw.rd_sfld ?_)
local macro_rules | `(tactic| walk_at "rd1") => `(tactic| first
  | walk_at "rd0"
  | with_reducible refine Tw.rd_if ?_
  | with_reducible refine Tw.rd_for ?_)
local macro_rules | `(tactic| walk_at "rs") => `(tactic| repeat walk_at "rd0")
local macro_rules | `(tactic| walk_at "rd") => `(tactic| repeat walk_at "rd1")
local macro_rules | `(tactic| walk_at "ini") => `(tactic| (dsimp only [L2.cxOf, L2.start, L2.Cx.wish, L2.Cx.nox, List.map, List.length_cons, List.length_nil, Nat.reduceAdd, Nat.reduceSub, List.replicate, List.cons_append, List.nil_append]; walk_at "rd"))
local macro_rules | `(tactic| walk_at "num") => `(tactic| first
  | exact (show (0 : Int) < _ from by decide)
  | exact (show (0 : Int) < _ ∧ _ < (1073741824 : Int) from by decide)
  | exact (show (0 : Int) ≤ _ ∧ _ ≤ (1000000 : Int) ∧ _ < 2 ^ 64 from by decide))
local macro_rules | `(tactic| walk_at "rn") => `(tactic| repeat (first | walk_at "rd1" | ((with_reducible refine Tw.rd_I ?c ?_); (case c => walk_at "num"))))
theorem sc_how_often : FnScope ["first", "second", "total"] ["first", "second", "total"] (defScope s_how_often) := ⟨rfl, rfl, rfl, by decide +kernel, rfl, by decide +kernel, by decide +kernel⟩
section
variable {P : Program} {w : World} {K : PySem.W.Frag} {mg : Str → Option Value} {base : Heap}
theorem ok_how_often {f : Addr} {fd : FuncData} (F : Fun K "how_often" "how_often" s_how_often f fd) (B : Bn mg) : FnOk P w K mg base CX0 1 f fd ["first", "second", "total"] spHow := by
  refine F.ok sc_how_often (fun vs H Q E h => ?_) (fun cdv A outer s H vs Q E hr h => ?_)
  · obtain ⟨a, b, c, rfl, _⟩ := h
    rfl
  · obtain ⟨a, b, c, rfl, q⟩ := h
    refine ⟨_, (pss_one (ps_ret (pe_callB (call_max2 rfl) (by rfl) B.n_max boot_max (pa_cons pe_int (pa_cons (pe_callB (call_min4 rfl) (by rfl) B.n_min boot_min (pa_cons (pe_op op_sub (pv 2) pe_int) (pa_cons (pe_op op_sub (pe_op op_add (pe_op op_add (pv 0) (pv 1)) pe_int) (pv 2)) (pa_cons (pv 0) (pa_cons (pv 1) pa_nil))))) pa_nil))))), ?_⟩
    walk_at "ini"
    refine ⟨_, _, _, _, rfl, ?_⟩
    walk_at "rd"
    exact ⟨_, _, rfl, q⟩
end

end Tw
set_option Elab.async false
set_option linter.all false
set_option maxRecDepth 100000
set_option maxHeartbeats 4000000
namespace Tw
open PySem PySem.Spec PyProof.Rows L2
local macro_rules | `(tactic| walk_at "rd0") => `(tactic| first
  | with_reducible refine Tw.rd_seq ?_
  | with_reducible refine Tw.rd_asg ?_
  | with_reducible refine Tw.rd_drop ?_
  | with_reducible refine Tw.rd_ret ?_
  | with_reducible refine Tw.rd_retN ?_
  | with_reducible refine Tw.rd_next ?_
  | ((with_reducible refine Tw.rd_var (v := ?vv) ?hv ?_); (case hv => exact rfl))
  | with_reducible refine Tw.rd_c ?_
  | with_reducible refine Tw.rd_op ?_
  | with_reducible refine Tw.rd_un ?_
  | with_reducible refine Tw.rd_I0 ?_
  | with_reducible refine Tw.rd_U ?_
  | with_reducible refine Tw.rd_test ?_
  | with_reducible refine Tw.rd_tB ?_
  | with_reducible refine Tw.rd_bl ?_
  | with_reducible refine Tw.rd_not ?_
  | with_reducible refine Tw.rd_and ?_
  | with_reducible refine Tw.rd_or ?_
  | with_reducible refine Tw.rd_andV ?_
  | with_reducible refine Tw.rd_orV ?_
  | with_reducible refine Tw.rd_notV ?_
  | with_reducible refine Tw.rd_tIf ?_
  | with_reducible refine Tw.rd_cb ?_
  | with_reducible refine Tw.rd_cons ?_
  | with_reducible refine Tw.rd_nil ?_
  | with_reducible refine Tw.rd_call ?_
  | with_reducible refine Tw.rd_tup ?_
  | with_reducible refine Tw.rd_lst ?_
  | with_reducible refine Tw.rd_gname ?_
  | with_reducible refine Tw.rd_chain ?_
  | with_reducible refine Tw.rd_lc ?_
  | with_reducible refine Tw.rd_il ?_
  | with_reducible refine Tw.rd_it ?_
  | with_reducible refine Tw.rd_ie ?_
  | with_reducible refine Tw.rd_ir ?_
  | with_reducible refine Tw.rd_ir2 ?_
  | with_reducible refine Tw.rd_dput ?_
  | with_reducible refine Tw.rd_dget2 ?_
  | with_reducible refine Tw.rd_items ?_
  | with_reducible refine Tw.rd_sl ?_
  | with_reducible refine Tw.rd_nopart ?_
  | with_reducible refine Tw.rd_part ?_
  | with_reducible refine Tw.rd_int ?_
  | with_reducible refine Tw.rd_revL ?_
  | with_reducible refine Tw.rd_bm ?_
  | with_reducible refine Tw.rd_bm0 ?_
  | with_reducible refine Tw.rd_lrg ?_
  | with_reducible refine Tw.rd_rg2 ?_
  | with_reducible refine Tw.rd_rg1 ?_
  | with_reducible refine Tw.rd_int2 ?_
  | with_reducible refine Tw.rd_augS ?_
  | with_reducible refine Tw.rd_ipI ?_
  | with_reducible refine Tw.rd_gsub ?_
  | with_reducible refine Tw.rd_gcons ?_
  | with_reducible refine Tw.rd_gnil ?_
  | with_reducible refine Tw.rd_par ?_
  | with_reducible refine Tw.rd_par2 ?_
  | with_reducible refine Tw.rd_mk ?_
  | with_reducible refine Tw.rd_md ?_
  | with_reducible refine Tw.rd_fld ?_
  | with_reducible refine Tw.rd_sfld ?_)
local macro_rules | `(tactic| walk_at "rd1") => `(tactic| first
  | walk_at "rd0"
  | with_reducible refine Tw.rd_if ?_
  | with_reducible refine Tw.rd_for ?_)
local macro_rules | `(tactic| walk_at "rs") => `(tactic| repeat walk_at "rd0")
local macro_rules | `(tactic| walk_at "rd") => `(tactic| repeat walk_at "rd1")
local macro_rules | `(tactic| walk_at "ini") => `(tactic| (dsimp only [L2.cxOf, L2.start, L2.Cx.wish, L2.Cx.nox, List.map, List.length_cons, List.length_nil, Nat.reduceAdd, Nat.reduceSub, List.replicate, List.cons_append, List.nil_append]; walk_at "rd"))
local macro_rules | `(tactic| walk_at "num") => `(tactic| first
  | exact (show (0 : Int) < _ from by decide)
  | exact (show (0 : Int) < _ ∧ _ < (1073741824 : Int) from by decide)
  | exact (show (0 : Int) ≤ _ ∧ _ ≤ (1000000 : Int) ∧ _ < 2 ^ 64 from by decide))
local macro_rules | `(tactic| walk_at "rn") => `(tactic| repeat (first | walk_at "rd1" | ((with_reducible refine Tw.rd_I ?c ?_); (case c => walk_at "num"))))
theorem sc_first_off : FnScope ["first", "second", "one", "other", "found", "plain_sums", "total"] ["first", "second", "one", "other"] (defScope s_first_off) := ⟨rfl, rfl, rfl, by decide +kernel, rfl, by decide +kernel, by decide +kernel⟩
section
variable {P : Program} {w : World} {K : PySem.W.Frag} {mg : Str → Option Value} {base : Heap}
theorem ok_first_off {f : Addr} {fd : FuncData} (F : Fun K "first_off" "first_off" s_first_off f fd) (B : Bn mg) (d_counts_of : Df P w K mg base CX0 1 "counts_of" ["one", "other"] (spCounts K)) (d_how_often : Df P w K mg base CX0 1 "how_often" ["first", "second", "total"] spHow) :
    FnOk P w K mg base CX0 2 f fd ["first", "second", "one", "other"] (spFirstOff K) := by
  refine F.ok sc_first_off (fun vs H Q E h => ?_) (fun cdv A outer s H vs Q E hr h => ?_)
  · obtain ⟨_, _, _, _, _, _, rfl, _⟩ := h
    rfl
  · obtain ⟨f, s, a, b, one, other, rfl, hf, hs, h1, h2, l1, l2, q⟩ := h
    refine ⟨_, (pss_cons (ps_set (i := 4) sc_first_off.nd rfl (Or.inl rfl) (pe_df d_counts_of (hr.mono (by decide)) (by rfl) pass0 (pa_cons (pv 2) (pa_cons (pv 3) pa_nil))))
    (pss_cons (ps_set (i := 5) sc_first_off.nd rfl (Or.inl rfl) (pe_listRg rfl (by rfl) B.n_list (prg_2 (by rfl) B.n_range pe_int (pe_op op_add (pe_op op_add (pv 0) (pv 1)) pe_int))))
    (pss_cons (ps_for PassesOwn.never rfl (pi_list (pe_callB (r := rSortedI K) cr_sortedI (by rfl) B.n_sorted boot_sorted (pa_cons (pe_op op_cat (pe_callTy (r := rListD) (call_list_dK rfl) (by rfl) B.n_list boot_list (pa_cons (pv 4) pa_nil)) (pv 5)) pa_nil))) (pg_name (i := 6) sc_first_off.nd rfl (Or.inl rfl))
      (pss_one (ps_if (pt_cmpR op_ne (pe_dget2 (hu_of hr) (pv 4) (pv 6) pe_int ⟨rfl, rfl, rfl, rfl⟩) (pe_df d_how_often (hr.mono (by decide)) (by rfl) pass0 (pa_cons (pv 0) (pa_cons (pv 1) (pa_cons (pv 6) pa_nil)))) (nomark _)) (pss_one (ps_ret (pv 6))) pss_nil)))
    (pss_one (ps_ret pe_int))))), ?_⟩
    walk_at "ini"
    refine ⟨a, b, one, other, rfl, h1, h2, l1, l2, fun H1 d s1 nd hd => ?_⟩
    walk_at "rd"
    have hf1 := hf.1
    have hf2 := hf.2
    have hs1 := hs.1
    have hs2 := hs.2
    refine ⟨.of_le (by decide) (by omega) (by decide) (by omega), fun r nr => ?_⟩
    have hd2 := keep_new (o := .lst (rgV 2 (f + s + 1))) nr hd
    have hr2 := upd_same (H := H1) (a := r) (o := .lst (rgV 2 (f + s + 1)))
    have s2 := same_new (o := .lst (rgV 2 (f + s + 1))) nr
    revert hd2 hr2 s2
    generalize upd H1 r (.lst (rgV 2 (f + s + 1))) = H2
    intro hd2 hr2 s2
    walk_at "rd"
    refine ⟨d, _, rfl, hd2, fun k nk => ?_⟩
    walk_at "rd"
    have ek : ((kvs (tally (allS one other))).map fun kv => kV kv.1) = ((tally (allS one other)).map (·.1)).map V.int := by
      unfold kvs
      rw [List.map_map, List.map_map]
      rfl
    rw [ek, rgV_rgI] at *
    refine rd_cat upd_same (keep_new nk hr2) ?_ (fun c nc => ?_)
    · have z1 := tallyF_len (allS one other) []
      rw [allS_len] at z1
      have z2 : one.length * other.length ≤ 100 * 100 := Nat.mul_le_mul l1 l2
      have z5 : (tally (allS one other)).length ≤ 0 + one.length * other.length := z1
      simp only [rgI, List.length_map, List.length_range]
      rw [sizeLine_eq]
      omega
    walk_at "rd"
    rw [← List.map_append]
    refine rd_sortI (.of upd_same) (fun L p perm srt np => ?_)
    have eL : L = foL f s one other := pw_isort perm srt
    subst eL
    have s3 := (same_new (o := .lst (((tally (allS one other)).map (·.1)).map V.int)) nk).trans ((same_new (o := .lst (((tally (allS one other)).map (·.1) ++ rgI 2 (f + s + 1)).map V.int)) nc).trans (same_new (o := .lst ((foL f s one other).map V.int)) np))
    refine ⟨p, rfl, ⟨_, .of upd_same⟩, ?_⟩
    have hp3 := upd_same (H := upd (upd H2 k (.lst (((tally (allS one other)).map (·.1)).map V.int))) c (.lst (((tally (allS one other)).map (·.1) ++ rgI 2 (f + s + 1)).map V.int))) (a := p) (o := .lst ((foL f s one other).map V.int))
    revert s3 hp3
    generalize upd (upd (upd H2 k (.lst (((tally (allS one other)).map (·.1)).map V.int))) c (.lst (((tally (allS one other)).map (·.1) ++ rgI 2 (f + s + 1)).map V.int))) p (.lst ((foL f s one other).map V.int)) = H3
    intro s3 hp3
    have hd3 := s3 _ _ hd2
    have s03 : Same H H3 := s1.trans (s2.trans s3)
    refine for_listP V.int (foL f s one other) (fun dn σ H4 => H4 = H3 ∧ (∀ t ∈ dn, getN (tally (allS one other)) t = hoM f s t) ∧ ∃ y, σ = [some (.int f), some (.int s), some (.ref a), some (.ref b), some (.ref d), some (.ref r), y])
      ⟨rfl, (fun t ht => nomatch ht), none, rfl⟩ (fun dn σ H4 ⟨e, _⟩ => by rw [e]; exact .of hp3) (fun dn t rs σ H4 e ⟨eH, hdn, y, eσ⟩ => ?_) (fun σ H4 ⟨eH, hdn, y, eσ⟩ => ?_)
    · subst eσ eH
      walk_at "rd"
      refine ⟨d, rfl, .inl ⟨_, .inl hd3⟩, ?_⟩
      walk_at "rd"
      refine ⟨_, DGet.k (k := Sum.inl t) hd3, ?_⟩
      rw [getD_kvs]
      walk_at "rd"
      refine ⟨f, s, t, rfl, ?_⟩
      walk_at "rd"
      refine ⟨rfl, ?_⟩
      walk_at "rd"
      by_cases c : getN (tally (allS one other)) t = hoM f s t
      · rw [decide_eq_true (by rw [c])]
        refine iteF ?_
        refine ⟨rfl, fun t' ht' => ?_, _, rfl⟩
        rcases List.mem_append.mp ht' with ht' | ht'
        · exact hdn t' ht'
        · rw [List.mem_singleton.mp ht']
          exact c
      · rw [decide_eq_false (fun z => c (V.int.inj z))]
        refine iteT ?_
        walk_at "rd"
        have ef : foM f s one other = t := by
          unfold foM
          rw [e, List.find?_append, List.find?_eq_none.mpr (fun x hx => by simp [hdn x hx]), List.find?_cons, decide_eq_true c]
          rfl
        rw [← ef]
        exact q _ s03
    · subst eσ eH
      walk_at "rd"
      have ef : foM f s one other = 0 := by
        unfold foM
        rw [List.find?_eq_none.mpr (fun x hx => by simp [hdn x hx])]
        rfl
      rw [← ef]
      exact q _ s03
end

end Tw
set_option Elab.async false
set_option linter.all false
set_option maxRecDepth 100000
set_option maxHeartbeats 4000000
namespace Tw
open PySem PySem.Spec PyProof.Rows L2
local macro_rules | `(tactic| walk_at "rd0") => `(tactic| first
  | with_reducible refine Tw.rd_seq ?_
  | with_reducible refine Tw.rd_asg ?_
  | with_reducible refine Tw.rd_drop ?_
  | with_reducible refine Tw.rd_ret ?_
  | with_reducible refine Tw.rd_retN ?_
  | with_reducible refine Tw.rd_next ?_
  | ((with_reducible refine Tw.rd_var (v := ?vv) ?hv ?_); (case hv => exact rfl))
  | with_reducible refine Tw.rd_c ?_
  | with_reducible refine Tw.rd_op ?_
  | with_reducible refine Tw.rd_un ?_
  | with_reducible refine Tw.rd_I0 ?_
  | with_reducible refine Tw.rd_U ?_
  | with_reducible refine Tw.rd_test ?_
  | with_reducible refine Tw.rd_tB ?_
  | with_reducible refine Tw.rd_bl ?_
  | with_reducible refine Tw.rd_not ?_
  | with_reducible refine Tw.rd_and ?_
  | with_reducible refine Tw.rd_or ?_
  | with_reducible refine Tw.rd_andV ?_
  | with_reducible refine Tw.rd_orV ?_
  | with_reducible refine Tw.rd_notV ?_
  | with_reducible refine Tw.rd_tIf ?_
  | with_reducible refine Tw.rd_cb ?_
  | with_reducible refine Tw.rd_cons ?_
  | with_reducible refine Tw.rd_nil ?_
  | with_reducible refine Tw.rd_call ?_
  | with_reducible refine Tw.rd_tup ?_
  | with_reducible refine Tw.rd_lst ?_
  | with_reducible refine Tw.rd_gname ?_
  | with_reducible refine Tw.rd_chain ?_
  | with_reducible refine Tw.rd_lc ?_
  | with_reducible refine Tw.rd_il ?_
  | with_reducible refine Tw.rd_it ?_
  | with_reducible refine Tw.rd_ie ?_
  | with_reducible refine Tw.rd_ir ?_
  | with_reducible refine Tw.rd_ir2 ?_
  | with_reducible refine Tw.rd_dput ?_
  | with_reducible refine Tw.rd_dget2 ?_
  | with_reducible refine Tw.rd_items ?_
  | with_reducible refine Tw.rd_sl ?_
  | with_reducible refine Tw.rd_nopart ?_
  | with_reducible refine Tw.rd_part ?_
  | with_reducible refine Tw.rd_int ?_
  | with_reducible refine Tw.rd_revL ?_
  | with_reducible refine Tw.rd_bm ?_
  | with_reducible refine Tw.rd_bm0 ?_
  | with_reducible refine Tw.rd_lrg ?_
  | with_reducible refine Tw.rd_rg2 ?_
  | with_reducible refine Tw.rd_rg1 ?_
  | with_reducible refine Tw.rd_int2 ?_
  | with_reducible refine Tw.rd_augS ?_
  | with_reducible refine Tw.rd_ipI ?_
  | with_reducible refine Tw.rd_gsub ?_
  | with_reducible refine Tw.rd_gcons ?_
  | with_reducible refine Tw.rd_gnil ?_
  | with_reducible refine Tw.rd_par ?_
  | with_reducible refine Tw.rd_par2 ?_
  | with_reducible refine Tw.rd_mk ?_
  | with_reducible refine Tw.rd_md ?_
  | with_reducible refine Tw.rd_fld ?_
  | with_reducible refine Tw.rd_sfld ?_)
local macro_rules | `(tactic| walk_at "rd1") => `(tactic| first
  | walk_at "rd0"
  | with_reducible refine Tw.rd_if ?_
  | with_reducible refine Tw.rd_for ?_)
local macro_rules | `(tactic| walk_at "rs") => `(tactic| repeat walk_at "rd0")
local macro_rules | `(tactic| walk_at "rd") => `(tactic| repeat walk_at "rd1")
local macro_rules | `(tactic| walk_at "ini") => `(tactic| (dsimp only [L2.cxOf, L2.start, L2.Cx.wish, L2.Cx.nox, List.map, List.length_cons, List.length_nil, Nat.reduceAdd, Nat.reduceSub, List.replicate, List.cons_append, List.nil_append]; walk_at "rd"))
local macro_rules | `(tactic| walk_at "num") => `(tactic| first
  | exact (show (0 : Int) < _ from by decide)
  | exact (show (0 : Int) < _ ∧ _ < (1073741824 : Int) from by decide)
  | exact (show (0 : Int) ≤ _ ∧ _ ≤ (1000000 : Int) ∧ _ < 2 ^ 64 from by decide))
local macro_rules | `(tactic| walk_at "rn") => `(tactic| repeat (first | walk_at "rd1" | ((with_reducible refine Tw.rd_I ?c ?_); (case c => walk_at "num"))))
theorem sc_Twin_shows : FnScope ["self", "first", "second", "one", "other"] ["self", "first", "second", "one", "other"] (defScope s_Twin_shows) := ⟨rfl, rfl, rfl, by decide +kernel, rfl, by decide +kernel, by decide +kernel⟩
theorem sc_Off___init__ : FnScope ["self", "total"] ["self", "total"] (defScope s_Off___init__) := ⟨rfl, rfl, rfl, by decide +kernel, rfl, by decide +kernel, by decide +kernel⟩
theorem sc_Off_shows : FnScope ["self", "first", "second", "one", "other"] ["self", "first", "second", "one", "other"] (defScope s_Off_shows) := ⟨rfl, rfl, rfl, by decide +kernel, rfl, by decide +kernel, by decide +kernel⟩
section
variable {P : Program} {w : World} {K : PySem.W.Frag} {mg : Str → Option Value} {base : Heap}
theorem ok_Twin_shows {f : Addr} {fd : FuncData} (F : Fun K "shows" "Twin.shows" s_Twin_shows f fd) (d_first_off : Df P w K mg base CX0 2 "first_off" ["first", "second", "one", "other"] (spFirstOff K)) :
    FnOk P w K mg base CX0 3 f fd ["self", "first", "second", "one", "other"] (spTShows K) := by
  refine F.ok sc_Twin_shows (fun vs H Q E h => ?_) (fun cdv A outer s H vs Q E hr h => ?_)
  · obtain ⟨_, _, _, _, _, _, _, rfl, _⟩ := h
    rfl
  · obtain ⟨x, f, s, a, b, one, other, rfl, hf, hs, h1, h2, l1, l2, q⟩ := h
    refine ⟨_, (pss_one (ps_ret (pe_cmpR op_eq (pe_df d_first_off (hr.mono (by decide)) (by rfl) pass0 (pa_cons (pv 1) (pa_cons (pv 2) (pa_cons (pv 3) (pa_cons (pv 4) pa_nil))))) pe_int (nomark _)))), ?_⟩
    walk_at "ini"
    refine ⟨f, s, a, b, one, other, rfl, hf, hs, h1, h2, l1, l2, fun H1 s1 => ?_⟩
    walk_at "rd"
    refine ⟨rfl, ?_⟩
    have e : decide (V.int (foM f s one other) = V.int 0) = decide (foM f s one other = 0) := by
      by_cases c : foM f s one other = 0
      · rw [decide_eq_true c, decide_eq_true (by rw [c])]
      · rw [decide_eq_false c, decide_eq_false (fun z => c (V.int.inj z))]
    rw [e]
    exact q _ s1
theorem ok_Off___init__ {f C : Addr} {fd : FuncData} (F : Fun K "__init__" "Off.__init__" s_Off___init__ f fd) (c : Cls K C) (nt : NoAttr K C "total") : FnOk P w K mg base CX0 1 f fd ["self", "total"] (spOInit C) := by
  refine F.ok sc_Off___init__ (fun vs H Q E h => ?_) (fun cdv A outer s H vs Q E hr h => ?_)
  · obtain ⟨_, _, _, rfl, _⟩ := h
    rfl
  · obtain ⟨x, dx, v, rfl, hx, q⟩ := h
    refine ⟨_, (pss_one (ps_fld (pv 0) (pv 1) rfl)), ?_⟩
    walk_at "ini"
    exact ⟨x, C, dx, [], rfl, hx, c, nt, by decide, q⟩
theorem ok_Off_shows {f C : Addr} {fd : FuncData} (F : Fun K "shows" "Off.shows" s_Off_shows f fd) (c : Cls K C) (nt : NoAttr K C "total") (d_is_whole : Df P w K mg base CX0 1 "is_whole" ["thing"] (spIsWhole K)) (d_counts_of : Df P w K mg base CX0 1 "counts_of" ["one", "other"] (spCounts K)) (d_how_often : Df P w K mg base CX0 1 "how_often" ["first", "second", "total"] spHow) :
    FnOk P w K mg base CX0 2 f fd ["self", "first", "second", "one", "other"] (spOShows K C) := by
  refine F.ok sc_Off_shows (fun vs H Q E h => ?_) (fun cdv A outer s H vs Q E hr h => ?_)
  · obtain ⟨_, _, _, _, _, _, _, _, _, rfl, _⟩ := h
    rfl
  · obtain ⟨x, dx, t, f, s, a, b, one, other, rfl, hx, h1, h2, l1, l2, q⟩ := h
    refine ⟨_, (pss_cons (ps_if (pt_not (pt_val (pe_df d_is_whole (hr.mono (by decide)) (by rfl) pass0 (pa_cons (pe_fld (pv 0) rfl) pa_nil)))) (pss_one (ps_ret pe_bl)) pss_nil)
    (pss_one (ps_ret (pe_cmpR op_ne (pe_dget2 (hu_of hr) (pe_df d_counts_of (hr.mono (by decide)) (by rfl) pass0 (pa_cons (pv 3) (pa_cons (pv 4) pa_nil))) (pe_fld (pv 0) rfl) pe_int ⟨rfl, rfl, rfl, rfl⟩) (pe_df d_how_often (hr.mono (by decide)) (by rfl) pass0 (pa_cons (pv 1) (pa_cons (pv 2) (pa_cons (pe_fld (pv 0) rfl) pa_nil)))) (nomark _))))), ?_⟩
    walk_at "ini"
    refine ⟨x, C, dx, _, .int t, rfl, hx, c, nt, look_one _ _, ?_⟩
    walk_at "rd"
    refine ⟨_, rfl, kn_int, ?_⟩
    walk_at "rd"
    refine iteF ?_
    walk_at "rd"
    refine ⟨a, b, one, other, rfl, h1, h2, l1, l2, fun H1 d s1 nd hd => ?_⟩
    refine ⟨d, rfl, .inl ⟨_, .inl hd⟩, ?_⟩
    walk_at "rd"
    refine ⟨x, C, dx, _, .int t, rfl, s1 _ _ hx, c, nt, look_one _ _, ?_⟩
    walk_at "rd"
    refine ⟨_, DGet.k (k := Sum.inl t) hd, ?_⟩
    rw [getD_kvs]
    walk_at "rd"
    refine ⟨x, C, dx, _, .int t, rfl, s1 _ _ hx, c, nt, look_one _ _, ?_⟩
    walk_at "rd"
    refine ⟨f, s, t, rfl, ?_⟩
    refine ⟨rfl, ?_⟩
    have e : (!decide (V.int (getN (tally (allS one other)) t) = V.int (hoM f s t))) = ofM f s t one other := by
      unfold ofM
      by_cases c : getN (tally (allS one other)) t = hoM f s t
      · rw [decide_eq_true c, decide_eq_true (by rw [c])]
      · rw [decide_eq_false c, decide_eq_false (fun z => c (V.int.inj z))]
    rw [e]
    exact q _ s1
end

end Tw
set_option Elab.async false
set_option linter.all false
set_option maxRecDepth 100000
set_option maxHeartbeats 4000000
namespace Tw
open PySem PySem.Spec PyProof.Rows L2
local macro_rules | `(tactic| walk_at "rd0") => `(tactic| first
  | with_reducible refine Tw.rd_seq ?_
  | with_reducible refine Tw.rd_asg ?_
  | with_reducible refine Tw.rd_drop ?_
  | with_reducible refine Tw.rd_ret ?_
  | with_reducible refine Tw.rd_retN ?_
  | with_reducible refine Tw.rd_next ?_
  | ((with_reducible refine Tw.rd_var (v := ?vv) ?hv ?_); (case hv => exact rfl))
  | with_reducible refine Tw.rd_c ?_
  | with_reducible refine Tw.rd_op ?_
  | with_reducible refine Tw.rd_un ?_
  | with_reducible refine Tw.rd_I0 ?_
  | with_reducible refine Tw.rd_U ?_
  | with_reducible refine Tw.rd_test ?_
  | with_reducible refine Tw.rd_tB ?_
  | with_reducible refine Tw.rd_bl ?_
  | with_reducible refine Tw.rd_not ?_
  | with_reducible refine Tw.rd_and ?_
  | with_reducible refine Tw.rd_or ?_
  | with_reducible refine Tw.rd_andV ?_
  | with_reducible refine Tw.rd_orV ?_
  | with_reducible refine Tw.rd_notV ?_
  | with_reducible refine Tw.rd_tIf ?_
  | with_reducible refine Tw.rd_cb ?_
  | with_reducible refine Tw.rd_cons ?_
  | with_reducible refine Tw.rd_nil ?_
  | with_reducible refine Tw.rd_call ?_
  | with_reducible refine Tw.rd_tup ?_
  | with_reducible refine Tw.rd_lst ?_
  | with_reducible refine Tw.rd_gname ?_
  | with_reducible refine Tw.rd_chain ?_
  | with_reducible refine Tw.rd_lc ?_
  | with_reducible refine Tw.rd_il ?_
  | with_reducible refine Tw.rd_it ?_
  | with_reducible refine Tw.rd_ie ?_
  | with_reducible refine Tw.rd_ir ?_
  | with_reducible refine Tw.rd_ir2 ?_
  | with_reducible refine Tw.rd_dput ?_
  | with_reducible refine Tw.rd_dget2 ?_
  | with_reducible refine Tw.rd_items ?_
  | with_reducible refine Tw.rd_sl ?_
  | with_reducible refine Tw.rd_nopart ?_
  | with_reducible refine Tw.rd_part ?_
  | with_reducible refine Tw.rd_int ?_
  | with_reducible refine Tw.rd_revL ?_
  | with_reducible refine Tw.rd_bm ?_
  | with_reducible refine Tw.rd_bm0 ?_
  | with_reducible refine Tw.rd_lrg ?_
  | with_reducible refine Tw.rd_rg2 ?_
  | with_reducible refine Tw.rd_rg1 ?_
  | with_reducible refine Tw.rd_int2 ?_
  | with_reducible refine Tw.rd_augS ?_
  | with_reducible refine Tw.rd_ipI ?_
  | with_reducible refine Tw.rd_gsub ?_
  | with_reducible refine Tw.rd_gcons ?_
  | with_reducible refine Tw.rd_gnil ?_
  | with_reducible refine Tw.rd_par ?_
  | with_reducible refine Tw.rd_par2 ?_
  | with_reducible refine Tw.rd_mk ?_
  | with_reducible refine Tw.rd_md ?_
  | with_reducible refine Tw.rd_fld ?_
  | with_reducible refine Tw.rd_sfld ?_)
local macro_rules | `(tactic| walk_at "rd1") => `(tactic| first
  | walk_at "rd0"
  | with_reducible refine Tw.rd_if ?_
  | with_reducible refine Tw.rd_for ?_)
local macro_rules | `(tactic| walk_at "rs") => `(tactic| repeat walk_at "rd0")
local macro_rules | `(tactic| walk_at "rd") => `(tactic| repeat walk_at "rd1")
local macro_rules | `(tactic| walk_at "ini") => `(tactic| (dsimp only [L2.cxOf, L2.start, L2.Cx.wish, L2.Cx.nox, List.map, List.length_cons, List.length_nil, Nat.reduceAdd, Nat.reduceSub, List.replicate, List.cons_append, List.nil_append]; walk_at "rd"))
local macro_rules | `(tactic| walk_at "num") => `(tactic| first
  | exact (show (0 : Int) < _ from by decide)
  | exact (show (0 : Int) < _ ∧ _ < (1073741824 : Int) from by decide)
  | exact (show (0 : Int) ≤ _ ∧ _ ≤ (1000000 : Int) ∧ _ < 2 ^ 64 from by decide))
local macro_rules | `(tactic| walk_at "rn") => `(tactic| repeat (first | walk_at "rd1" | ((with_reducible refine Tw.rd_I ?c ?_); (case c => walk_at "num"))))
theorem sc__law_number : FnScope ["_law_cell", "_law_at", "_law_whole", "_law_mixed", "_law_more"] ["_law_cell", "_law_at", "_law_whole"] (defScope s__law_number) := ⟨rfl, rfl, rfl, by decide +kernel, rfl, by decide +kernel, by decide +kernel⟩
section
variable {P : Program} {w : World} {K : PySem.W.Frag} {mg : Str → Option Value} {base : Heap}
theorem ok__law_number {f : Addr} {fd : FuncData} (F : Fun K "_law_number" "_law_number" s__law_number f fd) : FnOk P w K mg base CX0 1 f fd ["_law_cell", "_law_at", "_law_whole"] spNum := by
  refine F.ok sc__law_number (fun vs H Q E h => ?_) (fun cdv A outer s H vs Q E hr h => ?_)
  · obtain ⟨c, a, w, rfl, _⟩ := h
    rfl
  · obtain ⟨c, a, w, rfl, hc, ha, hw, q⟩ := h
    refine ⟨_, (pss_cons (ps_if (pt_cmpR op_ge (pv 0) (pe_op op_pow pe_int pe_int) (nomark _)) (pss_one (ps_ret (pv 0))) pss_nil)
    (pss_cons (ps_set (i := 3) sc__law_number.nd rfl (Or.inl rfl) (pe_op op_mod (pe_op op_add (pe_op op_mulX (pe_op op_add (pv 0) (pe_op op_mulX pe_int (pv 1))) pe_int) (pv 2)) pe_int))
    (pss_cons (ps_set (i := 4) sc__law_number.nd rfl (Or.inl rfl) (pe_op op_mulX (pe_op op_mulX (pv 3) (pe_op op_add (pe_op op_add (pv 3) (pe_op op_mulX pe_int (pv 1))) pe_int)) (pe_op op_add (pe_op op_add (pv 3) (pv 0)) pe_int)))
    (pss_one (ps_ret (pe_op op_fdiv (pe_op op_mulX (pv 4) (pe_op op_add (pv 4) pe_int)) pe_int)))))), ?_⟩
    walk_at "ini"
    refine rd_I (show (0 : Int) ≤ 18 ∧ (18 : Int) ≤ 1000000 ∧ (10 : Int).natAbs < 2 ^ 64 by decide) ?_
    walk_at "rd"
    refine ite2 (fun _ => ?_) (fun _ => ?_)
    · walk_at "rd"
      exact q _
    have h64 : ∀ x : Int, -100000 ≤ x → x ≤ 10000000000 → Bd 64 x := fun x h1 h2 => by
      unfold Bd
      omega
    have ba : Bd 64 a := h64 a (by omega) (by omega)
    walk_at "rd"
    refine rd_I (Bd.mulx (h64 977 (by decide) (by decide)) ba (by decide)) ?_
    walk_at "rd"
    have b1 : Bd 1048577 (c + 977 * a) := Bd.add hc ((h64 (977 * a) (by omega) (by omega)).mono (by decide))
    refine rd_I (b1.mulx (h64 48271 (by decide) (by decide)) (by decide)) ?_
    walk_at "rd"
    refine rd_I (show (0 : Int) < 2147483647 by decide) ?_
    generalize hm : ((c + 977 * a) * 48271 + w) % 2147483647 = m
    have m0 : 0 ≤ m := by
      rw [← hm]
      exact Int.emod_nonneg _ (by decide)
    have m1 : m < 2147483647 := by
      rw [← hm]
      exact Int.emod_lt_of_pos _ (by decide)
    have bm : Bd 64 m := h64 m (by omega) (by omega)
    walk_at "rd"
    refine rd_I (Bd.mulx (h64 31 (by decide) (by decide)) ba (by decide)) ?_
    walk_at "rd"
    have b2 : Bd 64 (m + 31 * a + 7) := h64 _ (by omega) (by omega)
    refine rd_I (bm.mulx b2 (by decide)) ?_
    walk_at "rd"
    have b3 : Bd 1048578 (m + c + 5) := Bd.add (Bd.add (bm.mono (by decide)) hc) ((h64 5 (by decide) (by decide)).mono (by decide))
    refine rd_I ((bm.mul b2).mulx b3 (by decide)) ?_
    have b4 : Bd (64 + 64 + 1048578) (m * (m + 31 * a + 7) * (m + c + 5)) := (bm.mul b2).mul b3
    generalize m * (m + 31 * a + 7) * (m + c + 5) = r at b4
    walk_at "rd"
    refine rd_I (b4.mulx (Bd.add b4 ((h64 48271 (by decide) (by decide)).mono (by decide))) (by decide)) ?_
    refine rd_I (show (0 : Int) < 1009 ∧ (1009 : Int) < 1073741824 by decide) ?_
    exact q _
end

end Tw
set_option Elab.async false
set_option linter.all false
set_option maxRecDepth 100000
set_option maxHeartbeats 4000000
namespace Tw
open PySem PySem.Spec PyProof.Rows L2
local macro_rules | `(tactic| walk_at "rd0") => `(tactic| first
  | with_reducible refine Tw.rd_seq ?_
  | with_reducible refine Tw.rd_asg ?_
  | with_reducible refine Tw.rd_drop ?_
  | with_reducible refine Tw.rd_ret ?_
  | with_reducible refine Tw.rd_retN ?_
  | with_reducible refine Tw.rd_next ?_
  | ((with_reducible refine Tw.rd_var (v := ?vv) ?hv ?_); (case hv => exact rfl))
  | with_reducible refine Tw.rd_c ?_
  | with_reducible refine Tw.rd_op ?_
  | with_reducible refine Tw.rd_un ?_
  | with_reducible refine Tw.rd_I0 ?_
  | with_reducible refine Tw.rd_U ?_
  | with_reducible refine Tw.rd_test ?_
  | with_reducible refine Tw.rd_tB ?_
  | with_reducible refine Tw.rd_bl ?_
  | with_reducible refine Tw.rd_not ?_
  | with_reducible refine Tw.rd_and ?_
  | with_reducible refine Tw.rd_or ?_
  | with_reducible refine Tw.rd_andV ?_
  | with_reducible refine Tw.rd_orV ?_
  | with_reducible refine Tw.rd_notV ?_
  | with_reducible refine Tw.rd_tIf ?_
  | with_reducible refine Tw.rd_cb ?_
  | with_reducible refine Tw.rd_cons ?_
  | with_reducible refine Tw.rd_nil ?_
  | with_reducible refine Tw.rd_call ?_
  | with_reducible refine Tw.rd_tup ?_
  | with_reducible refine Tw.rd_lst ?_
  | with_reducible refine Tw.rd_gname ?_
  | with_reducible refine Tw.rd_chain ?_
  | with_reducible refine Tw.rd_lc ?_
  | with_reducible refine Tw.rd_il ?_
  | with_reducible refine Tw.rd_it ?_
  | with_reducible refine Tw.rd_ie ?_
  | with_reducible refine Tw.rd_ir ?_
  | with_reducible refine Tw.rd_ir2 ?_
  | with_reducible refine Tw.rd_dput ?_
  | with_reducible refine Tw.rd_dget2 ?_
  | with_reducible refine Tw.rd_items ?_
  | with_reducible refine Tw.rd_sl ?_
  | with_reducible refine Tw.rd_nopart ?_
  | with_reducible refine Tw.rd_part ?_
  | with_reducible refine Tw.rd_int ?_
  | with_reducible refine Tw.rd_revL ?_
  | with_reducible refine Tw.rd_bm ?_
  | with_reducible refine Tw.rd_bm0 ?_
  | with_reducible refine Tw.rd_lrg ?_
  | with_reducible refine Tw.rd_rg2 ?_
  | with_reducible refine Tw.rd_rg1 ?_
  | with_reducible refine Tw.rd_int2 ?_
  | with_reducible refine Tw.rd_augS ?_
  | with_reducible refine Tw.rd_ipI ?_
  | with_reducible refine Tw.rd_gsub ?_
  | with_reducible refine Tw.rd_gcons ?_
  | with_reducible refine Tw.rd_gnil ?_
  | with_reducible refine Tw.rd_par ?_
  | with_reducible refine Tw.rd_par2 ?_
  | with_reducible refine Tw.rd_mk ?_
  | with_reducible refine Tw.rd_md ?_
  | with_reducible refine Tw.rd_fld ?_
  | with_reducible refine Tw.rd_sfld ?_)
local macro_rules | `(tactic| walk_at "rd1") => `(tactic| first
  | walk_at "rd0"
  | with_reducible refine Tw.rd_if ?_
  | with_reducible refine Tw.rd_for ?_)
local macro_rules | `(tactic| walk_at "rs") => `(tactic| repeat walk_at "rd0")
local macro_rules | `(tactic| walk_at "rd") => `(tactic| repeat walk_at "rd1")
local macro_rules | `(tactic| walk_at "ini") => `(tactic| (dsimp only [L2.cxOf, L2.start, L2.Cx.wish, L2.Cx.nox, List.map, List.length_cons, List.length_nil, Nat.reduceAdd, Nat.reduceSub, List.replicate, List.cons_append, List.nil_append]; walk_at "rd"))
local macro_rules | `(tactic| walk_at "num") => `(tactic| first
  | exact (show (0 : Int) < _ from by decide)
  | exact (show (0 : Int) < _ ∧ _ < (1073741824 : Int) from by decide)
  | exact (show (0 : Int) ≤ _ ∧ _ ≤ (1000000 : Int) ∧ _ < 2 ^ 64 from by decide))
local macro_rules | `(tactic| walk_at "rn") => `(tactic| repeat (first | walk_at "rd1" | ((with_reducible refine Tw.rd_I ?c ?_); (case c => walk_at "num"))))
theorem sc__law_die : FnScope ["_law_script", "_law_by", "_law_most", "_law_cells", "_law_whole", "_law_many", "_law_wide", "_law_found", "_law_at", "_law_number_here"] ["_law_script", "_law_by", "_law_most"] (defScope s__law_die) := ⟨rfl, rfl, rfl, by decide +kernel, rfl, by decide +kernel, by decide +kernel⟩
section
variable {P : Program} {w : World} {K : PySem.W.Frag} {mg : Str → Option Value} {base : Heap}
theorem ok__law_die {f : Addr} {fd : FuncData} (F : Fun K "_law_die" "_law_die" s__law_die f fd) (B : Bn mg) (d__law_number : Df P w K mg base CX0 1 "_law_number" ["_law_cell", "_law_at", "_law_whole"] spNum) : FnOk P w K mg base CX0 2 f fd ["_law_script", "_law_by", "_law_most"] (spLDie K) := by
  refine F.ok sc__law_die (fun vs H Q E h => ?_) (fun cdv A outer s H vs Q E hr h => ?_)
  · obtain ⟨a, ns, b, m, rfl, _⟩ := h
    rfl
  · obtain ⟨a, ns, b, m, rfl, hS, hl, hb, b0, b1, m0, m1, q⟩ := h
    refine ⟨_, (pss_cons (ps_set (i := 3) sc__law_die.nd rfl (Or.inl rfl) (pe_ifExp (pt_cmpR (op_neD hr.units) (pv 0) (pe_lst pa_nil) (nomark _)) (pe_slice (r := rSlL K) sl_list (pv 0) po_none (po_some pe_int)) (pe_lst (pa_cons pe_int pa_nil))))
    (pss_cons (ps_set (i := 4) sc__law_die.nd rfl (Or.inl rfl) (pe_op op_add (pe_callB (r := rSum K) (cr_sum rfl) (by rfl) B.n_sum boot_sum (pa_cons (pv 3) pa_nil)) (pv 1)))
    (pss_cons (ps_set (i := 5) sc__law_die.nd rfl (Or.inl rfl) (pe_op op_add pe_int (pe_op op_mod (pv 4) (pe_op op_sub (pv 2) pe_int))))
    (pss_cons (ps_set (i := 6) sc__law_die.nd rfl (Or.inl rfl) (pe_ix (r := rIxT K) ix_tup (pe_tup (pa_cons pe_int (pa_cons pe_int (pa_cons pe_int (pa_cons pe_int pa_nil))))) (pe_op op_mod (pe_op op_fdiv (pv 4) pe_int) pe_int) (fun _ _ => rfl)))
    (pss_cons (ps_set (i := 7) sc__law_die.nd rfl (Or.inl rfl) (pe_lst pa_nil))
    (pss_cons (ps_for PassesOwn.never rfl (pi_range1 (by rfl) B.n_range (pa_cons (pv 5) pa_nil)) (pg_name (i := 8) sc__law_die.nd rfl (Or.inl rfl))
      (pss_cons (ps_set (i := 9) sc__law_die.nd rfl (Or.inl rfl) (pe_df d__law_number (hr.mono (by decide)) (by rfl) pass0 (pa_cons (pe_ix (r := rIxL K) ix_list (pv 3) (pe_op op_mod (pe_op op_add (pv 8) (pv 1)) (pe_callB (r := rLen K) call_lenQ (by rfl) B.n_len boot_len (pa_cons (pv 3) pa_nil))) (fun _ _ => rfl)) (pa_cons (pe_op op_add (pv 8) (pv 1)) (pa_cons (pv 4) pa_nil)))))
    (pss_one (ps_expr (pe_bm PySem.F.plainAttrs_list PySem.F.slot_list_append PySem.F.type_list_append mt_append (pv 7) (pa_cons (pe_op op_add pe_int (pe_op op_mod (pe_op op_fdiv (pv 9) pe_int) (pv 6))) pa_nil))))))
    (pss_one (ps_ret (pe_callB (r := rSortedI K) cr_sortedI (by rfl) B.n_sorted boot_sorted (pa_cons (pv 7) pa_nil)))))))))), ?_⟩
    dsimp only [L2.cxOf, L2.start, L2.Cx.wish, L2.Cx.nox, List.map, List.length_cons, List.length_nil, Nat.reduceAdd, Nat.reduceSub, List.replicate, List.cons_append, List.nil_append]
    refine rd_seq (rd_asg (cutE (fun v H1 => ∃ c cs, v = .ref c ∧ Same H H1 ∧ H1 c = some (.lst (cs.map V.int)) ∧ cs ≠ [] ∧ cs.length ≤ 63 ∧ ∀ z ∈ cs, Bd 1048576 z) (fun Q' q' => ?_) (fun v H1 h1 => ?_)))
    · walk_at "rd"
      refine ⟨Nat.zero_le _, fun e ne => ?_⟩
      have s1 : Same H (upd H e (.lst [])) := same_new ne
      refine rd_neD (dp_ints (same_l s1 hS)) (dp_ints (ns := []) (.of upd_same)) (shaped_of (sh_ints (n := 0) _)) (shaped_of (sh_ints (n := 0) _)) ?_
      rw [eqv_dI]
      walk_at "rd"
      by_cases c : ns = []
      · rw [decide_eq_true c]
        refine iteF ?_
        walk_at "rd"
        refine ⟨by rw [sizeLine_eq]; decide, fun p np => q' _ _ ⟨p, [7], rfl, s1.trans (same_new np), upd_same, by decide, by decide, fun z hz => ?_⟩⟩
        rw [List.mem_singleton.mp hz]
        exact bd_lit (by decide) (by decide)
      · rw [decide_eq_false c]
        refine iteT ?_
        walk_at "rd"
        refine rd_slL (same_l s1 hS) (fun p np => q' _ _ ⟨p, ns, rfl, s1.trans (same_new np), ?_, c, hl, hb⟩)
        rw [upd_same, cut_63, List.take_of_length_le (by rw [List.length_map]; exact hl)]
    · obtain ⟨c, cs, rfl, s1, hc, cne, cl, cb⟩ := h1
      have bs : Bd 1048700 (cs.sum + b) := Bd.mono (Bd.add ((bd_sum cs cb).mono (Nat.add_le_add_left cl _)) ((show Bd 64 b by unfold Bd; omega).mono (by decide))) (by decide)
      have cpos : 0 < cs.length := List.length_pos_iff.mpr cne
      walk_at "rd"
      refine rd_sum (.of hc) ?_
      walk_at "rd"
      generalize hw : cs.sum + b = wh at bs
      refine rd_I (show (0 : Int) < m - 1 by omega) ?_
      walk_at "rd"
      have k0 : 0 ≤ wh % (m - 1) := Int.emod_nonneg _ (by omega)
      have k1 : wh % (m - 1) < m - 1 := Int.emod_lt_of_pos _ (by omega)
      generalize wh % (m - 1) = k at k0 k1
      refine ⟨by show 4 ≤ sizeLine; rw [sizeLine_eq]; decide, fun t nt => ?_⟩
      walk_at "rn"
      have i0 : 0 ≤ wh / 3 % 4 := Int.emod_nonneg _ (by decide)
      have i1 : wh / 3 % 4 < 4 := Int.emod_lt_of_pos _ (by decide)
      obtain ⟨wv, ew, mw⟩ := atI_mod [V.int 3, V.int 8, V.int 25, V.int 100] (wh / 3 % 4) i0 i1
      obtain ⟨wd, rfl, w0, w1⟩ : ∃ wd : Int, wv = .int wd ∧ 1 ≤ wd ∧ wd ≤ 100 := by
        simp only [List.mem_cons, List.not_mem_nil, or_false] at mw
        rcases mw with rfl | rfl | rfl | rfl
        · exact ⟨3, rfl, by decide, by decide⟩
        · exact ⟨8, rfl, by decide, by decide⟩
        · exact ⟨25, rfl, by decide, by decide⟩
        · exact ⟨100, rfl, by decide, by decide⟩
      refine rd_ixT (.of upd_same) ew ?_
      have s2 := s1.trans (same_new (o := .tup [V.int 3, V.int 8, V.int 25, V.int 100]) nt)
      have hc2 := keep_new (o := .tup [V.int 3, V.int 8, V.int 25, V.int 100]) nt hc
      revert s2 hc2
      generalize upd H1 t (.tup [V.int 3, V.int 8, V.int 25, V.int 100]) = H2
      intro s2 hc2
      walk_at "rd"
      refine ⟨Nat.zero_le _, fun l nl => ?_⟩
      walk_at "rd"
      refine ⟨2 + k, rfl, by omega, by omega, ?_⟩
      have ncl : c ≠ l := ne_of_none hc2 nl
      refine for_range (lo := 0) (n := (2 + k).toNat) (fun i σ H3 => ∃ (L : List Int) (y8 y9 : Option V), σ = [some (.ref a), some (.int b), some (.int m), some (.ref c), some (.int wh), some (.int (2 + k)), some (.int wd), some (.ref l), y8, y9] ∧ Same H H3 ∧ H3 c = some (.lst (cs.map V.int)) ∧ H3 l = some (.lst (L.map V.int)) ∧ L.length = i ∧ ∀ z ∈ L, 1 ≤ z ∧ z ≤ 100)
        ⟨[], none, none, rfl, s2.trans (same_new nl), keep_new nl hc2, upd_same, rfl, fun z hz => nomatch hz⟩ (fun i σ H3 hi ⟨L, y8, y9, eσ, s3, hc3, hl3, len, hL⟩ => ?_) (fun σ H3 ⟨L, y8, y9, eσ, s3, hc3, hl3, len, hL⟩ => ?_)
      · subst eσ
        walk_at "rd"
        refine ⟨c, _, rfl, .inl (.of hc3), ?_⟩
        refine rd_I (show (0 : Int) < ((cs.map V.int).length : Int) by rw [List.length_map]; omega) ?_
        have j0 : 0 ≤ (0 + (i : Int) + b) % ((cs.map V.int).length : Int) := Int.emod_nonneg _ (by rw [List.length_map]; omega)
        have j1 : (0 + (i : Int) + b) % ((cs.map V.int).length : Int) < ((cs.map V.int).length : Int) := Int.emod_lt_of_pos _ (by rw [List.length_map]; omega)
        obtain ⟨cv, ec, mc⟩ := atI_mod (cs.map V.int) _ j0 j1
        obtain ⟨z, hz, rfl⟩ := List.mem_map.mp mc
        refine rd_ixL (.of hc3) ec ?_
        walk_at "rd"
        refine ⟨z, 0 + (i : Int) + b, wh, rfl, cb z hz, ⟨by omega, by omega⟩, bs, fun n => ?_⟩
        walk_at "rd"
        refine rd_tyl (.of hl3) ?_
        walk_at "rn"
        refine rd_I (show (0 : Int) < wd by omega) ?_
        walk_at "rd"
        have v0 : 0 ≤ n / 3 % wd := Int.emod_nonneg _ (by omega)
        have v1 : n / 3 % wd < wd := Int.emod_lt_of_pos _ (by omega)
        refine rd_append hl3 (by rw [List.length_map, sizeLine_eq]; omega) ?_
        refine ⟨L ++ [1 + n / 3 % wd], _, _, rfl, same_mut s3 (s2.free nl), keep_ne ncl hc3, ?_, by rw [List.length_append, len]; rfl, fun x hx => ?_⟩
        · rw [upd_same, List.map_append]
          rfl
        · rcases List.mem_append.mp hx with hx | hx
          · exact hL x hx
          · rw [List.mem_singleton.mp hx]
            omega
      · subst eσ
        walk_at "rd"
        refine rd_sortI (.of hl3) (fun L' p perm srt np => q _ p L' (s3.trans (same_new np)) (s3.free np) upd_same ?_ ?_)
        · have e := perm.length_eq
          unfold dieI
          simp only [Bool.and_eq_true, decide_eq_true_eq, List.all_eq_true]
          refine ⟨by omega, by omega, fun x hx => hL x (perm.mem_iff.mp hx), srt⟩
        · rw [perm.length_eq]
          omega
end

end Tw
set_option Elab.async false
set_option linter.all false
set_option maxRecDepth 100000
set_option maxHeartbeats 4000000
namespace Tw
open PySem PySem.Spec PyProof.Rows L2
local macro_rules | `(tactic| walk_at "rd0") => `(tactic| first
  | with_reducible refine Tw.rd_seq ?_
  | with_reducible refine Tw.rd_asg ?_
  | with_reducible refine Tw.rd_drop ?_
  | with_reducible refine Tw.rd_ret ?_
  | with_reducible refine Tw.rd_retN ?_
  | with_reducible refine Tw.rd_next ?_
  | ((with_reducible refine Tw.rd_var (v := ?vv) ?hv ?_); (case hv => exact rfl))
  | with_reducible refine Tw.rd_c ?_
  | with_reducible refine Tw.rd_op ?_
  | with_reducible refine Tw.rd_un ?_
  | with_reducible refine Tw.rd_I0 ?_
  | with_reducible refine Tw.rd_U ?_
  | with_reducible refine Tw.rd_test ?_
  | with_reducible refine Tw.rd_tB ?_
  | with_reducible refine Tw.rd_bl ?_
  | with_reducible refine Tw.rd_not ?_
  | with_reducible refine Tw.rd_and ?_
  | with_reducible refine Tw.rd_or ?_
  | with_reducible refine Tw.rd_andV ?_
  | with_reducible refine Tw.rd_orV ?_
  | with_reducible refine Tw.rd_notV ?_
  | with_reducible refine Tw.rd_tIf ?_
  | with_reducible refine Tw.rd_cb ?_
  | with_reducible refine Tw.rd_cons ?_
  | with_reducible refine Tw.rd_nil ?_
  | with_reducible refine Tw.rd_call ?_
  | with_reducible refine Tw.rd_tup ?_
  | with_reducible refine Tw.rd_lst ?_
  | with_reducible refine Tw.rd_gname ?_
  | with_reducible refine Tw.rd_chain ?_
  | with_reducible refine Tw.rd_lc ?_
  | with_reducible refine Tw.rd_il ?_
  | with_reducible refine Tw.rd_it ?_
  | with_reducible refine Tw.rd_ie ?_
  | with_reducible refine Tw.rd_ir ?_
  | with_reducible refine Tw.rd_ir2 ?_
  | with_reducible refine Tw.rd_dput ?_
  | with_reducible refine Tw.rd_dget2 ?_
  | with_reducible refine Tw.rd_items ?_
  | with_reducible refine Tw.rd_sl ?_
  | with_reducible refine Tw.rd_nopart ?_
  | with_reducible refine Tw.rd_part ?_
  | with_reducible refine Tw.rd_int ?_
  | with_reducible refine Tw.rd_revL ?_
  | with_reducible refine Tw.rd_bm ?_
  | with_reducible refine Tw.rd_bm0 ?_
  | with_reducible refine Tw.rd_lrg ?_
  | with_reducible refine Tw.rd_rg2 ?_
  | with_reducible refine Tw.rd_rg1 ?_
  | with_reducible refine Tw.rd_int2 ?_
  | with_reducible refine Tw.rd_augS ?_
  | with_reducible refine Tw.rd_ipI ?_
  | with_reducible refine Tw.rd_gsub ?_
  | with_reducible refine Tw.rd_gcons ?_
  | with_reducible refine Tw.rd_gnil ?_
  | with_reducible refine Tw.rd_par ?_
  | with_reducible refine Tw.rd_par2 ?_
  | with_reducible refine Tw.rd_mk ?_
  | with_reducible refine Tw.rd_md ?_
  | with_reducible refine Tw.rd_fld ?_
  | with_reducible refine Tw.rd_sfld ?_)
local macro_rules | `(tactic| walk_at "rd1") => `(tactic| first
  | walk_at "rd0"
  | with_reducible refine Tw.rd_if ?_
  | with_reducible refine Tw.rd_for ?_)
local macro_rules | `(tactic| walk_at "rs") => `(tactic| repeat walk_at "rd0")
local macro_rules | `(tactic| walk_at "rd") => `(tactic| repeat walk_at "rd1")
local macro_rules | `(tactic| walk_at "ini") => `(tactic| (dsimp only [L2.cxOf, L2.start, L2.Cx.wish, L2.Cx.nox, List.map, List.length_cons, List.length_nil, Nat.reduceAdd, Nat.reduceSub, List.replicate, List.cons_append, List.nil_append]; walk_at "rd"))
local macro_rules | `(tactic| walk_at "num") => `(tactic| first
  | exact (show (0 : Int) < _ from by decide)
  | exact (show (0 : Int) < _ ∧ _ < (1073741824 : Int) from by decide)
  | exact (show (0 : Int) ≤ _ ∧ _ ≤ (1000000 : Int) ∧ _ < 2 ^ 64 from by decide))
local macro_rules | `(tactic| walk_at "rn") => `(tactic| repeat (first | walk_at "rd1" | ((with_reducible refine Tw.rd_I ?c ?_); (case c => walk_at "num"))))
theorem sc__law_two_sides : FnScope ["_law_script", "_law_by", "_law_most", "_law_cells", "_law_number_here"] ["_law_script", "_law_by", "_law_most"] (defScope s__law_two_sides) := ⟨rfl, rfl, rfl, by decide +kernel, rfl, by decide +kernel, by decide +kernel⟩
section
variable {P : Program} {w : World} {K : PySem.W.Frag} {mg : Str → Option Value} {base : Heap}
theorem ok__law_two_sides {f : Addr} {fd : FuncData} (F : Fun K "_law_two_sides" "_law_two_sides" s__law_two_sides f fd) (B : Bn mg) (d__law_number : Df P w K mg base CX0 1 "_law_number" ["_law_cell", "_law_at", "_law_whole"] spNum) : FnOk P w K mg base CX0 2 f fd ["_law_script", "_law_by", "_law_most"] (spTwo K) := by
  refine F.ok sc__law_two_sides (fun vs H Q E h => ?_) (fun cdv A outer s H vs Q E hr h => ?_)
  · obtain ⟨a, ns, b, m, rfl, _⟩ := h
    rfl
  · obtain ⟨a, ns, b, m, rfl, hS, hl, hb, b0, b1, m0, m1, q⟩ := h
    refine ⟨_, (pss_cons (ps_set (i := 3) sc__law_two_sides.nd rfl (Or.inl rfl) (pe_ifExp (pt_cmpR (op_neD hr.units) (pv 0) (pe_lst pa_nil) (nomark _)) (pe_slice (r := rSlL K) sl_list (pv 0) po_none (po_some pe_int)) (pe_lst (pa_cons pe_int pa_nil))))
    (pss_cons (ps_set (i := 4) sc__law_two_sides.nd rfl (Or.inl rfl) (pe_df d__law_number (hr.mono (by decide)) (by rfl) pass0 (pa_cons (pe_ix (r := rIxL K) ix_list (pv 3) (pe_op op_mod (pv 1) (pe_callB (r := rLen K) call_lenQ (by rfl) B.n_len boot_len (pa_cons (pv 3) pa_nil))) (fun _ _ => rfl)) (pa_cons (pe_op op_add (pv 1) pe_int) (pa_cons (pe_callB (r := rLen K) call_lenQ (by rfl) B.n_len boot_len (pa_cons (pv 3) pa_nil)) pa_nil)))))
    (pss_one (ps_ret (pe_tup (pa_cons (pe_op op_add pe_int (pe_op op_mod (pv 4) (pe_op op_sub (pv 2) pe_int))) (pa_cons (pe_op op_add pe_int (pe_op op_mod (pe_op op_fdiv (pv 4) pe_int) (pe_op op_sub (pv 2) pe_int))) pa_nil))))))), ?_⟩
    dsimp only [L2.cxOf, L2.start, L2.Cx.wish, L2.Cx.nox, List.map, List.length_cons, List.length_nil, Nat.reduceAdd, Nat.reduceSub, List.replicate, List.cons_append, List.nil_append]
    refine rd_seq (rd_asg (cutE (fun v H1 => ∃ c cs, v = .ref c ∧ Same H H1 ∧ H1 c = some (.lst (cs.map V.int)) ∧ cs ≠ [] ∧ cs.length ≤ 63 ∧ ∀ z ∈ cs, Bd 1048576 z) (fun Q' q' => ?_) (fun v H1 h1 => ?_)))
    · walk_at "rd"
      refine ⟨Nat.zero_le _, fun e ne => ?_⟩
      have s1 : Same H (upd H e (.lst [])) := same_new ne
      refine rd_neD (dp_ints (same_l s1 hS)) (dp_ints (ns := []) (.of upd_same)) (shaped_of (sh_ints (n := 0) _)) (shaped_of (sh_ints (n := 0) _)) ?_
      rw [eqv_dI]
      walk_at "rd"
      by_cases c : ns = []
      · rw [decide_eq_true c]
        refine iteF ?_
        walk_at "rd"
        refine ⟨by rw [sizeLine_eq]; decide, fun p np => q' _ _ ⟨p, [7], rfl, s1.trans (same_new np), upd_same, by decide, by decide, fun z hz => ?_⟩⟩
        rw [List.mem_singleton.mp hz]
        exact bd_lit (by decide) (by decide)
      · rw [decide_eq_false c]
        refine iteT ?_
        walk_at "rd"
        refine rd_slL (same_l s1 hS) (fun p np => q' _ _ ⟨p, ns, rfl, s1.trans (same_new np), ?_, c, hl, hb⟩)
        rw [upd_same, cut_63, List.take_of_length_le (by rw [List.length_map]; exact hl)]
    · obtain ⟨c, cs, rfl, s1, hc, cne, cl, cb⟩ := h1
      have cpos : 0 < cs.length := List.length_pos_iff.mpr cne
      walk_at "rd"
      refine ⟨c, _, rfl, .inl (.of hc), ?_⟩
      refine rd_I (show (0 : Int) < ((cs.map V.int).length : Int) by rw [List.length_map]; omega) ?_
      have j0 : 0 ≤ b % ((cs.map V.int).length : Int) := Int.emod_nonneg _ (by rw [List.length_map]; omega)
      have j1 : b % ((cs.map V.int).length : Int) < ((cs.map V.int).length : Int) := Int.emod_lt_of_pos _ (by rw [List.length_map]; omega)
      obtain ⟨cv, ec, mc⟩ := atI_mod (cs.map V.int) _ j0 j1
      obtain ⟨z, hz, rfl⟩ := List.mem_map.mp mc
      refine rd_ixL (.of hc) ec ?_
      walk_at "rd"
      refine ⟨c, _, rfl, .inl (.of hc), ?_⟩
      walk_at "rd"
      refine ⟨z, b + 2, _, rfl, cb z hz, ⟨by omega, by omega⟩, ?_, fun n => ?_⟩
      · refine bd_lit ?_ (by decide)
        rw [List.length_map]
        omega
      walk_at "rd"
      refine rd_I (show (0 : Int) < m - 1 by omega) ?_
      walk_at "rn"
      refine rd_I (show (0 : Int) < m - 1 by omega) ?_
      walk_at "rd"
      have k0 : 0 ≤ n % (m - 1) := Int.emod_nonneg _ (by omega)
      have k1 : n % (m - 1) < m - 1 := Int.emod_lt_of_pos _ (by omega)
      have k2 : 0 ≤ n / 13 % (m - 1) := Int.emod_nonneg _ (by omega)
      have k3 : n / 13 % (m - 1) < m - 1 := Int.emod_lt_of_pos _ (by omega)
      refine ⟨by show 2 ≤ sizeLine; rw [sizeLine_eq]; decide, fun t nt => ?_⟩
      exact q _ t _ _ (s1.trans (same_new nt)) upd_same (by omega) (by omega) (by omega) (by omega)
end

end Tw
set_option Elab.async false
set_option linter.all false
set_option maxRecDepth 100000
set_option maxHeartbeats 4000000
namespace Tw
open PySem PySem.Spec PyProof.Rows L2
local macro_rules | `(tactic| walk_at "rd0") => `(tactic| first
  | with_reducible refine Tw.rd_seq ?_
  | with_reducible refine Tw.rd_asg ?_
  | with_reducible refine Tw.rd_drop ?_
  | with_reducible refine Tw.rd_ret ?_
  | with_reducible refine Tw.rd_retN ?_
  | with_reducible refine Tw.rd_next ?_
  | ((with_reducible refine Tw.rd_var (v := ?vv) ?hv ?_); (case hv => exact rfl))
  | with_reducible refine Tw.rd_c ?_
  | with_reducible refine Tw.rd_op ?_
  | with_reducible refine Tw.rd_un ?_
  | with_reducible refine Tw.rd_I0 ?_
  | with_reducible refine Tw.rd_U ?_
  | with_reducible refine Tw.rd_test ?_
  | with_reducible refine Tw.rd_tB ?_
  | with_reducible refine Tw.rd_bl ?_
  | with_reducible refine Tw.rd_not ?_
  | with_reducible refine Tw.rd_and ?_
  | with_reducible refine Tw.rd_or ?_
  | with_reducible refine Tw.rd_andV ?_
  | with_reducible refine Tw.rd_orV ?_
  | with_reducible refine Tw.rd_notV ?_
  | with_reducible refine Tw.rd_tIf ?_
  | with_reducible refine Tw.rd_cb ?_
  | with_reducible refine Tw.rd_cons ?_
  | with_reducible refine Tw.rd_nil ?_
  | with_reducible refine Tw.rd_call ?_
  | with_reducible refine Tw.rd_tup ?_
  | with_reducible refine Tw.rd_lst ?_
  | with_reducible refine Tw.rd_gname ?_
  | with_reducible refine Tw.rd_chain ?_
  | with_reducible refine Tw.rd_lc ?_
  | with_reducible refine Tw.rd_il ?_
  | with_reducible refine Tw.rd_it ?_
  | with_reducible refine Tw.rd_ie ?_
  | with_reducible refine Tw.rd_ir ?_
  | with_reducible refine Tw.rd_ir2 ?_
  | with_reducible refine Tw.rd_dput ?_
  | with_reducible refine Tw.rd_dget2 ?_
  | with_reducible refine Tw.rd_items ?_
  | with_reducible refine Tw.rd_sl ?_
  | with_reducible refine Tw.rd_nopart ?_
  | with_reducible refine Tw.rd_part ?_
  | with_reducible refine Tw.rd_int ?_
  | with_reducible refine Tw.rd_revL ?_
  | with_reducible refine Tw.rd_bm ?_
  | with_reducible refine Tw.rd_bm0 ?_
  | with_reducible refine Tw.rd_lrg ?_
  | with_reducible refine Tw.rd_rg2 ?_
  | with_reducible refine Tw.rd_rg1 ?_
  | with_reducible refine Tw.rd_int2 ?_
  | with_reducible refine Tw.rd_augS ?_
  | with_reducible refine Tw.rd_ipI ?_
  | with_reducible refine Tw.rd_gsub ?_
  | with_reducible refine Tw.rd_gcons ?_
  | with_reducible refine Tw.rd_gnil ?_
  | with_reducible refine Tw.rd_par ?_
  | with_reducible refine Tw.rd_par2 ?_
  | with_reducible refine Tw.rd_mk ?_
  | with_reducible refine Tw.rd_md ?_
  | with_reducible refine Tw.rd_fld ?_
  | with_reducible refine Tw.rd_sfld ?_)
local macro_rules | `(tactic| walk_at "rd1") => `(tactic| first
  | walk_at "rd0"
  | with_reducible refine Tw.rd_if ?_
  | with_reducible refine Tw.rd_for ?_)
local macro_rules | `(tactic| walk_at "rs") => `(tactic| repeat walk_at "rd0")
local macro_rules | `(tactic| walk_at "rd") => `(tactic| repeat walk_at "rd1")
local macro_rules | `(tactic| walk_at "ini") => `(tactic| (dsimp only [L2.cxOf, L2.start, L2.Cx.wish, L2.Cx.nox, List.map, List.length_cons, List.length_nil, Nat.reduceAdd, Nat.reduceSub, List.replicate, List.cons_append, List.nil_append]; walk_at "rd"))
local macro_rules | `(tactic| walk_at "num") => `(tactic| first
  | exact (show (0 : Int) < _ from by decide)
  | exact (show (0 : Int) < _ ∧ _ < (1073741824 : Int) from by decide)
  | exact (show (0 : Int) ≤ _ ∧ _ ≤ (1000000 : Int) ∧ _ < 2 ^ 64 from by decide))
local macro_rules | `(tactic| walk_at "rn") => `(tactic| repeat (first | walk_at "rd1" | ((with_reducible refine Tw.rd_I ?c ?_); (case c => walk_at "num"))))
theorem sc__law_counts : FnScope ["_law_one", "_law_other", "_law_found", "_law_mine", "_law_theirs"] ["_law_one", "_law_other"] (defScope s__law_counts) := ⟨rfl, rfl, rfl, by decide +kernel, rfl, by decide +kernel, by decide +kernel⟩
section
variable {P : Program} {w : World} {K : PySem.W.Frag} {mg : Str → Option Value} {base : Heap}
theorem ok__law_counts {f : Addr} {fd : FuncData} (F : Fun K "_law_counts" "_law_counts" s__law_counts f fd) : FnOk P w K mg base CX0 1 f fd ["_law_one", "_law_other"] (spCounts K) := by
  refine F.ok sc__law_counts (fun vs H Q E h => ?_) (fun cdv A outer s H vs Q E hr h => ?_)
  · obtain ⟨a, b, one, other, rfl, _⟩ := h
    rfl
  · obtain ⟨a, b, one, other, rfl, h1, h2, l1, l2, q⟩ := h
    refine ⟨_, (pss_cons (ps_set (i := 2) sc__law_counts.nd rfl (Or.inl rfl) pe_dnewK)
    (pss_cons (ps_for PassesOwn.never rfl (pi_list (pv 0)) (pg_name (i := 3) sc__law_counts.nd rfl (Or.inl rfl))
      (pss_one (ps_for PassesOwn.never rfl (pi_list (pv 1)) (pg_name (i := 4) sc__law_counts.nd rfl (Or.inl rfl))
      (pss_one (ps_dput (hu_of hr) (pv 2) (pe_op op_add (pv 3) (pv 4)) (pe_op op_add (pe_dget2 (hu_of hr) (pv 2) (pe_op op_add (pv 3) (pv 4)) pe_int ⟨rfl, rfl, rfl, rfl⟩) pe_int) rfl)))))
    (pss_one (ps_ret (pv 2))))), ?_⟩
    walk_at "ini"
    refine rd_dnew fun d nd => ?_
    walk_at "rd"
    have s0 : Same H (upd H d (.dK [])) := same_new nd
    refine ⟨a, rfl, ⟨_, same_l s0 h1⟩, ?_⟩
    refine for_listP V.int one (fun dn σ H1 => ∃ y3 y4, σ = [some (.ref a), some (.ref b), some (.ref d), y3, y4] ∧ Same H H1 ∧ dn.length ≤ one.length ∧ H1 d = some (.dK (kvs (tally (allS dn other)))))
      ⟨none, none, rfl, s0, Nat.zero_le _, upd_same⟩ (fun dn σ H1 ⟨_, _, _, s1, _⟩ => same_l s1 h1) (fun dn m rs σ H1 e ⟨y3, y4, eσ, s1, hl, hd⟩ => ?_) (fun σ H1 ⟨y3, y4, eσ, s1, _, hd⟩ => ?_)
    · subst eσ
      have hl' : (dn ++ [m]).length ≤ one.length := by
        rw [e]
        simp
      walk_at "rd"
      refine ⟨b, rfl, ⟨_, same_l s1 h2⟩, ?_⟩
      refine for_listP V.int other (fun dn2 σ H2 => ∃ y4, σ = [some (.ref a), some (.ref b), some (.ref d), some (.int m), y4] ∧ Same H H2 ∧ dn2.length ≤ other.length ∧ H2 d = some (.dK (kvs (tallyF (tally (allS dn other)) (dn2.map fun t => m + t)))))
        ⟨y4, rfl, s1, Nat.zero_le _, hd⟩ (fun dn2 σ H2 ⟨_, _, s2, _⟩ => same_l s2 h2) (fun dn2 t rs2 σ H2 e2 ⟨y4, eσ, s2, hl2, hd2⟩ => ?_) (fun σ H2 ⟨y4, eσ, s2, _, hd2⟩ => ?_)
      · subst eσ
        walk_at "rd"
        refine ⟨d, rfl, .inl ⟨_, .inl hd2⟩, ?_⟩
        walk_at "rd"
        refine ⟨_, DGet.k (k := Sum.inl (m + t)) hd2, ?_⟩
        rw [getD_kvs]
        walk_at "rd"
        refine ⟨d, _, rfl, DPut.k (k := Sum.inl (m + t)) hd2 ?_, ?_⟩
        · have z1 := tallyF_len (dn2.map fun t => m + t) (tally (allS dn other))
          have z2 := tallyF_len (allS dn other) []
          rw [allS_len] at z2
          have z3 : dn.length * other.length ≤ 100 * 100 := Nat.mul_le_mul (by omega) l2
          have z4 : (tally (allS dn other)).length ≤ 0 + dn.length * other.length := z2
          rw [List.length_map] at z1
          have z5 : sizeLine = 16777216 := sizeLine_eq
          unfold kvs
          rw [List.length_map, z5]
          omega
        · refine ⟨some (.int t), rfl, same_mut s2 nd, ?_, ?_⟩
          · rw [e2]
            simp
          · rw [upd_same, put_kvs, List.map_append, tallyF_app]
            rfl
      · subst eσ
        refine ⟨some (.int m), y4, rfl, s2, hl', ?_⟩
        rw [hd2, allS_app, allS_one]
        unfold tally
        rw [tallyF_app]
    · subst eσ
      walk_at "rd"
      exact q H1 d s1 nd hd
end


end Tw
set_option Elab.async false
set_option linter.all false
set_option maxRecDepth 100000
set_option maxHeartbeats 4000000
namespace Tw
open PySem PySem.Spec PyProof.Rows L2
local macro_rules | `(tactic| walk_at "rd0") => `(tactic| first
  | with_reducible refine Tw.rd_seq ?_
  | with_reducible refine Tw.rd_asg ?_
  | with_reducible refine Tw.rd_drop ?_
  | with_reducible refine Tw.rd_ret ?_
  | with_reducible refine Tw.rd_retN ?_
  | with_reducible refine Tw.rd_next ?_
  | ((with_reducible refine Tw.rd_var (v := ?vv) ?hv ?_); (case hv => exact rfl))
  | with_reducible refine Tw.rd_c ?_
  | with_reducible refine Tw.rd_op ?_
  | with_reducible refine Tw.rd_un ?_
  | with_reducible refine Tw.rd_I0 ?_
  | with_reducible refine Tw.rd_U ?_
  | with_reducible refine Tw.rd_test ?_
  | with_reducible refine Tw.rd_tB ?_
  | with_reducible refine Tw.rd_bl ?_
  | with_reducible refine Tw.rd_not ?_
  | with_reducible refine Tw.rd_and ?_
  | with_reducible refine Tw.rd_or ?_
  | with_reducible refine Tw.rd_andV ?_
  | with_reducible refine Tw.rd_orV ?_
  | with_reducible refine Tw.rd_notV ?_
  | with_reducible refine Tw.rd_tIf ?_
  | with_reducible refine Tw.rd_cb ?_
  | with_reducible refine Tw.rd_cons ?_
  | with_reducible refine Tw.rd_nil ?_
  | with_reducible refine Tw.rd_call ?_
  | with_reducible refine Tw.rd_tup ?_
  | with_reducible refine Tw.rd_lst ?_
  | with_reducible refine Tw.rd_gname ?_
  | with_reducible refine Tw.rd_chain ?_
  | with_reducible refine Tw.rd_lc ?_
  | with_reducible refine Tw.rd_il ?_
  | with_reducible refine Tw.rd_it ?_
  | with_reducible refine Tw.rd_ie ?_
  | with_reducible refine Tw.rd_ir ?_
  | with_reducible refine Tw.rd_ir2 ?_
  | with_reducible refine Tw.rd_dput ?_
  | with_reducible refine Tw.rd_dget2 ?_
  | with_reducible refine Tw.rd_items ?_
  | with_reducible refine Tw.rd_sl ?_
  | with_reducible refine Tw.rd_nopart ?_
  | with_reducible refine Tw.rd_part ?_
  | with_reducible refine Tw.rd_int ?_
  | with_reducible refine Tw.rd_revL ?_
  | with_reducible refine Tw.rd_bm ?_
  | with_reducible refine Tw.rd_bm0 ?_
  | with_reducible refine Tw.rd_lrg ?_
  | with_reducible refine Tw.rd_rg2 ?_
  | with_reducible refine Tw.rd_rg1 ?_
  | with_reducible refine Tw.rd_int2 ?_
  | with_reducible refine Tw.rd_augS ?_
  | with_reducible refine Tw.rd_ipI ?_
  | with_reducible refine Tw.rd_gsub ?_
  | with_reducible refine Tw.rd_gcons ?_
  | with_reducible refine Tw.rd_gnil ?_
  | with_reducible refine Tw.rd_par ?_
  | with_reducible refine Tw.rd_par2 ?_
  | with_reducible refine Tw.rd_mk ?_
  | with_reducible refine Tw.rd_md ?_
  | with_reducible refine Tw.rd_fld ?_
  | with_reducible refine Tw.rd_sfld ?_)
local macro_rules | `(tactic| walk_at "rd1") => `(tactic| first
  | walk_at "rd0"
  | with_reducible refine Tw.rd_if ?_
  | with_reducible refine Tw.rd_for ?_)
local macro_rules | `(tactic| walk_at "rs") => `(tactic| repeat walk_at "rd0")
local macro_rules | `(tactic| walk_at "rd") => `(tactic| repeat walk_at "rd1")
local macro_rules | `(tactic| walk_at "ini") => `(tactic| (dsimp only [L2.cxOf, L2.start, L2.Cx.wish, L2.Cx.nox, List.map, List.length_cons, List.length_nil, Nat.reduceAdd, Nat.reduceSub, List.replicate, List.cons_append, List.nil_append]; walk_at "rd"))
local macro_rules | `(tactic| walk_at "num") => `(tactic| first
  | exact (show (0 : Int) < _ from by decide)
  | exact (show (0 : Int) < _ ∧ _ < (1073741824 : Int) from by decide)
  | exact (show (0 : Int) ≤ _ ∧ _ ≤ (1000000 : Int) ∧ _ < 2 ^ 64 from by decide))
local macro_rules | `(tactic| walk_at "rn") => `(tactic| repeat (first | walk_at "rd1" | ((with_reducible refine Tw.rd_I ?c ?_); (case c => walk_at "num"))))
theorem sc__law_plain : FnScope ["_law_sides"] ["_law_sides"] (defScope s__law_plain) := ⟨rfl, rfl, rfl, by decide +kernel, rfl, by decide +kernel, by decide +kernel⟩
section
variable {P : Program} {w : World} {K : PySem.W.Frag} {mg : Str → Option Value} {base : Heap}
theorem ok__law_plain {f : Addr} {fd : FuncData} (F : Fun K "_law_plain" "_law_plain" s__law_plain f fd) (B : Bn mg) : FnOk P w K mg base CX0 1 f fd ["_law_sides"] spPlain := by
  refine F.ok sc__law_plain (fun vs H Q E h => ?_) (fun cdv A outer s H vs Q E hr h => ?_)
  · obtain ⟨n, rfl, _⟩ := h
    rfl
  · obtain ⟨n, rfl, n0, n1, q⟩ := h
    refine ⟨_, (pss_one (ps_ret (pe_listRg rfl (by rfl) B.n_list (prg_2 (by rfl) B.n_range pe_int (pe_op op_add (pv 0) pe_int))))), ?_⟩
    walk_at "ini"
    refine ⟨.of_le (by decide) (by omega) (by decide) (by omega), fun p np => ?_⟩
    refine q _ p (same_new np) np ?_
    rw [upd_same, rgV_rgI]
end

end Tw
set_option Elab.async false
set_option linter.all false
set_option maxRecDepth 100000
set_option maxHeartbeats 4000000
namespace Tw
open PySem PySem.Spec PyProof.Rows L2
local macro_rules | `(tactic| walk_at "rd0") => `(tactic| first
  | with_reducible refine Tw.rd_seq ?_
  | with_reducible refine Tw.rd_asg ?_
  | with_reducible refine Tw.rd_drop ?_
  | with_reducible refine Tw.rd_ret ?_
  | with_reducible refine Tw.rd_retN ?_
  | with_reducible refine Tw.rd_next ?_
  | ((with_reducible refine Tw.rd_var (v := ?vv) ?hv ?_); (case hv => exact rfl))
  | with_reducible refine Tw.rd_c ?_
  | with_reducible refine Tw.rd_op ?_
  | with_reducible refine Tw.rd_un ?_
  | with_reducible refine Tw.rd_I0 ?_
  | with_reducible refine Tw.rd_U ?_
  | with_reducible refine Tw.rd_test ?_
  | with_reducible refine Tw.rd_tB ?_
  | with_reducible refine Tw.rd_bl ?_
  | with_reducible refine Tw.rd_not ?_
  | with_reducible refine Tw.rd_and ?_
  | with_reducible refine Tw.rd_or ?_
  | with_reducible refine Tw.rd_andV ?_
  | with_reducible refine Tw.rd_orV ?_
  | with_reducible refine Tw.rd_notV ?_
  | with_reducible refine Tw.rd_tIf ?_
  | with_reducible refine Tw.rd_cb ?_
  | with_reducible refine Tw.rd_cons ?_
  | with_reducible refine Tw.rd_nil ?_
  | with_reducible refine Tw.rd_call ?_
  | with_reducible refine Tw.rd_tup ?_
  | with_reducible refine Tw.rd_lst ?_
  | with_reducible refine Tw.rd_gname ?_
  | with_reducible refine Tw.rd_chain ?_
  | with_reducible refine Tw.rd_lc ?_
  | with_reducible refine Tw.rd_il ?_
  | with_reducible refine Tw.rd_it ?_
  | with_reducible refine Tw.rd_ie ?_
  | with_reducible refine Tw.rd_ir ?_
  | with_reducible refine Tw.rd_ir2 ?_
  | with_reducible refine Tw.rd_dput ?_
  | with_reducible refine Tw.rd_dget2 ?_
  | with_reducible refine Tw.rd_items ?_
  | with_reducible refine Tw.rd_sl ?_
  | with_reducible refine Tw.rd_nopart ?_
  | with_reducible refine Tw.rd_part ?_
  | with_reducible refine Tw.rd_int ?_
  | with_reducible refine Tw.rd_revL ?_
  | with_reducible refine Tw.rd_bm ?_
  | with_reducible refine Tw.rd_bm0 ?_
  | with_reducible refine Tw.rd_lrg ?_
  | with_reducible refine Tw.rd_rg2 ?_
  | with_reducible refine Tw.rd_rg1 ?_
  | with_reducible refine Tw.rd_int2 ?_
  | with_reducible refine Tw.rd_augS ?_
  | with_reducible refine Tw.rd_ipI ?_
  | with_reducible refine Tw.rd_gsub ?_
  | with_reducible refine Tw.rd_gcons ?_
  | with_reducible refine Tw.rd_gnil ?_
  | with_reducible refine Tw.rd_par ?_
  | with_reducible refine Tw.rd_par2 ?_
  | with_reducible refine Tw.rd_mk ?_
  | with_reducible refine Tw.rd_md ?_
  | with_reducible refine Tw.rd_fld ?_
  | with_reducible refine Tw.rd_sfld ?_)
local macro_rules | `(tactic| walk_at "rd1") => `(tactic| first
  | walk_at "rd0"
  | with_reducible refine Tw.rd_if ?_
  | with_reducible refine Tw.rd_for ?_)
local macro_rules | `(tactic| walk_at "rs") => `(tactic| repeat walk_at "rd0")
local macro_rules | `(tactic| walk_at "rd") => `(tactic| repeat walk_at "rd1")
local macro_rules | `(tactic| walk_at "ini") => `(tactic| (dsimp only [L2.cxOf, L2.start, L2.Cx.wish, L2.Cx.nox, List.map, List.length_cons, List.length_nil, Nat.reduceAdd, Nat.reduceSub, List.replicate, List.cons_append, List.nil_append]; walk_at "rd"))
local macro_rules | `(tactic| walk_at "num") => `(tactic| first
  | exact (show (0 : Int) < _ from by decide)
  | exact (show (0 : Int) < _ ∧ _ < (1073741824 : Int) from by decide)
  | exact (show (0 : Int) ≤ _ ∧ _ ≤ (1000000 : Int) ∧ _ < 2 ^ 64 from by decide))
local macro_rules | `(tactic| walk_at "rn") => `(tactic| repeat (first | walk_at "rd1" | ((with_reducible refine Tw.rd_I ?c ?_); (case c => walk_at "num"))))
theorem sc__law_twins : FnScope ["_law_first", "_law_second", "_law_one", "_law_other"] ["_law_first", "_law_second", "_law_one", "_law_other"] (defScope s__law_twins) := ⟨rfl, rfl, rfl, by decide +kernel, rfl, by decide +kernel, by decide +kernel⟩
section
variable {P : Program} {w : World} {K : PySem.W.Frag} {mg : Str → Option Value} {base : Heap}
theorem ok__law_twins {f : Addr} {fd : FuncData} (F : Fun K "_law_twins" "_law_twins" s__law_twins f fd) (d__law_counts : Df P w K mg base CX0 1 "_law_counts" ["_law_one", "_law_other"] (spCounts K)) (d__law_plain : Df P w K mg base CX0 1 "_law_plain" ["_law_sides"] spPlain) : FnOk P w K mg base CX0 2 f fd ["_law_first", "_law_second", "_law_one", "_law_other"] (spLTwins K) := by
  refine F.ok sc__law_twins (fun vs H Q E h => ?_) (fun cdv A outer s H vs Q E hr h => ?_)
  · obtain ⟨_, _, _, _, _, _, rfl, _⟩ := h
    rfl
  · obtain ⟨f, s, a, b, one, other, rfl, ⟨f1, f2⟩, ⟨g1, g2⟩, h1, h2, l1, l2, q⟩ := h
    refine ⟨_, (pss_one (ps_ret (pe_cmpR (op_eqDict hr.units0) (pe_df d__law_counts (hr.mono (by decide)) (by rfl) pass0 (pa_cons (pv 2) (pa_cons (pv 3) pa_nil))) (pe_df d__law_counts (hr.mono (by decide)) (by rfl) pass0 (pa_cons (pe_df d__law_plain (hr.mono (by decide)) (by rfl) pass0 (pa_cons (pv 0) pa_nil)) (pa_cons (pe_df d__law_plain (hr.mono (by decide)) (by rfl) pass0 (pa_cons (pv 1) pa_nil)) pa_nil))) (nomark _)))), ?_⟩
    walk_at "ini"
    refine ⟨a, b, one, other, rfl, h1, h2, l1, l2, fun H1 d s1 nd hd => ?_⟩
    walk_at "rd"
    refine ⟨f, rfl, by omega, by omega, fun H2 p s2 np hp => ?_⟩
    walk_at "rd"
    refine ⟨s, rfl, by omega, by omega, fun H3 r s3 nr hr' => ?_⟩
    walk_at "rd"
    refine ⟨p, r, _, _, rfl, .of (s3 _ _ hp), .of hr', by rw [len_rgI]; omega, by rw [len_rgI]; omega, fun H4 d2 s4 nd2 hd2 => ?_⟩
    exact ⟨d, d2, _, _, rfl, rfl, s4 _ _ (s3 _ _ (s2 _ _ hd)), hd2, q _ (s1.trans (s2.trans (s3.trans s4)))⟩
end

end Tw
set_option Elab.async false
set_option linter.all false
set_option maxRecDepth 100000
set_option maxHeartbeats 4000000
namespace Tw
open PySem PySem.Spec PyProof.Rows L2
local macro_rules | `(tactic| walk_at "rd0") => `(tactic| first
  | with_reducible refine Tw.rd_seq ?_
  | with_reducible refine Tw.rd_asg ?_
  | with_reducible refine Tw.rd_drop ?_
  | with_reducible refine Tw.rd_ret ?_
  | with_reducible refine Tw.rd_retN ?_
  | with_reducible refine Tw.rd_next ?_
  | ((with_reducible refine Tw.rd_var (v := ?vv) ?hv ?_); (case hv => exact rfl))
  | with_reducible refine Tw.rd_c ?_
  | with_reducible refine Tw.rd_op ?_
  | with_reducible refine Tw.rd_un ?_
  | with_reducible refine Tw.rd_I0 ?_
  | with_reducible refine Tw.rd_U ?_
  | with_reducible refine Tw.rd_test ?_
  | with_reducible refine Tw.rd_tB ?_
  | with_reducible refine Tw.rd_bl ?_
  | with_reducible refine Tw.rd_not ?_
  | with_reducible refine Tw.rd_and ?_
  | with_reducible refine Tw.rd_or ?_
  | with_reducible refine Tw.rd_andV ?_
  | with_reducible refine Tw.rd_orV ?_
  | with_reducible refine Tw.rd_notV ?_
  | with_reducible refine Tw.rd_tIf ?_
  | with_reducible refine Tw.rd_cb ?_
  | with_reducible refine Tw.rd_cons ?_
  | with_reducible refine Tw.rd_nil ?_
  | with_reducible refine Tw.rd_call ?_
  | with_reducible refine Tw.rd_tup ?_
  | with_reducible refine Tw.rd_lst ?_
  | with_reducible refine Tw.rd_gname ?_
  | with_reducible refine Tw.rd_chain ?_
  | with_reducible refine Tw.rd_lc ?_
  | with_reducible refine Tw.rd_il ?_
  | with_reducible refine Tw.rd_it ?_
  | with_reducible refine Tw.rd_ie ?_
  | with_reducible refine Tw.rd_ir ?_
  | with_reducible refine Tw.rd_ir2 ?_
  | with_reducible refine Tw.rd_dput ?_
  | with_reducible refine Tw.rd_dget2 ?_
  | with_reducible refine Tw.rd_items ?_
  | with_reducible refine Tw.rd_sl ?_
  | with_reducible refine Tw.rd_nopart ?_
  | with_reducible refine Tw.rd_part ?_
  | with_reducible refine Tw.rd_int ?_
  | with_reducible refine Tw.rd_revL ?_
  | with_reducible refine Tw.rd_bm ?_
  | with_reducible refine Tw.rd_bm0 ?_
  | with_reducible refine Tw.rd_lrg ?_
  | with_reducible refine Tw.rd_rg2 ?_
  | with_reducible refine Tw.rd_rg1 ?_
  | with_reducible refine Tw.rd_int2 ?_
  | with_reducible refine Tw.rd_augS ?_
  | with_reducible refine Tw.rd_ipI ?_
  | with_reducible refine Tw.rd_gsub ?_
  | with_reducible refine Tw.rd_gcons ?_
  | with_reducible refine Tw.rd_gnil ?_
  | with_reducible refine Tw.rd_par ?_
  | with_reducible refine Tw.rd_par2 ?_
  | with_reducible refine Tw.rd_mk ?_
  | with_reducible refine Tw.rd_md ?_
  | with_reducible refine Tw.rd_fld ?_
  | with_reducible refine Tw.rd_sfld ?_)
local macro_rules | `(tactic| walk_at "rd1") => `(tactic| first
  | walk_at "rd0"
  | with_reducible refine Tw.rd_if ?_
  | with_reducible refine Tw.rd_for ?_)
local macro_rules | `(tactic| walk_at "rs") => `(tactic| repeat walk_at "rd0")
local macro_rules | `(tactic| walk_at "rd") => `(tactic| repeat walk_at "rd1")
local macro_rules | `(tactic| walk_at "ini") => `(tactic| (dsimp only [L2.cxOf, L2.start, L2.Cx.wish, L2.Cx.nox, List.map, List.length_cons, List.length_nil, Nat.reduceAdd, Nat.reduceSub, List.replicate, List.cons_append, List.nil_append]; walk_at "rd"))
local macro_rules | `(tactic| walk_at "num") => `(tactic| first
  | exact (show (0 : Int) < _ from by decide)
  | exact (show (0 : Int) < _ ∧ _ < (1073741824 : Int) from by decide)
  | exact (show (0 : Int) ≤ _ ∧ _ ≤ (1000000 : Int) ∧ _ < 2 ^ 64 from by decide))
local macro_rules | `(tactic| walk_at "rn") => `(tactic| repeat (first | walk_at "rd1" | ((with_reducible refine Tw.rd_I ?c ?_); (case c => walk_at "num"))))
theorem sc__law_says : FnScope ["_law_said", "_law_due"] ["_law_said", "_law_due"] (defScope s__law_says) := ⟨rfl, rfl, rfl, by decide +kernel, rfl, by decide +kernel, by decide +kernel⟩
section
variable {P : Program} {w : World} {K : PySem.W.Frag} {mg : Str → Option Value} {base : Heap}
theorem ok__law_says {f : Addr} {fd : FuncData} (F : Fun K "_law_says" "_law_says" s__law_says f fd) (B : Bn mg) : FnOk P w K mg base CX0 1 f fd ["_law_said", "_law_due"] spSays := by
  refine F.ok sc__law_says (fun vs H Q E h => ?_) (fun cdv A outer s H vs Q E hr h => ?_)
  · obtain ⟨_, _, rfl, _⟩ := h
    rfl
  · obtain ⟨b1, b2, rfl, q⟩ := h
    refine ⟨_, (pss_one (ps_ret (pe_and (pe_callB (r := rIsi K) call_isi (by rfl) B.n_isinstance boot_isinstance (pa_cons (pv 0) (pa_cons (pe_ty B.n_bool boot_bool) pa_nil))) (pe_one (pe_cmpR op_eq (pv 0) (pv 1) (nomark _)))))), ?_⟩
    walk_at "ini"
    refine rd_isi (.ty _) (.base (.bl b1)) kit_bb ?_
    walk_at "rd"
    refine iteT ?_
    walk_at "rd"
    refine ⟨rfl, ?_⟩
    have e : decide (V.bl b1 = V.bl b2) = decide (b1 = b2) := by cases b1 <;> cases b2 <;> rfl
    rw [e]
    exact q
end

end Tw
set_option Elab.async false
set_option linter.all false
set_option maxRecDepth 100000
set_option maxHeartbeats 4000000
namespace Tw
open PySem PySem.Spec PyProof.Rows L2
local macro_rules | `(tactic| walk_at "rd0") => `(tactic| first
  | with_reducible refine Tw.rd_seq ?_
  | with_reducible refine Tw.rd_asg ?_
  | with_reducible refine Tw.rd_drop ?_
  | with_reducible refine Tw.rd_ret ?_
  | with_reducible refine Tw.rd_retN ?_
  | with_reducible refine Tw.rd_next ?_
  | ((with_reducible refine Tw.rd_var (v := ?vv) ?hv ?_); (case hv => exact rfl))
  | with_reducible refine Tw.rd_c ?_
  | with_reducible refine Tw.rd_op ?_
  | with_reducible refine Tw.rd_un ?_
  | with_reducible refine Tw.rd_I0 ?_
  | with_reducible refine Tw.rd_U ?_
  | with_reducible refine Tw.rd_test ?_
  | with_reducible refine Tw.rd_tB ?_
  | with_reducible refine Tw.rd_bl ?_
  | with_reducible refine Tw.rd_not ?_
  | with_reducible refine Tw.rd_and ?_
  | with_reducible refine Tw.rd_or ?_
  | with_reducible refine Tw.rd_andV ?_
  | with_reducible refine Tw.rd_orV ?_
  | with_reducible refine Tw.rd_notV ?_
  | with_reducible refine Tw.rd_tIf ?_
  | with_reducible refine Tw.rd_cb ?_
  | with_reducible refine Tw.rd_cons ?_
  | with_reducible refine Tw.rd_nil ?_
  | with_reducible refine Tw.rd_call ?_
  | with_reducible refine Tw.rd_tup ?_
  | with_reducible refine Tw.rd_lst ?_
  | with_reducible refine Tw.rd_gname ?_
  | with_reducible refine Tw.rd_chain ?_
  | with_reducible refine Tw.rd_lc ?_
  | with_reducible refine Tw.rd_il ?_
  | with_reducible refine Tw.rd_it ?_
  | with_reducible refine Tw.rd_ie ?_
  | with_reducible refine Tw.rd_ir ?_
  | with_reducible refine Tw.rd_ir2 ?_
  | with_reducible refine Tw.rd_dput ?_
  | with_reducible refine Tw.rd_dget2 ?_
  | with_reducible refine Tw.rd_items ?_
  | with_reducible refine Tw.rd_sl ?_
  | with_reducible refine Tw.rd_nopart ?_
  | with_reducible refine Tw.rd_part ?_
  | with_reducible refine Tw.rd_int ?_
  | with_reducible refine Tw.rd_revL ?_
  | with_reducible refine Tw.rd_bm ?_
  | with_reducible refine Tw.rd_bm0 ?_
  | with_reducible refine Tw.rd_lrg ?_
  | with_reducible refine Tw.rd_rg2 ?_
  | with_reducible refine Tw.rd_rg1 ?_
  | with_reducible refine Tw.rd_int2 ?_
  | with_reducible refine Tw.rd_augS ?_
  | with_reducible refine Tw.rd_ipI ?_
  | with_reducible refine Tw.rd_gsub ?_
  | with_reducible refine Tw.rd_gcons ?_
  | with_reducible refine Tw.rd_gnil ?_
  | with_reducible refine Tw.rd_par ?_
  | with_reducible refine Tw.rd_par2 ?_
  | with_reducible refine Tw.rd_mk ?_
  | with_reducible refine Tw.rd_md ?_
  | with_reducible refine Tw.rd_fld ?_
  | with_reducible refine Tw.rd_sfld ?_)
local macro_rules | `(tactic| walk_at "rd1") => `(tactic| first
  | walk_at "rd0"
  | with_reducible refine Tw.rd_if ?_
  | with_reducible refine Tw.rd_for ?_)
local macro_rules | `(tactic| walk_at "rs") => `(tactic| repeat walk_at "rd0")
local macro_rules | `(tactic| walk_at "rd") => `(tactic| repeat walk_at "rd1")
local macro_rules | `(tactic| walk_at "ini") => `(tactic| (dsimp only [L2.cxOf, L2.start, L2.Cx.wish, L2.Cx.nox, List.map, List.length_cons, List.length_nil, Nat.reduceAdd, Nat.reduceSub, List.replicate, List.cons_append, List.nil_append]; walk_at "rd"))
local macro_rules | `(tactic| walk_at "num") => `(tactic| first
  | exact (show (0 : Int) < _ from by decide)
  | exact (show (0 : Int) < _ ∧ _ < (1073741824 : Int) from by decide)
  | exact (show (0 : Int) ≤ _ ∧ _ ≤ (1000000 : Int) ∧ _ < 2 ^ 64 from by decide))
local macro_rules | `(tactic| walk_at "rn") => `(tactic| repeat (first | walk_at "rd1" | ((with_reducible refine Tw.rd_I ?c ?_); (case c => walk_at "num"))))
theorem sc__law_off_right : FnScope ["_law_first", "_law_second", "_law_one", "_law_other", "_law_total", "_law_answer", "_law_mine", "_law_theirs", "_law_due"] ["_law_first", "_law_second", "_law_one", "_law_other", "_law_total"] (defScope s__law_off_right) := ⟨rfl, rfl, rfl, by decide +kernel, rfl, by decide +kernel, by decide +kernel⟩
section
variable {P : Program} {w : World} {K : PySem.W.Frag} {mg : Str → Option Value} {base : Heap}
theorem ok__law_off_right {f C : Addr} {fd : FuncData} (F : Fun K "_law_off_right" "_law_off_right" s__law_off_right f fd) (c : Cls K C) (nt : NoAttr K C "total") (d__law_counts : Df P w K mg base CX0 1 "_law_counts" ["_law_one", "_law_other"] (spCounts K)) (d__law_plain : Df P w K mg base CX0 1 "_law_plain" ["_law_sides"] spPlain)
    (d__law_says : Df P w K mg base CX0 1 "_law_says" ["_law_said", "_law_due"] spSays) (k_Off : ClM P w K mg base "Off" C 1 ["self", "total"] (spOInit C)) (md_Off_shows : Md P w K mg base C "shows" 2 ["self", "first", "second", "one", "other"] (spOShows K C)) : FnOk P w K mg base CX0 3 f fd ["_law_first", "_law_second", "_law_one", "_law_other", "_law_total"] (spOffRight K) := by
  refine F.ok sc__law_off_right (fun vs H Q E h => ?_) (fun cdv A outer s H vs Q E hr h => ?_)
  · obtain ⟨_, _, _, _, _, _, _, rfl, _⟩ := h
    rfl
  · obtain ⟨f, s, a, b, one, other, t, rfl, hf, hs, h1, h2, l1, l2, q⟩ := h
    refine ⟨_, (pss_cons (ps_set (i := 5) sc__law_off_right.nd rfl (Or.inl rfl) (pe_mk k_Off (hr.mono (by decide)) (by rfl) (pa_cons (pv 4) pa_nil)))
    (pss_cons (ps_par (i := 6) (j := 7) (by rfl) sc__law_off_right.nd rfl rfl (by decide) rfl rfl (pa_cons (pe_df d__law_counts (hr.mono (by decide)) (by rfl) pass0 (pa_cons (pv 2) (pa_cons (pv 3) pa_nil))) (pa_cons (pe_df d__law_counts (hr.mono (by decide)) (by rfl) pass0 (pa_cons (pe_df d__law_plain (hr.mono (by decide)) (by rfl) pass0 (pa_cons (pv 0) pa_nil)) (pa_cons (pe_df d__law_plain (hr.mono (by decide)) (by rfl) pass0 (pa_cons (pv 1) pa_nil)) pa_nil))) pa_nil)) (by rfl))
    (pss_cons (ps_set (i := 8) sc__law_off_right.nd rfl (Or.inl rfl) (pe_cmpR op_ne (pe_dget2 (hu_of hr) (pv 6) (pv 4) pe_int ⟨rfl, rfl, rfl, rfl⟩) (pe_dget2 (hu_of hr) (pv 7) (pv 4) pe_int ⟨rfl, rfl, rfl, rfl⟩) (nomark _)))
    (pss_one (ps_ret (pe_and (pe_cmpR op_eq (pe_fld (pv 5) rfl) (pv 4) (nomark _)) (pe_one (pe_df d__law_says (hr.mono (by decide)) (by rfl) pass0 (pa_cons (pe_md (pv 5) md_Off_shows (hr.mono (by decide)) (pa_cons (pv 0) (pa_cons (pv 1) (pa_cons (pv 2) (pa_cons (pv 3) pa_nil))))) (pa_cons (pv 8) pa_nil)))))))))), ?_⟩
    have f1 := hf.1
    have f2 := hf.2
    have g1 := hs.1
    have g2 := hs.2
    walk_at "ini"
    intro x dx nx ndx ne
    refine ⟨x, dx, .int t, rfl, upd_same, rfl, ?_⟩
    rw [upd_upd]
    have s0 : Same H (upd (upd H dx (.own x)) x (.ins C dx [("total", .int t)])) := sameI nx ndx
    have hx := upd_same (H := upd H dx (.own x)) (a := x) (o := .ins C dx [("total", .int t)])
    revert s0 hx
    generalize upd (upd H dx (.own x)) x (.ins C dx [("total", .int t)]) = H0
    intro s0 hx
    walk_at "rd"
    refine ⟨a, b, one, other, rfl, same_l s0 h1, same_l s0 h2, l1, l2, fun H1 d s1 nd hd => ?_⟩
    walk_at "rd"
    refine ⟨f, rfl, by omega, by omega, fun H2 p s2 np hp => ?_⟩
    walk_at "rd"
    refine ⟨s, rfl, by omega, by omega, fun H3 r s3 nr hr' => ?_⟩
    walk_at "rd"
    refine ⟨p, r, _, _, rfl, .of (s3 _ _ hp), .of hr', by rw [len_rgI]; omega, by rw [len_rgI]; omega, fun H4 d2 s4 nd2 hd2 => ?_⟩
    have s24 := s2.trans (s3.trans s4)
    have hd4 := s24 _ _ hd
    walk_at "rd"
    refine ⟨d, rfl, .inl ⟨_, .inl hd4⟩, ?_⟩
    walk_at "rd"
    refine ⟨_, DGet.k (k := Sum.inl t) hd4, ?_⟩
    rw [getD_kvs]
    walk_at "rd"
    refine ⟨d2, rfl, .inl ⟨_, .inl hd2⟩, ?_⟩
    walk_at "rd"
    refine ⟨_, DGet.k (k := Sum.inl t) hd2, ?_⟩
    rw [getD_kvs]
    refine ⟨rfl, ?_⟩
    have e : (!decide (V.int (getN (tally (allS one other)) t) = V.int (getN (tally (allS (rgI 1 (f + 1)) (rgI 1 (s + 1)))) t))) = ofM f s t one other := by
      rw [off_eq hf hs]
      unfold plS
      by_cases c : getN (tally (allS one other)) t = getN (tally (allS (rgI 1 (f + 1)) (rgI 1 (s + 1)))) t
      · rw [decide_eq_true c, decide_eq_true (by rw [c])]
      · rw [decide_eq_false c, decide_eq_false (fun z => c (V.int.inj z))]
    rw [e]
    have hx4 := s24 _ _ (s1 _ _ hx)
    have s04 := s0.trans (s1.trans s24)
    walk_at "rd"
    refine ⟨x, C, dx, _, .int t, rfl, hx4, c, nt, look_one _ _, ?_⟩
    walk_at "rd"
    refine ⟨rfl, ?_⟩
    rw [decide_eq_true rfl]
    walk_at "rd"
    refine iteT ?_
    walk_at "rd"
    refine ⟨x, dx, _, rfl, hx4, look_shows _, ?_⟩
    walk_at "rd"
    refine ⟨x, dx, t, f, s, a, b, one, other, rfl, hx4, same_l s04 h1, same_l s04 h2, l1, l2, fun H5 s5 => ?_⟩
    walk_at "rd"
    refine ⟨_, _, rfl, ?_⟩
    rw [decide_eq_true rfl]
    exact q _ (s04.trans s5)
end

end Tw
set_option Elab.async false
set_option linter.all false
set_option maxRecDepth 100000
set_option maxHeartbeats 4000000
namespace Tw
open PySem PySem.Spec PyProof.Rows L2
local macro_rules | `(tactic| walk_at "rd0") => `(tactic| first
  | with_reducible refine Tw.rd_seq ?_
  | with_reducible refine Tw.rd_asg ?_
  | with_reducible refine Tw.rd_drop ?_
  | with_reducible refine Tw.rd_ret ?_
  | with_reducible refine Tw.rd_retN ?_
  | with_reducible refine Tw.rd_next ?_
  | ((with_reducible refine Tw.rd_var (v := ?vv) ?hv ?_); (case hv => exact rfl))
  | with_reducible refine Tw.rd_c ?_
  | with_reducible refine Tw.rd_op ?_
  | with_reducible refine Tw.rd_un ?_
  | with_reducible refine Tw.rd_I0 ?_
  | with_reducible refine Tw.rd_U ?_
  | with_reducible refine Tw.rd_test ?_
  | with_reducible refine Tw.rd_tB ?_
  | with_reducible refine Tw.rd_bl ?_
  | with_reducible refine Tw.rd_not ?_
  | with_reducible refine Tw.rd_and ?_
  | with_reducible refine Tw.rd_or ?_
  | with_reducible refine Tw.rd_andV ?_
  | with_reducible refine Tw.rd_orV ?_
  | with_reducible refine Tw.rd_notV ?_
  | with_reducible refine Tw.rd_tIf ?_
  | with_reducible refine Tw.rd_cb ?_
  | with_reducible refine Tw.rd_cons ?_
  | with_reducible refine Tw.rd_nil ?_
  | with_reducible refine Tw.rd_call ?_
  | with_reducible refine Tw.rd_tup ?_
  | with_reducible refine Tw.rd_lst ?_
  | with_reducible refine Tw.rd_gname ?_
  | with_reducible refine Tw.rd_chain ?_
  | with_reducible refine Tw.rd_lc ?_
  | with_reducible refine Tw.rd_il ?_
  | with_reducible refine Tw.rd_it ?_
  | with_reducible refine Tw.rd_ie ?_
  | with_reducible refine Tw.rd_ir ?_
  | with_reducible refine Tw.rd_ir2 ?_
  | with_reducible refine Tw.rd_dput ?_
  | with_reducible refine Tw.rd_dget2 ?_
  | with_reducible refine Tw.rd_items ?_
  | with_reducible refine Tw.rd_sl ?_
  | with_reducible refine Tw.rd_nopart ?_
  | with_reducible refine Tw.rd_part ?_
  | with_reducible refine Tw.rd_int ?_
  | with_reducible refine Tw.rd_revL ?_
  | with_reducible refine Tw.rd_bm ?_
  | with_reducible refine Tw.rd_bm0 ?_
  | with_reducible refine Tw.rd_lrg ?_
  | with_reducible refine Tw.rd_rg2 ?_
  | with_reducible refine Tw.rd_rg1 ?_
  | with_reducible refine Tw.rd_int2 ?_
  | with_reducible refine Tw.rd_augS ?_
  | with_reducible refine Tw.rd_ipI ?_
  | with_reducible refine Tw.rd_gsub ?_
  | with_reducible refine Tw.rd_gcons ?_
  | with_reducible refine Tw.rd_gnil ?_
  | with_reducible refine Tw.rd_par ?_
  | with_reducible refine Tw.rd_par2 ?_
  | with_reducible refine Tw.rd_mk ?_
  | with_reducible refine Tw.rd_md ?_
  | with_reducible refine Tw.rd_fld ?_
  | with_reducible refine Tw.rd_sfld ?_)
local macro_rules | `(tactic| walk_at "rd1") => `(tactic| first
  | walk_at "rd0"
  | with_reducible refine Tw.rd_if ?_
  | with_reducible refine Tw.rd_for ?_)
local macro_rules | `(tactic| walk_at "rs") => `(tactic| repeat walk_at "rd0")
local macro_rules | `(tactic| walk_at "rd") => `(tactic| repeat walk_at "rd1")
local macro_rules | `(tactic| walk_at "ini") => `(tactic| (dsimp only [L2.cxOf, L2.start, L2.Cx.wish, L2.Cx.nox, List.map, List.length_cons, List.length_nil, Nat.reduceAdd, Nat.reduceSub, List.replicate, List.cons_append, List.nil_append]; walk_at "rd"))
local macro_rules | `(tactic| walk_at "num") => `(tactic| first
  | exact (show (0 : Int) < _ from by decide)
  | exact (show (0 : Int) < _ ∧ _ < (1073741824 : Int) from by decide)
  | exact (show (0 : Int) ≤ _ ∧ _ ≤ (1000000 : Int) ∧ _ < 2 ^ 64 from by decide))
local macro_rules | `(tactic| walk_at "rn") => `(tactic| repeat (first | walk_at "rd1" | ((with_reducible refine Tw.rd_I ?c ?_); (case c => walk_at "num"))))
/-! ### the law -/
theorem sc_law : FnScope ["_law_script", "_law_whole", "_law_by", "_law_first", "_law_second", "_law_one", "_law_other", "_law_handed", "_law_found", "_law_due", "_law_mine", "_law_theirs", "_law_total", "_law_good", "_law_number_here"] ["_law_script"] (defScope s_law) := ⟨rfl, rfl, rfl, by decide +kernel, rfl, by decide +kernel, by decide +kernel⟩
section
variable {P : Program} {w : World} {K : PySem.W.Frag} {mg : Str → Option Value} {base : Heap}
/-- dice that law 5 asks of -/
structure Ask (K : PySem.W.Frag) (H : Hp) (v : V × V) : Prop where
  ex : ∃ (a b : Addr) (one other : List Int), v = (.ref a, .ref b) ∧ SqL K H a (one.map V.int) ∧ SqL K H b (other.map V.int) ∧ one.length ≤ 100 ∧ other.length ≤ 100 ∧ Pos one ∧ Pos other
def spLaw (K : PySem.W.Frag) : Sp := fun vs H Q _ => ∃ (a : Addr) (ns : List Int), vs = [.ref a] ∧ SqL K H a (ns.map V.int) ∧ ns.length ≤ 63 ∧ (∀ z ∈ ns, Bd 1048576 z) ∧ ∀ H', Q (.bl true) H'
theorem cut_m1 (xs : List V) (y : V) : cutV (xs ++ [y]) none (some (-1)) = xs := by
  unfold cutV
  have e : HT.sIx (xs ++ [y]).length (xs ++ [y]).length (some (-1)) = xs.length := by
    show (if (-1 : Int) < 0 then ((-1 : Int) + (((xs ++ [y]).length : Nat) : Int)).toNat else min (-1 : Int).toNat (xs ++ [y]).length) = xs.length
    rw [if_pos (by decide), List.length_append]
    show ((-1 : Int) + ((xs.length + 1 : Nat) : Int)).toNat = _
    omega
  rw [e, HT.sIx_none, Nat.sub_zero, List.drop_zero]
  exact List.take_left' rfl
theorem ok_law {f CB CO CT CA : Addr} {fd : FuncData} (F : Fun K "law" "law" s_law f fd) (B : Bn mg) (d_mirrored : Df P w K mg base (L2.CX P w) 3 "mirrored" ["die"] (spMirrored K CB)) (d__law_die : Df P w K mg base CX0 2 "_law_die" ["_law_script", "_law_by", "_law_most"] (spLDie K)) (d__law_two_sides : Df P w K mg base CX0 2 "_law_two_sides" ["_law_script", "_law_by", "_law_most"] (spTwo K))
    (d__law_plain : Df P w K mg base CX0 1 "_law_plain" ["_law_sides"] spPlain) (d__law_twins : Df P w K mg base CX0 2 "_law_twins" ["_law_first", "_law_second", "_law_one", "_law_other"] (spLTwins K)) (d__law_says : Df P w K mg base CX0 1 "_law_says" ["_law_said", "_law_due"] spSays) (d__law_off_right : Df P w K mg base CX0 3 "_law_off_right" ["_law_first", "_law_second", "_law_one", "_law_other", "_law_total"] (spOffRight K))
    (c_Twin : Cl0 K mg "Twin" CT) (md_Twin_shows : Md P w K mg base CT "shows" 3 ["self", "first", "second", "one", "other"] (spTShows K)) (k_Off : ClM P w K mg base "Off" CO 1 ["self", "total"] (spOInit CO)) (md_Off_shows : Md P w K mg base CO "shows" 2 ["self", "first", "second", "one", "other"] (spOShows K CO)) (c_Answer : ClG K mg "Answer" CA)
    (iT : InsT K CT) (iO : InsT K CO) (kTA : PySem.W.kitOne K (.ref CT) (.ref CA) = some true) (kOA : PySem.W.kitOne K (.ref CO) (.ref CA) = some true) : FnOk P w K mg base CX0 4 f fd ["_law_script"] (spLaw K) := by
  refine F.ok sc_law (fun vs H Q E h => ?_) (fun cdv A outer s H vs Q E hr h => ?_)
  · obtain ⟨a, ns, rfl, _⟩ := h
    rfl
  · obtain ⟨a, ns, rfl, hS, hl, hb, q⟩ := h
    refine ⟨_, (pss_cons (ps_set (i := 1) sc_law.nd rfl (Or.inl rfl) (pe_callB (r := rSum K) (cr_sum rfl) (by rfl) B.n_sum boot_sum (pa_cons (pe_slice (r := rSlL K) sl_list (pv 0) po_none (po_some pe_int)) pa_nil)))
    (pss_cons (ps_for PassesOwn.never rfl (pi_range1 (by rfl) B.n_range (pa_cons pe_int pa_nil)) (pg_name (i := 2) sc_law.nd rfl (Or.inl rfl))
      (pss_cons (ps_asg (pe_df d__law_two_sides (hr.mono (by decide)) (by rfl) pass0 (pa_cons (pv 0) (pa_cons (pv 2) (pa_cons pe_int pa_nil)))) (pg_tup rfl (pgs_cons (pg_name (i := 3) sc_law.nd rfl (Or.inl rfl)) (pgs_cons (pg_name (i := 4) sc_law.nd rfl (Or.inl rfl)) pgs_nil))))
    (pss_cons (ps_asg (pe_tup (pa_cons (pe_df d__law_die (hr.mono (by decide)) (by rfl) pass0 (pa_cons (pv 0) (pa_cons (pv 2) (pa_cons pe_int pa_nil)))) (pa_cons (pe_df d__law_die (hr.mono (by decide)) (by rfl) pass0 (pa_cons (pv 0) (pa_cons (pe_op op_add (pv 2) pe_int) (pa_cons pe_int pa_nil)))) pa_nil))) (pg_tup rfl (pgs_cons (pg_name (i := 5) sc_law.nd rfl (Or.inr rfl)) (pgs_cons (pg_name (i := 6) sc_law.nd rfl (Or.inl rfl)) pgs_nil))))
    (pss_cons (ps_set (i := 7) sc_law.nd rfl (Or.inl rfl) (pe_callTy (r := rListOf K) call_listQ (by rfl) B.n_list boot_list (pa_cons (pv 5) pa_nil)))
    (pss_cons (ps_set (i := 8) sc_law.nd rfl (Or.inl rfl) (pe_df d_mirrored (hr.mono (by decide)) (by rfl) passL (pa_cons (pv 7) pa_nil)))
    (pss_cons (ps_set (i := 9) sc_law.nd rfl (Or.inl rfl) (pe_callB (r := rSortedI K) cr_sortedI (by rfl) B.n_sorted boot_sorted (pa_cons (pe_lc (own := [("_law_number_here", 14)]) (g := gName 14) rfl sc_law.nd (pi_list (pv 5)) (blkOk_by (own := [("_law_number_here", 14)]) (N := ["_law_script", "_law_whole", "_law_by", "_law_first", "_law_second", "_law_one", "_law_other", "_law_handed", "_law_found", "_law_due", "_law_mine", "_law_theirs", "_law_total", "_law_good", "_law_number_here"]) (sc := defScope s_law) (by decide +kernel)) (fun _ _ _ _ _ => pg_name (i := 14) sc_law.nd rfl (Or.inl rfl)) (fun _ _ _ _ _ => pts_nil) (fun _ _ _ _ _ => (pe_op op_sub (pe_op op_add (pe_ix (r := rIxL K) ix_list (pv 5) pe_int (fun _ _ => rfl)) (pe_ix (r := rIxL K) ix_list (pv 5) (pe_un un_neg pe_int) (fun _ _ => rfl))) (pv 14)))) pa_nil)))
    (pss_cons (ps_if (PW.pt (pw_or (pt_not (pt_val (pe_callB (r := rIsi K) call_isi (by rfl) B.n_isinstance boot_isinstance (pa_cons (pv 8) (pa_cons (pe_ty B.n_list boot_list) pa_nil))))) (pw_or1 (pt_cmpR (op_neD hr.units) (pv 8) (pv 9) (nomark _))))) (pss_one (ps_ret pe_bl)) pss_nil)
    (pss_cons (ps_if (PW.pt (pw_or (pt_cmpR (op_neD hr.units) (pe_df d_mirrored (hr.mono (by decide)) (by rfl) passL (pa_cons (pv 8) pa_nil)) (pv 5) (nomark _)) (pw_or1 (pt_cmpR (op_neD hr.units) (pv 7) (pv 5) (nomark _))))) (pss_one (ps_ret pe_bl)) pss_nil)
    (pss_cons (ps_expr (pe_bm PySem.F.plainAttrs_list PySem.F.slot_list_append PySem.F.type_list_append mt_append (pv 8) (pa_cons pe_int pa_nil)))
    (pss_cons (ps_if (pt_cmpR (op_neD hr.units) (pe_df d_mirrored (hr.mono (by decide)) (by rfl) passL (pa_cons (pv 7) pa_nil)) (pe_slice (r := rSlL K) sl_list (pv 8) po_none (po_some (pe_un un_neg pe_int))) (nomark _)) (pss_one (ps_ret pe_bl)) pss_nil)
    (pss_one (ps_for PassesOwn.never rfl (pi_list (pe_lst (pa_cons (pe_tup (pa_cons (pv 5) (pa_cons (pv 6) pa_nil))) (pa_cons (pe_tup (pa_cons (pe_df d__law_plain (hr.mono (by decide)) (by rfl) pass0 (pa_cons (pv 3) pa_nil)) (pa_cons (pe_df d__law_plain (hr.mono (by decide)) (by rfl) pass0 (pa_cons (pv 4) pa_nil)) pa_nil))) (pa_cons (pe_tup (pa_cons (pe_df d__law_plain (hr.mono (by decide)) (by rfl) pass0 (pa_cons (pv 4) pa_nil)) (pa_cons (pv 6) pa_nil))) pa_nil))))) (pg_tup rfl (pgs_cons (pg_name (i := 10) sc_law.nd rfl (Or.inl rfl)) (pgs_cons (pg_name (i := 11) sc_law.nd rfl (Or.inl rfl)) pgs_nil)))
      (pss_cons (ps_if (pt_not (pt_val (pe_df d__law_says (hr.mono (by decide)) (by rfl) pass0 (pa_cons (pe_md (pe_new0 c_Twin (by rfl)) md_Twin_shows (hr.mono (by decide)) (pa_cons (pv 3) (pa_cons (pv 4) (pa_cons (pv 10) (pa_cons (pv 11) pa_nil))))) (pa_cons (pe_df d__law_twins (hr.mono (by decide)) (by rfl) pass0 (pa_cons (pv 3) (pa_cons (pv 4) (pa_cons (pv 10) (pa_cons (pv 11) pa_nil))))) pa_nil))))) (pss_one (ps_ret pe_bl)) pss_nil)
    (pss_one (ps_for PassesOwn.never rfl (pi_list (pe_lst (pa_cons (pe_un un_neg (pv 1)) (pa_cons (pe_un un_neg pe_int) (pa_cons pe_int (pa_cons pe_int (pa_cons pe_int (pa_cons pe_int (pa_cons (pv 3) (pa_cons (pe_op op_add (pv 3) (pv 4)) (pa_cons (pe_op op_add (pe_op op_add (pv 3) (pv 4)) pe_int) (pa_cons (pe_op op_pow pe_int pe_int) (pa_cons (pe_op op_mod (pv 1) pe_int) pa_nil))))))))))))) (pg_name (i := 12) sc_law.nd rfl (Or.inl rfl))
      (pss_one (ps_if (pt_not (pt_val (pe_df d__law_off_right (hr.mono (by decide)) (by rfl) pass0 (pa_cons (pv 3) (pa_cons (pv 4) (pa_cons (pv 10) (pa_cons (pv 11) (pa_cons (pv 12) pa_nil)))))))) (pss_one (ps_ret pe_bl)) pss_nil)))))))))))))))))
    (pss_cons (ps_set (i := 13) sc_law.nd rfl (Or.inl rfl) (pe_lst (pa_cons (pe_md (pe_mk k_Off (hr.mono (by decide)) (by rfl) (pa_cons pe_int pa_nil)) md_Off_shows (hr.mono (by decide)) (pa_cons pe_int (pa_cons pe_int (pa_cons (pe_lst (pa_cons pe_int (pa_cons pe_int pa_nil))) (pa_cons (pe_lst (pa_cons pe_int (pa_cons pe_int pa_nil))) pa_nil))))) (pa_cons (pe_callB (r := rIsi K) call_isi (by rfl) B.n_isinstance boot_isinstance (pa_cons (pe_mk k_Off (hr.mono (by decide)) (by rfl) (pa_cons pe_int pa_nil)) (pa_cons (pe_ref c_Answer.g) pa_nil))) (pa_cons (pe_callB (r := rIsi K) call_isi (by rfl) B.n_isinstance boot_isinstance (pa_cons (pe_new0 c_Twin (by rfl)) (pa_cons (pe_ref c_Answer.g) pa_nil))) pa_nil)))))
    (pss_cons (ps_if (PW.pt (pw_or (pt_cmpR op_notBl (pe_md (pe_mk k_Off (hr.mono (by decide)) (by rfl) (pa_cons pe_int pa_nil)) md_Off_shows (hr.mono (by decide)) (pa_cons pe_int (pa_cons pe_int (pa_cons (pe_lst (pa_cons pe_int (pa_cons pe_int pa_nil))) (pa_cons (pe_lst (pa_cons pe_int (pa_cons pe_int pa_nil))) pa_nil))))) pe_bl (nomark _)) (pw_or1 (pt_cmpR (op_neD hr.units) (pe_df d_mirrored (hr.mono (by decide)) (by rfl) passL (pa_cons (pe_lst (pa_cons pe_int (pa_cons pe_int (pa_cons pe_int pa_nil)))) pa_nil)) (pe_lst (pa_cons pe_int (pa_cons pe_int (pa_cons pe_int pa_nil)))) (nomark _))))) (pss_one (ps_ret pe_bl)) pss_nil)
    (pss_one (ps_ret (pe_cmpR (op_eqD hr.units) (pv 13) (pe_lst (pa_cons pe_bl (pa_cons pe_bl (pa_cons pe_bl pa_nil)))) (nomark _)))))))), ?_⟩
    walk_at "ini"
    refine rd_slL hS (fun p np => ?_)
    walk_at "rd"
    refine rd_sum (ns := ns.take 63) (.of (by rw [upd_same, cut_63, List.map_take])) ?_
    walk_at "rd"
    refine ⟨2, rfl, by decide, by decide, ?_⟩
    have s0 : Same H (upd H p (.lst (cutV (ns.map V.int) none (some 63)))) := same_new np
    generalize hW : (ns.take 63).sum = W
    refine for_range (lo := 0) (n := 2) (fun i σ H1 => ∃ y2 y3 y4 y5 y6 y7 y8 y9 y10 y11 y12 y13 y14, σ = [some (.ref a), some (.int W), y2, y3, y4, y5, y6, y7, y8, y9, y10, y11, y12, y13, y14] ∧ Same H H1)
      ⟨none, none, none, none, none, none, none, none, none, none, none, none, none, rfl, s0⟩ (fun i σ H1 hi ⟨y2, y3, y4, y5, y6, y7, y8, y9, y10, y11, y12, y13, y14, eσ, s1⟩ => ?_) (fun σ H1 ⟨y2, y3, y4, y5, y6, y7, y8, y9, y10, y11, y12, y13, y14, eσ, s1⟩ => ?_)
    · subst eσ
      walk_at "rd"
      refine ⟨a, ns, 0 + (i : Int), 12, rfl, same_l s1 hS, hl, hb, by omega, by omega, by decide, by decide, fun H2 t f s s2 ht f1 f2 g1 g2 => ?_⟩
      have hf : SidesOk f := ⟨f1, f2⟩
      have hs : SidesOk s := ⟨g1, g2⟩
      refine rd_gtup (.of ht) rfl ?_
      have s02 := s1.trans s2
      walk_at "rd"
      refine ⟨a, ns, 0 + (i : Int), 9, rfl, same_l s02 hS, hl, hb, by omega, by omega, by decide, by decide, fun H3 p5 one s3 n5 h5 d5 l5 => ?_⟩
      walk_at "rd"
      refine ⟨a, ns, 0 + (i : Int) + 3, 9, rfl, same_l (s02.trans s3) hS, hl, hb, by omega, by omega, by decide, by decide, fun H4 p6 other s4 n6 h6 d6 l6 => ?_⟩
      have h5' := s4 _ _ h5
      have s04 := s02.trans (s3.trans s4)
      have ne5 := die_ne d5
      have b5 := dieI_len d5
      have b6 := dieI_len d6
      walk_at "rd"
      refine ⟨by show 2 ≤ sizeLine; rw [sizeLine_eq]; decide, fun t0 nt0 => rd_gtup (.of upd_same) rfl ?_⟩
      have s4a := same_new (o := .tup [V.ref p5, V.ref p6]) nt0
      revert s4a
      generalize upd H4 t0 (.tup [V.ref p5, V.ref p6]) = H4a
      intro s4a
      replace h5' := s4a _ _ h5'
      replace h6 := s4a _ _ h6
      replace s04 := s04.trans s4a
      walk_at "rd"
      refine ⟨p5, _, rfl, .inl (.of h5'), fun p7 n7 => ?_⟩
      have s5 := same_new (o := .lst (one.map V.int)) n7
      have h7 := upd_same (H := H4a) (a := p7) (o := .lst (one.map V.int))
      revert s5 h7
      generalize upd H4a p7 (.lst (one.map V.int)) = H5
      intro s5 h7
      walk_at "rd"
      refine ⟨_, rfl, .inr ⟨p7, one, ⟨rfl, .of h7, d5⟩, fun H6 p8 s6 n8 h8 => ?_⟩⟩
      have s46 := s5.trans s6
      have h56 := s46 _ _ h5'
      walk_at "rd"
      refine ⟨p5, rfl, ⟨_, .of h56⟩, fun R nR => ?_⟩
      refine lc_mapP V.int (fun n => V.int (one.headD 0 + one.getLastD 0 - n)) one nR (.of h56) (by rw [sizeLine_eq]; omega) (fun z hz H7 s7 Q' q' => ⟨rfl, ?_⟩) (fun H7 s7 hR => ?_)
      · have h57 := s7 _ _ h56
        walk_at "rd"
        refine rd_ixL (.of h57) (at_head ne5) ?_
        walk_at "rd"
        refine rd_ixL (.of h57) (at_last ne5) ?_
        walk_at "rd"
        exact q' _ (Same.refl _)
      walk_at "rd"
      refine rd_sortI (ns := one.map fun n => one.headD 0 + one.getLastD 0 - n) (.of (by rw [hR, List.map_map]; rfl)) (fun L p9 perm srt n9 => ?_)
      have eL := mir_due d5 perm srt
      subst eL
      have s8 := same_new (o := .lst ((mirM one).map V.int)) n9
      have h9 := upd_same (H := H7) (a := p9) (o := .lst ((mirM one).map V.int))
      revert s8 h9
      generalize upd H7 p9 (.lst ((mirM one).map V.int)) = H8
      intro s8 h9
      have s68 := s7.trans s8
      have h88 := s68 _ _ h8
      have h78 := s68 _ _ (s6 _ _ h7)
      have h58 := s68 _ _ h56
      walk_at "rd"
      refine rd_isi (.ty _) (tyx_list (.of h88)) kit_ll ?_
      walk_at "rd"
      refine iteF ?_
      walk_at "rd"
      refine rd_neD (dp_ints (.of h88)) (dp_ints (.of h9)) (shaped_of (sh_ints (n := 0) _)) (shaped_of (sh_ints (n := 0) _)) ?_
      rw [eqv_dI, decide_eq_true rfl]
      walk_at "rd"
      refine iteF ?_
      walk_at "rd"
      refine ⟨_, rfl, .inr ⟨p8, mirM one, ⟨rfl, .of h88, mir_die d5⟩, fun H9 r1 s9 nr1 hr1 => ?_⟩⟩
      rw [mir_mir ne5] at hr1
      walk_at "rd"
      refine rd_neD (dp_ints (.of hr1)) (dp_ints (.of (s9 _ _ h58))) (shaped_of (sh_ints (n := 0) _)) (shaped_of (sh_ints (n := 0) _)) ?_
      rw [eqv_dI, decide_eq_true rfl]
      walk_at "rd"
      refine iteF ?_
      walk_at "rd"
      refine rd_neD (dp_ints (.of (s9 _ _ h78))) (dp_ints (.of (s9 _ _ h58))) (shaped_of (sh_ints (n := 0) _)) (shaped_of (sh_ints (n := 0) _)) ?_
      rw [eqv_dI, decide_eq_true rfl]
      walk_at "rd"
      refine iteF ?_
      walk_at "rd"
      have h89 := s9 _ _ h88
      refine rd_tyl (.of h89) ?_
      walk_at "rd"
      have ml : (mirM one).length = one.length := by
        unfold mirM
        rw [List.length_map, List.length_reverse]
      refine rd_append h89 (by rw [List.length_map, ml, sizeLine_eq]; omega) ?_
      have s49 : Same H5 H9 := s6.trans (s68.trans s9)
      have s10 : Same H5 (upd H9 p8 (.lst ((mirM one).map V.int ++ [.int 0]))) := same_mut s49 n8
      have h810 := upd_same (H := H9) (a := p8) (o := .lst ((mirM one).map V.int ++ [.int 0]))
      revert s10 h810
      generalize upd H9 p8 (.lst ((mirM one).map V.int ++ [.int 0])) = H10
      intro s10 h810
      walk_at "rd"
      refine ⟨_, rfl, .inr ⟨p7, one, ⟨rfl, .of (s10 _ _ h7), d5⟩, fun H11 r2 s11 nr2 hr2 => ?_⟩⟩
      walk_at "rd"
      refine rd_slL (.of (s11 _ _ h810)) (fun r3 nr3 => ?_)
      have s12 := same_new (o := .lst (cutV ((mirM one).map V.int ++ [.int 0]) none (some (-1)))) nr3
      refine rd_neD (dp_ints (.of (s12 _ _ hr2))) (dp_ints (ns := mirM one) (.of (by rw [upd_same, cut_m1]))) (shaped_of (sh_ints (n := 0) _)) (shaped_of (sh_ints (n := 0) _)) ?_
      rw [eqv_dI, decide_eq_true rfl]
      have s512 := s10.trans (s11.trans s12)
      have s412 := s5.trans s512
      revert s412
      generalize upd H11 r3 (.lst (cutV ((mirM one).map V.int ++ [.int 0]) none (some (-1)))) = H12
      intro s412
      have s012 := s04.trans s412
      have h512 := s412 _ _ h5'
      have h612 := s412 _ _ h6
      walk_at "rd"
      refine iteF ?_
      walk_at "rd"
      refine ⟨by show 2 ≤ sizeLine; rw [sizeLine_eq]; decide, fun t1 nt1 => ?_⟩
      have s13 := same_new (o := .tup [V.ref p5, V.ref p6]) nt1
      have ht1 := upd_same (H := H12) (a := t1) (o := .tup [V.ref p5, V.ref p6])
      revert s13 ht1
      generalize upd H12 t1 (.tup [V.ref p5, V.ref p6]) = H13
      intro s13 ht1
      walk_at "rd"
      refine ⟨f, rfl, by omega, by omega, fun H14 q1 s14 nq1 hq1 => ?_⟩
      walk_at "rd"
      refine ⟨s, rfl, by omega, by omega, fun H15 q2 s15 nq2 hq2 => ?_⟩
      walk_at "rd"
      refine ⟨by show 2 ≤ sizeLine; rw [sizeLine_eq]; decide, fun t2 nt2 => ?_⟩
      have s16 := same_new (o := .tup [V.ref q1, V.ref q2]) nt2
      have ht2 := upd_same (H := H15) (a := t2) (o := .tup [V.ref q1, V.ref q2])
      revert s16 ht2
      generalize upd H15 t2 (.tup [V.ref q1, V.ref q2]) = H16
      intro s16 ht2
      walk_at "rd"
      refine ⟨s, rfl, by omega, by omega, fun H17 q3 s17 nq3 hq3 => ?_⟩
      walk_at "rd"
      refine ⟨by show 2 ≤ sizeLine; rw [sizeLine_eq]; decide, fun t3 nt3 => ?_⟩
      walk_at "rd"
      refine ⟨by show 3 ≤ sizeLine; rw [sizeLine_eq]; decide, fun t4 nt4 => ?_⟩
      have s18 := (same_new (o := .tup [V.ref q3, V.ref p6]) nt3).trans (same_new (o := .lst [V.ref t1, V.ref t2, V.ref t3]) nt4)
      have ht3 := keep_new (o := .lst [V.ref t1, V.ref t2, V.ref t3]) nt4 (upd_same (H := H17) (a := t3) (o := .tup [V.ref q3, V.ref p6]))
      have ht4 := upd_same (H := upd H17 t3 (.tup [V.ref q3, V.ref p6])) (a := t4) (o := .lst [V.ref t1, V.ref t2, V.ref t3])
      revert s18 ht3 ht4
      generalize upd (upd H17 t3 (.tup [V.ref q3, V.ref p6])) t4 (.lst [V.ref t1, V.ref t2, V.ref t3]) = H18
      intro s18 ht3 ht4
      have s1318 := s14.trans (s15.trans (s16.trans (s17.trans s18)))
      have s1218 := s13.trans s1318
      have h518 := s1218 _ _ h512
      have h618 := s1218 _ _ h612
      have hq118 := (s15.trans (s16.trans (s17.trans s18))) _ _ hq1
      have hq218 := (s16.trans (s17.trans s18)) _ _ hq2
      have hq318 := s18 _ _ hq3
      have lf : (rgI 1 (f + 1)).length ≤ 100 := by rw [len_rgI]; omega
      have ls : (rgI 1 (s + 1)).length ≤ 100 := by rw [len_rgI]; omega
      have asks : ∀ z ∈ [t1, t2, t3], ∃ u v : V, H18 z = some (.tup [u, v]) ∧ Ask K H18 (u, v) := fun z hz => by
        simp only [List.mem_cons, List.not_mem_nil, or_false] at hz
        rcases hz with rfl | rfl | rfl
        · exact ⟨_, _, s1318 _ _ ht1, ⟨_, _, one, other, rfl, .of h518, .of h618, by omega, by omega, pos_die d5, pos_die d6⟩⟩
        · exact ⟨_, _, (s17.trans s18) _ _ ht2, ⟨_, _, _, _, rfl, .of hq118, .of hq218, lf, ls, pos_plain f, pos_plain s⟩⟩
        · exact ⟨_, _, ht3, ⟨_, _, _, _, rfl, .of hq318, .of h618, ls, by omega, pos_plain s, pos_die d6⟩⟩
      refine ⟨t4, rfl, ⟨_, .of ht4⟩, ?_⟩
      refine for_listP V.ref [t1, t2, t3] (fun dn σ H19 => ∃ y10 y11 y12, σ = [some (.ref a), some (.int W), some (.int (0 + (i : Int))), some (.int f), some (.int s), some (.ref p5), some (.ref p6), some (.ref p7), some (.ref p8), some (.ref p9), y10, y11, y12, y13, y14] ∧ Same H18 H19)
        ⟨y10, y11, y12, rfl, Same.refl _⟩ (fun dn σ H19 ⟨_, _, _, _, s19⟩ => .of (s19 _ _ ht4)) (fun dn z rs σ H19 e ⟨y10, y11, y12, eσ, s19⟩ => ?_) (fun σ H19 ⟨y10, y11, y12, eσ, s19⟩ => ?_)
      · subst eσ
        obtain ⟨u, v, hz, ⟨a1, a2, on, ot, euv, ho1, ho2, lo1, lo2, po1, po2⟩⟩ := asks z (by rw [e]; simp)
        cases euv
        refine rd_gtup (.of (s19 _ _ hz)) rfl ?_
        walk_at "rd"
        refine rd_new0 fun x dx nx ndx nxd => ?_
        have s20 : Same H19 (upd (upd H19 dx (.own x)) x (.ins CT dx [])) := sameI nx ndx
        refine ⟨x, dx, [], rfl, upd_same, rfl, ?_⟩
        revert s20
        generalize upd (upd H19 dx (.own x)) x (.ins CT dx []) = H20
        intro s20
        have s1820 := s19.trans s20
        walk_at "rd"
        refine ⟨.ref x, f, s, a1, a2, on, ot, rfl, hf, hs, same_l s1820 ho1, same_l s1820 ho2, lo1, lo2, fun H21 s21 => ?_⟩
        walk_at "rd"
        have s1821 := s1820.trans s21
        refine ⟨f, s, a1, a2, on, ot, rfl, hf, hs, same_l s1821 ho1, same_l s1821 ho2, lo1, lo2, fun H22 s22 => ?_⟩
        walk_at "rd"
        refine ⟨_, _, rfl, ?_⟩
        rw [twin_eq hf hs po1 po2, decide_eq_true rfl]
        walk_at "rd"
        refine iteF ?_
        walk_at "rn"
        refine ⟨by show 11 ≤ sizeLine; rw [sizeLine_eq]; decide, fun lt nlt => ?_⟩
        have s23 := (s1821.trans s22).trans (same_new (o := .lst [V.int (-W), V.int (-1), V.int 0, V.int 1, V.int 2, V.int 3, V.int f, V.int (f + s), V.int (f + s + 1), V.int (10 ^ (20 : Int).toNat), V.int (W % 40)]) nlt)
        have hlt := upd_same (H := H22) (a := lt) (o := .lst ([-W, -1, 0, 1, 2, 3, f, f + s, f + s + 1, 10 ^ (20 : Int).toNat, W % 40].map V.int))
        refine ⟨lt, rfl, ⟨_, .of hlt⟩, ?_⟩
        refine for_listP V.int [-W, -1, 0, 1, 2, 3, f, f + s, f + s + 1, 10 ^ (20 : Int).toNat, W % 40] (fun dn σ H24 => ∃ y12, σ = [some (.ref a), some (.int W), some (.int (0 + (i : Int))), some (.int f), some (.int s), some (.ref p5), some (.ref p6), some (.ref p7), some (.ref p8), some (.ref p9), some (.ref a1), some (.ref a2), y12, y13, y14] ∧ Same H18 H24 ∧ H24 lt = some (.lst ([-W, -1, 0, 1, 2, 3, f, f + s, f + s + 1, 10 ^ (20 : Int).toNat, W % 40].map V.int)))
          ⟨y12, rfl, s23, hlt⟩ (fun dn σ H24 ⟨_, _, _, h24⟩ => .of h24) (fun dn tt rs2 σ H24 e2 ⟨y12, eσ, s24, h24⟩ => ?_) (fun σ H24 ⟨y12, eσ, s24, h24⟩ => ?_)
        · subst eσ
          walk_at "rd"
          refine ⟨f, s, a1, a2, on, ot, tt, rfl, hf, hs, same_l s24 ho1, same_l s24 ho2, lo1, lo2, fun H25 s25 => ?_⟩
          walk_at "rd"
          refine iteF ?_
          exact ⟨_, rfl, s24.trans s25, s25 _ _ h24⟩
        · subst eσ
          exact ⟨_, _, _, rfl, s24⟩
      · subst eσ
        exact ⟨_, _, _, _, _, _, _, _, _, _, _, _, _, rfl, s012.trans (s1218.trans s19)⟩
    · subst eσ
      walk_at "rd"
      intro x dx nx ndx ne
      refine ⟨x, dx, .int 2, rfl, upd_same, rfl, ?_⟩
      rw [upd_upd]
      have hx := upd_same (H := upd H1 dx (.own x)) (a := x) (o := .ins CO dx [("total", .int 2)])
      revert hx
      generalize upd (upd H1 dx (.own x)) x (.ins CO dx [("total", .int 2)]) = H2
      intro hx
      refine ⟨x, dx, _, rfl, hx, look_shows _, ?_⟩
      walk_at "rd"
      refine ⟨by show 2 ≤ sizeLine; rw [sizeLine_eq]; decide, fun r1 n1 => ?_⟩
      have k1 := upd_same (H := H2) (a := r1) (o := .lst [V.int 1, V.int 1])
      replace hx := keep_new (o := .lst [V.int 1, V.int 1]) n1 hx
      revert hx k1
      generalize upd H2 r1 (.lst [V.int 1, V.int 1]) = H3
      intro k1 hx
      walk_at "rd"
      refine ⟨by show 2 ≤ sizeLine; rw [sizeLine_eq]; decide, fun r2 n2 => ?_⟩
      refine ⟨x, dx, 2, 2, 2, r1, r2, [1, 1], [1, 2], rfl, keep_new n2 hx, .of (keep_new n2 k1), .of upd_same, by decide, by decide, fun H4 s4 => ?_⟩
      rw [show ofM 2 2 2 [1, 1] [1, 2] = true by decide +kernel]
      clear hx k1 n1 n2 nx ndx s4
      walk_at "rd"
      intro x3 dx3 nx3 ndx3 ne3
      refine ⟨x3, dx3, .int 3, rfl, upd_same, rfl, ?_⟩
      rw [upd_upd]
      walk_at "rd"
      refine rd_isi (.own _) (iO.ty upd_same) kOA ?_
      walk_at "rd"
      refine rd_new0 fun x5 dx5 nx5 ndx5 nxd5 => ?_
      walk_at "rd"
      refine rd_isi (.own _) (iT.ty upd_same) kTA ?_
      walk_at "rd"
      refine ⟨by show 3 ≤ sizeLine; rw [sizeLine_eq]; decide, fun g ng => ?_⟩
      have hg := upd_same (H := upd (upd (upd (upd H4 dx3 (.own x3)) x3 (.ins CO dx3 [("total", .int 3)])) dx5 (.own x5)) x5 (.ins CT dx5 [])) (a := g) (o := .lst [V.bl true, V.bl true, V.bl true])
      revert hg
      generalize upd (upd (upd (upd (upd H4 dx3 (.own x3)) x3 (.ins CO dx3 [("total", .int 3)])) dx5 (.own x5)) x5 (.ins CT dx5 [])) g (.lst [V.bl true, V.bl true, V.bl true]) = H6
      intro hg
      walk_at "rd"
      intro x7 dx7 nx7 ndx7 ne7
      refine ⟨x7, dx7, .int 4, rfl, upd_same, rfl, ?_⟩
      rw [upd_upd]
      have hx7 := upd_same (H := upd H6 dx7 (.own x7)) (a := x7) (o := .ins CO dx7 [("total", .int 4)])
      replace hg := sameI (C := CO) (fs := [("total", .int 4)]) nx7 ndx7 _ _ hg
      revert hx7 hg
      generalize upd (upd H6 dx7 (.own x7)) x7 (.ins CO dx7 [("total", .int 4)]) = H7
      intro hx7 hg
      refine ⟨x7, dx7, _, rfl, hx7, look_shows _, ?_⟩
      walk_at "rd"
      refine ⟨by show 2 ≤ sizeLine; rw [sizeLine_eq]; decide, fun r1 n1 => ?_⟩
      have k1 := upd_same (H := H7) (a := r1) (o := .lst [V.int 1, V.int 2])
      replace hx7 := keep_new (o := .lst [V.int 1, V.int 2]) n1 hx7
      replace hg := keep_new (o := .lst [V.int 1, V.int 2]) n1 hg
      revert hx7 hg k1
      generalize upd H7 r1 (.lst [V.int 1, V.int 2]) = H8
      intro k1 hx7 hg
      walk_at "rd"
      refine ⟨by show 2 ≤ sizeLine; rw [sizeLine_eq]; decide, fun r2 n2 => ?_⟩
      refine ⟨x7, dx7, 4, 2, 2, r1, r2, [1, 2], [1, 2], rfl, keep_new n2 hx7, .of (keep_new n2 k1), .of upd_same, by decide, by decide, fun H9 s9 => ?_⟩
      replace hg := s9 _ _ (keep_new n2 hg)
      rw [show ofM 2 2 4 [1, 2] [1, 2] = false by decide +kernel]
      clear hx7 k1 n1 n2 s9
      walk_at "rd"
      refine ⟨false, false, rfl, rfl, false, rfl, ?_⟩
      walk_at "rd"
      refine ⟨by show 3 ≤ sizeLine; rw [sizeLine_eq]; decide, fun r3 n3 => ?_⟩
      refine ⟨_, rfl, .inr ⟨r3, [1, 1, 3], ⟨rfl, .of upd_same, by decide +kernel⟩, fun H10 r4 s10 n4 h4 => ?_⟩⟩
      replace hg := s10 _ _ (keep_new n3 hg)
      walk_at "rd"
      refine ⟨by show 3 ≤ sizeLine; rw [sizeLine_eq]; decide, fun r5 n5 => ?_⟩
      replace hg := keep_new (o := .lst [V.int 1, V.int 3, V.int 3]) n5 hg
      refine rd_neD (dp_ints (ns := mirM [1, 1, 3]) (.of (keep_new n5 h4))) (dp_ints (ns := [1, 3, 3]) (.of upd_same)) (shaped_of (sh_ints (n := 0) _)) (shaped_of (sh_ints (n := 0) _)) ?_
      rw [eqv_dI, decide_eq_true (show mirM [1, 1, 3] = [1, 3, 3] by decide +kernel)]
      walk_at "rd"
      refine iteF ?_
      walk_at "rd"
      refine ⟨by show 3 ≤ sizeLine; rw [sizeLine_eq]; decide, fun r6 n6 => ?_⟩
      have sb : SeqAt.shaped (.list [.bool true, .bool true, .bool true]) = true := shaped_of (n := 1) (sh_list (n := 0) fun d hd => by
        simp only [List.mem_cons, List.not_mem_nil, or_false] at hd
        rcases hd with rfl | rfl | rfl <;> exact sh_bool)
      refine rd_eqD (.lst (.of (keep_new n6 hg)) (.cons (.bl _) (.cons (.bl _) (.cons (.bl _) .nil)))) (.lst (.of upd_same) (.cons (.bl _) (.cons (.bl _) (.cons (.bl _) .nil)))) sb sb ?_
      rw [show PyData.eqv (.list [.bool true, .bool true, .bool true]) (.list [.bool true, .bool true, .bool true]) = true by decide +kernel]
      exact q _
end

end Tw
set_option Elab.async false
set_option linter.all false
set_option maxRecDepth 100000
set_option maxHeartbeats 4000000
namespace Tw
open PySem PySem.Spec PyProof.Rows L2
local macro_rules | `(tactic| walk_at "rd0") => `(tactic| first
  | with_reducible refine Tw.rd_seq ?_
  | with_reducible refine Tw.rd_asg ?_
  | with_reducible refine Tw.rd_drop ?_
  | with_reducible refine Tw.rd_ret ?_
  | with_reducible refine Tw.rd_retN ?_
  | with_reducible refine Tw.rd_next ?_
  | ((with_reducible refine Tw.rd_var (v := ?vv) ?hv ?_); (case hv => exact rfl))
  | with_reducible refine Tw.rd_c ?_
  | with_reducible refine Tw.rd_op ?_
  | with_reducible refine Tw.rd_un ?_
  | with_reducible refine Tw.rd_I0 ?_
  | with_reducible refine Tw.rd_U ?_
  | with_reducible refine Tw.rd_test ?_
  | with_reducible refine Tw.rd_tB ?_
  | with_reducible refine Tw.rd_bl ?_
  | with_reducible refine Tw.rd_not ?_
  | with_reducible refine Tw.rd_and ?_
  | with_reducible refine Tw.rd_or ?_
  | with_reducible refine Tw.rd_andV ?_
  | with_reducible refine Tw.rd_orV ?_
  | with_reducible refine Tw.rd_notV ?_
  | with_reducible refine Tw.rd_tIf ?_
  | with_reducible refine Tw.rd_cb ?_
  | with_reducible refine Tw.rd_cons ?_
  | with_reducible refine Tw.rd_nil ?_
  | with_reducible refine Tw.rd_call ?_
  | with_reducible refine Tw.rd_tup ?_
  | with_reducible refine Tw.rd_lst ?_
  | with_reducible refine Tw.rd_gname ?_
  | with_reducible refine Tw.rd_chain ?_
  | with_reducible refine Tw.rd_lc ?_
  | with_reducible refine Tw.rd_il ?_
  | with_reducible refine Tw.rd_it ?_
  | with_reducible refine Tw.rd_ie ?_
  | with_reducible refine Tw.rd_ir ?_
  | with_reducible refine Tw.rd_ir2 ?_
  | with_reducible refine Tw.rd_dput ?_
  | with_reducible refine Tw.rd_dget2 ?_
  | with_reducible refine Tw.rd_items ?_
  | with_reducible refine Tw.rd_sl ?_
  | with_reducible refine Tw.rd_nopart ?_
  | with_reducible refine Tw.rd_part ?_
  | with_reducible refine Tw.rd_int ?_
  | with_reducible refine Tw.rd_revL ?_
  | with_reducible refine Tw.rd_bm ?_
  | with_reducible refine Tw.rd_bm0 ?_
  | with_reducible refine Tw.rd_lrg ?_
  | with_reducible refine Tw.rd_rg2 ?_
  | with_reducible refine Tw.rd_rg1 ?_
  | with_reducible refine Tw.rd_int2 ?_
  | with_reducible refine Tw.rd_augS ?_
  | with_reducible refine Tw.rd_ipI ?_
  | with_reducible refine Tw.rd_gsub ?_
  | with_reducible refine Tw.rd_gcons ?_
  | with_reducible refine Tw.rd_gnil ?_
  | with_reducible refine Tw.rd_par ?_
  | with_reducible refine Tw.rd_par2 ?_
  | with_reducible refine Tw.rd_mk ?_
  | with_reducible refine Tw.rd_md ?_
  | with_reducible refine Tw.rd_fld ?_
  | with_reducible refine Tw.rd_sfld ?_)
local macro_rules | `(tactic| walk_at "rd1") => `(tactic| first
  | walk_at "rd0"
  | with_reducible refine Tw.rd_if ?_
  | with_reducible refine Tw.rd_for ?_)
local macro_rules | `(tactic| walk_at "rs") => `(tactic| repeat walk_at "rd0")
local macro_rules | `(tactic| walk_at "rd") => `(tactic| repeat walk_at "rd1")
local macro_rules | `(tactic| walk_at "ini") => `(tactic| (dsimp only [L2.cxOf, L2.start, L2.Cx.wish, L2.Cx.nox, List.map, List.length_cons, List.length_nil, Nat.reduceAdd, Nat.reduceSub, List.replicate, List.cons_append, List.nil_append]; walk_at "rd"))
local macro_rules | `(tactic| walk_at "num") => `(tactic| first
  | exact (show (0 : Int) < _ from by decide)
  | exact (show (0 : Int) < _ ∧ _ < (1073741824 : Int) from by decide)
  | exact (show (0 : Int) ≤ _ ∧ _ ≤ (1000000 : Int) ∧ _ < 2 ^ 64 from by decide))
local macro_rules | `(tactic| walk_at "rn") => `(tactic| repeat (first | walk_at "rd1" | ((with_reducible refine Tw.rd_I ?c ?_); (case c => walk_at "num"))))
/-! ### what the top has left -/
theorem kit_own {K : PySem.W.Frag} {C T : Addr} (hd : PySem.W.hasDictIn K T = true) (ty : PySem.W.typeIn K (.ref T) = some (.type "type")) (sub : PySem.W.subIn K (.ref C) (.ref T) = some true) : PySem.W.kitOne K (.ref C) (.ref T) = some true := by
  unfold PySem.W.kitOne
  split
  · rfl
  · show (if ((PySem.W.clsIn K T).isSome && PySem.W.typeIn K (.ref T) == some (.type "type")) = true then PySem.W.subIn K (.ref C) (.ref T) else none) = some true
    have h : (PySem.W.clsIn K T).isSome = true := by
      unfold PySem.W.hasDictIn at hd
      cases e : PySem.W.clsIn K T with
      | none =>
        rw [e] at hd
        exact absurd hd (by simp [Option.any])
      | some c => rfl
    rw [if_pos (by rw [h, ty]; decide +kernel), sub]
theorem md_mk {P : Program} {w : World} {K : PySem.W.Frag} {mg : Str → Option Value} {base : Heap} {C : Addr} {k : Nat} {m q : Str} {st : Stmt} {f : Addr} {ps : List Str} {sp : Sp} (d : DefIn K m q st f) (c : Cls K C)
    (at_ : PySem.W.findIn K (.ref C) m = some (some (.ref f))) (fn : PySem.W.isFn K (.ref f) = true)
    (bd : ∀ (kV doc pm : Value) (an : Option Addr) (cdv ct : Value) (us : List Value), us.length = ps.length → bindArgs (PySem.W.fnOf m q (defArgs st) (defBody st) (defScope st) .none kV doc pm an cdv ct) ⟨us, []⟩ = pure (ps.zip us))
    (ok : ∀ fd, Fun K m q st f fd → FnOk P w K mg base CX0 k f fd ps sp) : Md P w K mg base C m k ps sp := by
  obtain ⟨oc, od, kV, dc, pm, an, cd, ct, sl, h1, h2, h3⟩ := d
  have F := fun_mk (st := st) h1 h2 h3
  exact ⟨c, f, _, ⟨at_, fn, h3⟩, ok _ F, F.binds bd⟩
theorem clm_mk {P : Program} {w : World} {K : PySem.W.Frag} {mg : Str → Option Value} {base : Heap} {x : Str} {C : Addr} {k : Nat} {q : Str} {st : Stmt} {f : Addr} {ps : List Str} {sp : Sp} (d : DefIn K "__init__" q st f) (g : mg x = some (.ref C))
    (mk : PySem.W.makesIn K C = true) (at_ : PySem.W.findIn K (.ref C) "__init__" = some (some (.ref f))) (fn : PySem.W.isFn K (.ref f) = true) (kp : PySem.W.keepIn K (.ref C) = true)
    (bd : ∀ (kV doc pm : Value) (an : Option Addr) (cdv ct : Value) (us : List Value), us.length = ps.length → bindArgs (PySem.W.fnOf "__init__" q (defArgs st) (defBody st) (defScope st) .none kV doc pm an cdv ct) ⟨us, []⟩ = pure (ps.zip us))
    (ok : ∀ fd, Fun K "__init__" q st f fd → FnOk P w K mg base CX0 k f fd ps sp) : ClM P w K mg base x C k ps sp := by
  obtain ⟨oc, od, kV, dc, pm, an, cd, ct, sl, h1, h2, h3⟩ := d
  have F := fun_mk (st := st) h1 h2 h3
  exact ⟨g, f, _, ⟨mk, at_, fn, kp⟩, ok _ F, F.binds bd⟩
theorem all_mk {l : PySem.W.OpenLaw} {w : World} {K : PySem.W.Frag} {h : Heap} {mg : Str → Option Value} {fa f_is_whole f_check_die f_counts_of f_mirrored f_how_often f_first_off f__law_number f__law_die f__law_two_sides f__law_counts f__law_plain f__law_twins f__law_says f__law_off_right f_law C_BadDie C_Answer C_Twin f_Twin_shows C_Off f_Off___init__ f_Off_shows : Addr} (X : K.In h) (G : h.Ns mainGlobals mg) (hfa : mg "law" = some (.ref fa))
    (G_is_whole : PySem.W.nsIn K mainGlobals "is_whole" = some (some (.ref f_is_whole))) (D_is_whole : DefIn K "is_whole" "is_whole" s_is_whole f_is_whole)
    (G_check_die : PySem.W.nsIn K mainGlobals "check_die" = some (some (.ref f_check_die))) (D_check_die : DefIn K "check_die" "check_die" s_check_die f_check_die)
    (G_counts_of : PySem.W.nsIn K mainGlobals "counts_of" = some (some (.ref f_counts_of))) (D_counts_of : DefIn K "counts_of" "counts_of" s_counts_of f_counts_of)
    (G_mirrored : PySem.W.nsIn K mainGlobals "mirrored" = some (some (.ref f_mirrored))) (D_mirrored : DefIn K "mirrored" "mirrored" s_mirrored f_mirrored)
    (G_how_often : PySem.W.nsIn K mainGlobals "how_often" = some (some (.ref f_how_often))) (D_how_often : DefIn K "how_often" "how_often" s_how_often f_how_often)
    (G_first_off : PySem.W.nsIn K mainGlobals "first_off" = some (some (.ref f_first_off))) (D_first_off : DefIn K "first_off" "first_off" s_first_off f_first_off)
    (G__law_number : PySem.W.nsIn K mainGlobals "_law_number" = some (some (.ref f__law_number))) (D__law_number : DefIn K "_law_number" "_law_number" s__law_number f__law_number)
    (G__law_die : PySem.W.nsIn K mainGlobals "_law_die" = some (some (.ref f__law_die))) (D__law_die : DefIn K "_law_die" "_law_die" s__law_die f__law_die)
    (G__law_two_sides : PySem.W.nsIn K mainGlobals "_law_two_sides" = some (some (.ref f__law_two_sides))) (D__law_two_sides : DefIn K "_law_two_sides" "_law_two_sides" s__law_two_sides f__law_two_sides)
    (G__law_counts : PySem.W.nsIn K mainGlobals "_law_counts" = some (some (.ref f__law_counts))) (D__law_counts : DefIn K "_law_counts" "_law_counts" s__law_counts f__law_counts)
    (G__law_plain : PySem.W.nsIn K mainGlobals "_law_plain" = some (some (.ref f__law_plain))) (D__law_plain : DefIn K "_law_plain" "_law_plain" s__law_plain f__law_plain)
    (G__law_twins : PySem.W.nsIn K mainGlobals "_law_twins" = some (some (.ref f__law_twins))) (D__law_twins : DefIn K "_law_twins" "_law_twins" s__law_twins f__law_twins)
    (G__law_says : PySem.W.nsIn K mainGlobals "_law_says" = some (some (.ref f__law_says))) (D__law_says : DefIn K "_law_says" "_law_says" s__law_says f__law_says)
    (G__law_off_right : PySem.W.nsIn K mainGlobals "_law_off_right" = some (some (.ref f__law_off_right))) (D__law_off_right : DefIn K "_law_off_right" "_law_off_right" s__law_off_right f__law_off_right)
    (G_law : PySem.W.nsIn K mainGlobals "law" = some (some (.ref f_law))) (D_law : DefIn K "law" "law" s_law f_law)
    (g_BadDie : PySem.W.nsIn K mainGlobals "BadDie" = some (some (.ref C_BadDie))) (x_BadDie : PySem.W.excIn K C_BadDie [.type "ValueError", .type "Exception", .type "BaseException", .type "object"] "ValueError.__new__" = true) (k_BadDie : PySem.W.keepIn K (.ref C_BadDie) = true) (b_BadDie : PySem.W.subIn K (.ref C_BadDie) (.type "BaseException") = some true) (t_BadDie : PySem.W.typeIn K (.ref C_BadDie) = some (.type "type"))
    (m_MOST_SIDES : ∃ t, PySem.W.nsIn K mainGlobals "MOST_SIDES" = some (some (.int 72 t)))
    (m_MOST_NUMBER : ∃ t, PySem.W.nsIn K mainGlobals "MOST_NUMBER" = some (some (.int 100 t)))
    (z_isinstance : PySem.W.nsIn K mainGlobals "isinstance" = some none)
    (z_int : PySem.W.nsIn K mainGlobals "int" = some none)
    (z_bool : PySem.W.nsIn K mainGlobals "bool" = some none)
    (z_list : PySem.W.nsIn K mainGlobals "list" = some none)
    (z_tuple : PySem.W.nsIn K mainGlobals "tuple" = some none)
    (z_len : PySem.W.nsIn K mainGlobals "len" = some none)
    (z_all : PySem.W.nsIn K mainGlobals "all" = some none)
    (z_any : PySem.W.nsIn K mainGlobals "any" = some none)
    (z_sum : PySem.W.nsIn K mainGlobals "sum" = some none)
    (z_sorted : PySem.W.nsIn K mainGlobals "sorted" = some none)
    (z_range : PySem.W.nsIn K mainGlobals "range" = some none)
    (z_enumerate : PySem.W.nsIn K mainGlobals "enumerate" = some none)
    (z_max : PySem.W.nsIn K mainGlobals "max" = some none)
    (z_min : PySem.W.nsIn K mainGlobals "min" = some none)
    (z_abs : PySem.W.nsIn K mainGlobals "abs" = some none)
    (z_dict : PySem.W.nsIn K mainGlobals "dict" = some none)
    (z_str : PySem.W.nsIn K mainGlobals "str" = some none)
    (z_set : PySem.W.nsIn K mainGlobals "set" = some none)
    (g_Answer : PySem.W.nsIn K mainGlobals "Answer" = some (some (.ref C_Answer)))
    (g_Twin : PySem.W.nsIn K mainGlobals "Twin" = some (some (.ref C_Twin)))
    (pg_Twin : PySem.W.plainGet K C_Twin Str.empty = true)
    (hd_Twin : PySem.W.hasDictIn K C_Twin = true)
    (po_Twin : PySem.W.plainOver K C_Twin = true)
    (sa_Twin : PySem.W.findIn K (.ref C_Twin) "__setattr__" = some (some (.builtin "object.__setattr__")))
    (mk_Twin : PySem.W.makesIn K C_Twin = true)
    (in_Twin : PySem.W.findIn K (.ref C_Twin) "__init__" = some (some (.builtin "object.__init__")))
    (kp_Twin : PySem.W.keepIn K (.ref C_Twin) = true)
    (at_Twin_shows : PySem.W.findIn K (.ref C_Twin) "shows" = some (some (.ref f_Twin_shows)))
    (fn_Twin_shows : PySem.W.isFn K (.ref f_Twin_shows) = true)
    (D_Twin_shows : DefIn K "shows" "Twin.shows" s_Twin_shows f_Twin_shows)
    (ha_Twin : PySem.W.findIn K (.ref C_Twin) "__class__" = some (some (.builtin "object.__class__")))
    (hm_Twin : PySem.W.mroIn K C_Twin (.type "object") = some true)
    (kit_Twin_Answer : PySem.W.kitOne K (.ref C_Twin) (.ref C_Answer) = some true)
    (g_Off : PySem.W.nsIn K mainGlobals "Off" = some (some (.ref C_Off)))
    (pg_Off : PySem.W.plainGet K C_Off Str.empty = true)
    (hd_Off : PySem.W.hasDictIn K C_Off = true)
    (po_Off : PySem.W.plainOver K C_Off = true)
    (sa_Off : PySem.W.findIn K (.ref C_Off) "__setattr__" = some (some (.builtin "object.__setattr__")))
    (na_Off_total : PySem.W.findIn K (.ref C_Off) "total" = some none)
    (mk_Off : PySem.W.makesIn K C_Off = true)
    (at_Off___init__ : PySem.W.findIn K (.ref C_Off) "__init__" = some (some (.ref f_Off___init__)))
    (fn_Off___init__ : PySem.W.isFn K (.ref f_Off___init__) = true)
    (D_Off___init__ : DefIn K "__init__" "Off.__init__" s_Off___init__ f_Off___init__)
    (at_Off_shows : PySem.W.findIn K (.ref C_Off) "shows" = some (some (.ref f_Off_shows)))
    (fn_Off_shows : PySem.W.isFn K (.ref f_Off_shows) = true)
    (D_Off_shows : DefIn K "shows" "Off.shows" s_Off_shows f_Off_shows)
    (kp_Off : PySem.W.keepIn K (.ref C_Off) = true)
    (ha_Off : PySem.W.findIn K (.ref C_Off) "__class__" = some (some (.builtin "object.__class__")))
    (hm_Off : PySem.W.mroIn K C_Off (.type "object") = some true)
    (kit_Off_Answer : PySem.W.kitOne K (.ref C_Off) (.ref C_Answer) = some true)
    (oc_get : PySem.W.specialIn K (.builtin "object.__class__") "__get__" = some (some (.builtin "getset_descriptor.__get__"))) (oc_takes : PySem.W.takesIn K (.builtin "object.__class__") = some true)
    : ∃ fd : FuncData, (∀ (s : Shared) (v : Value), BindsTo s fd ⟨[v], []⟩ [("_law_script", v)]) ∧ ∀ base : Heap, K.In base → base.Ns mainGlobals mg → FnOk l.prog w K mg base CX0 4 fa fd ["_law_script"] (spLaw K) := by
  have e := hfa.symm.trans (PySem.W.mg_of X G G_law)
  cases e
  have B : Bn mg := ⟨PySem.W.mg_none_of X G z_isinstance, PySem.W.mg_none_of X G z_int, PySem.W.mg_none_of X G z_bool, PySem.W.mg_none_of X G z_list, PySem.W.mg_none_of X G z_tuple, PySem.W.mg_none_of X G z_len, PySem.W.mg_none_of X G z_all, PySem.W.mg_none_of X G z_any, PySem.W.mg_none_of X G z_sum, PySem.W.mg_none_of X G z_sorted, PySem.W.mg_none_of X G z_range, PySem.W.mg_none_of X G z_enumerate, PySem.W.mg_none_of X G z_max, PySem.W.mg_none_of X G z_min, PySem.W.mg_none_of X G z_abs, PySem.W.mg_none_of X G z_dict, PySem.W.mg_none_of X G z_str, PySem.W.mg_none_of X G z_set⟩
  have x_BadDie : Exq K mg "BadDie" C_BadDie := ⟨x_BadDie, PySem.W.mg_of X G g_BadDie, k_BadDie, b_BadDie, t_BadDie⟩
  have m_MOST_SIDES : ∃ t, mg "MOST_SIDES" = some (.int 72 t) := m_MOST_SIDES.imp fun _ z => PySem.W.mg_of X G z
  have m_MOST_NUMBER : ∃ t, mg "MOST_NUMBER" = some (.int 100 t) := m_MOST_NUMBER.imp fun _ z => PySem.W.mg_of X G z
  have c_Answer : ClG K mg "Answer" C_Answer := ⟨PySem.W.mg_of X G g_Answer⟩
  have cl_Twin : Cls K C_Twin := ⟨pg_Twin, hd_Twin, po_Twin, sa_Twin⟩
  have c_Twin : Cl0 K mg "Twin" C_Twin := ⟨PySem.W.mg_of X G g_Twin, mk_Twin, in_Twin, kp_Twin⟩
  have i_Twin : InsT K C_Twin := ⟨cl_Twin, ha_Twin, oc_get, oc_takes, hm_Twin⟩
  have cl_Off : Cls K C_Off := ⟨pg_Off, hd_Off, po_Off, sa_Off⟩
  have i_Off : InsT K C_Off := ⟨cl_Off, ha_Off, oc_get, oc_takes, hm_Off⟩
  obtain ⟨oc, od, kV, dc, pm, an, cd, ct, sl, h1, h2, h3⟩ := D_law
  refine ⟨PySem.W.fnOf "law" "law" (defArgs s_law) (defBody s_law) (defScope s_law) .none kV dc pm an cd ct, fun s v => .of_eq rfl, fun base kb gb => ?_⟩
  have d_is_whole : Df l.prog w K mg base CX0 1 "is_whole" ["thing"] (spIsWhole K) := df_mk D_is_whole (PySem.W.mg_of X G G_is_whole) (fun _ _ _ _ _ _ us hl => match us, hl with | [_], _ => rfl) (fun fd F => ok_is_whole F B)
  have d_check_die : Df l.prog w K mg base (L2.CX l.prog w) 2 "check_die" ["die"] (spDie K C_BadDie) := df_mk D_check_die (PySem.W.mg_of X G G_check_die) (fun _ _ _ _ _ _ us hl => match us, hl with | [_], _ => rfl) (fun fd F => (ok_check_die F B x_BadDie m_MOST_SIDES m_MOST_NUMBER d_is_whole).imp (fun _ _ _ _ => die_of_sp))
  have d_counts_of : Df l.prog w K mg base CX0 1 "counts_of" ["one", "other"] (spCounts K) := df_mk D_counts_of (PySem.W.mg_of X G G_counts_of) (fun _ _ _ _ _ _ us hl => match us, hl with | [_, _], _ => rfl) (fun fd F => ok_counts_of F )
  have d_mirrored : Df l.prog w K mg base (L2.CX l.prog w) 3 "mirrored" ["die"] (spMirrored K C_BadDie) := df_mk D_mirrored (PySem.W.mg_of X G G_mirrored) (fun _ _ _ _ _ _ us hl => match us, hl with | [_], _ => rfl) (fun fd F => ok_mirrored F B d_check_die)
  have d_how_often : Df l.prog w K mg base CX0 1 "how_often" ["first", "second", "total"] (spHow) := df_mk D_how_often (PySem.W.mg_of X G G_how_often) (fun _ _ _ _ _ _ us hl => match us, hl with | [_, _, _], _ => rfl) (fun fd F => ok_how_often F B)
  have d_first_off : Df l.prog w K mg base CX0 2 "first_off" ["first", "second", "one", "other"] (spFirstOff K) := df_mk D_first_off (PySem.W.mg_of X G G_first_off) (fun _ _ _ _ _ _ us hl => match us, hl with | [_, _, _, _], _ => rfl) (fun fd F => ok_first_off F B d_counts_of d_how_often)
  have md_Twin_shows : Md l.prog w K mg base C_Twin "shows" 3 ["self", "first", "second", "one", "other"] (spTShows K) := md_mk D_Twin_shows cl_Twin at_Twin_shows fn_Twin_shows (fun _ _ _ _ _ _ us hl => match us, hl with | [_, _, _, _, _], _ => rfl) (fun fd F => ok_Twin_shows F d_first_off)
  have k_Off : ClM l.prog w K mg base "Off" C_Off 1 ["self", "total"] (spOInit C_Off) := clm_mk D_Off___init__ (PySem.W.mg_of X G g_Off) mk_Off at_Off___init__ fn_Off___init__ kp_Off (fun _ _ _ _ _ _ us hl => match us, hl with | [_, _], _ => rfl) (fun fd F => ok_Off___init__ F cl_Off na_Off_total)
  have md_Off_shows : Md l.prog w K mg base C_Off "shows" 2 ["self", "first", "second", "one", "other"] (spOShows K C_Off) := md_mk D_Off_shows cl_Off at_Off_shows fn_Off_shows (fun _ _ _ _ _ _ us hl => match us, hl with | [_, _, _, _, _], _ => rfl) (fun fd F => ok_Off_shows F cl_Off na_Off_total d_is_whole d_counts_of d_how_often)
  have d__law_number : Df l.prog w K mg base CX0 1 "_law_number" ["_law_cell", "_law_at", "_law_whole"] (spNum) := df_mk D__law_number (PySem.W.mg_of X G G__law_number) (fun _ _ _ _ _ _ us hl => match us, hl with | [_, _, _], _ => rfl) (fun fd F => ok__law_number F )
  have d__law_die : Df l.prog w K mg base CX0 2 "_law_die" ["_law_script", "_law_by", "_law_most"] (spLDie K) := df_mk D__law_die (PySem.W.mg_of X G G__law_die) (fun _ _ _ _ _ _ us hl => match us, hl with | [_, _, _], _ => rfl) (fun fd F => ok__law_die F B d__law_number)
  have d__law_two_sides : Df l.prog w K mg base CX0 2 "_law_two_sides" ["_law_script", "_law_by", "_law_most"] (spTwo K) := df_mk D__law_two_sides (PySem.W.mg_of X G G__law_two_sides) (fun _ _ _ _ _ _ us hl => match us, hl with | [_, _, _], _ => rfl) (fun fd F => ok__law_two_sides F B d__law_number)
  have d__law_counts : Df l.prog w K mg base CX0 1 "_law_counts" ["_law_one", "_law_other"] (spCounts K) := df_mk D__law_counts (PySem.W.mg_of X G G__law_counts) (fun _ _ _ _ _ _ us hl => match us, hl with | [_, _], _ => rfl) (fun fd F => ok__law_counts F )
  have d__law_plain : Df l.prog w K mg base CX0 1 "_law_plain" ["_law_sides"] (spPlain) := df_mk D__law_plain (PySem.W.mg_of X G G__law_plain) (fun _ _ _ _ _ _ us hl => match us, hl with | [_], _ => rfl) (fun fd F => ok__law_plain F B)
  have d__law_twins : Df l.prog w K mg base CX0 2 "_law_twins" ["_law_first", "_law_second", "_law_one", "_law_other"] (spLTwins K) := df_mk D__law_twins (PySem.W.mg_of X G G__law_twins) (fun _ _ _ _ _ _ us hl => match us, hl with | [_, _, _, _], _ => rfl) (fun fd F => ok__law_twins F d__law_counts d__law_plain)
  have d__law_says : Df l.prog w K mg base CX0 1 "_law_says" ["_law_said", "_law_due"] (spSays) := df_mk D__law_says (PySem.W.mg_of X G G__law_says) (fun _ _ _ _ _ _ us hl => match us, hl with | [_, _], _ => rfl) (fun fd F => ok__law_says F B)
  have d__law_off_right : Df l.prog w K mg base CX0 3 "_law_off_right" ["_law_first", "_law_second", "_law_one", "_law_other", "_law_total"] (spOffRight K) := df_mk D__law_off_right (PySem.W.mg_of X G G__law_off_right) (fun _ _ _ _ _ _ us hl => match us, hl with | [_, _, _, _, _], _ => rfl) (fun fd F => ok__law_off_right F cl_Off na_Off_total d__law_counts d__law_plain d__law_says k_Off md_Off_shows)
  exact ok_law (fun_mk (st := s_law) h1 h2 h3) B d_mirrored d__law_die d__law_two_sides d__law_plain d__law_twins d__law_says d__law_off_right c_Twin md_Twin_shows k_Off md_Off_shows c_Answer i_Twin i_Off kit_Twin_Answer kit_Off_Answer
end Tw
open PySem PySem.W PyProof.Rows
set_option maxRecDepth 100000 in
set_option maxHeartbeats 0 in
theorem PySem.Challenge.cw_twindice_k05_answers_by_hand_holds : PySem.Challenge.rw_twindice_k05_answers_by_hand.Holds := by
  w_on; o_law; k_head; (case hw => w_witness2)
  k_fill
  refine L2.walk_ofB (l := PySem.Challenge.rw_twindice_k05_answers_by_hand) (n := 63) (k := 4) (x := "_law_script") (CX := fun _ => L2.CX0) (sp := fun w => Tw.spLaw _) rfl (by decide) rfl ⟨rfl, by decide, by decide⟩ (fun w h Y => PySem.W.kIn_of Y) ?F (fun _ _ a ns hl hb _ hS => ⟨a, ns, rfl, hS, hl, fun z hz => Tw.Bd.of_bits (hb z hz), fun _ => rfl⟩) (fun _ _ _ _ _ h => h)
  case F =>
    intro w mg fa h KX G hmg
    have hmg2 : mg "law" = some (.ref fa) := hmg
    clear hmg
    refine' Tw.all_mk KX G hmg2 ?G_is_whole ?D_is_whole ?G_check_die ?D_check_die ?G_counts_of ?D_counts_of ?G_mirrored ?D_mirrored ?G_how_often ?D_how_often ?G_first_off ?D_first_off ?G__law_number ?D__law_number ?G__law_die ?D__law_die ?G__law_two_sides ?D__law_two_sides ?G__law_counts ?D__law_counts ?G__law_plain ?D__law_plain ?G__law_twins ?D__law_twins ?G__law_says ?D__law_says ?G__law_off_right ?D__law_off_right ?G_law ?D_law ?g_BadDie ?x_BadDie ?k_BadDie ?b_BadDie ?t_BadDie ?m_MOST_SIDES ?m_MOST_NUMBER ?z_isinstance ?z_int ?z_bool ?z_list ?z_tuple ?z_len ?z_all ?z_any ?z_sum ?z_sorted ?z_range ?z_enumerate ?z_max ?z_min ?z_abs ?z_dict ?z_str ?z_set ?g_Answer ?g_Twin ?pg_Twin ?hd_Twin ?po_Twin ?sa_Twin ?mk_Twin ?in_Twin ?kp_Twin ?at_Twin_shows ?fn_Twin_shows ?D_Twin_shows ?ha_Twin ?hm_Twin ?kit_Twin_Answer ?g_Off ?pg_Off ?hd_Off ?po_Off ?sa_Off ?na_Off_total ?mk_Off ?at_Off___init__ ?fn_Off___init__ ?D_Off___init__ ?at_Off_shows ?fn_Off_shows ?D_Off_shows ?kp_Off ?ha_Off ?hm_Off ?kit_Off_Answer ?oc_get ?oc_takes
    (case G_is_whole => k_is)
    (case D_is_whole => (refine' Tw.defIn_of ?l ?c ?k; (case l => k_is); (case c => k_is); (case k => k_is)))
    (case G_check_die => k_is)
    (case D_check_die => (refine' Tw.defIn_of ?l ?c ?k; (case l => k_is); (case c => k_is); (case k => k_is)))
    (case G_counts_of => k_is)
    (case D_counts_of => (refine' Tw.defIn_of ?l ?c ?k; (case l => k_is); (case c => k_is); (case k => k_is)))
    (case G_mirrored => k_is)
    (case D_mirrored => (refine' Tw.defIn_of ?l ?c ?k; (case l => k_is); (case c => k_is); (case k => k_is)))
    (case G_how_often => k_is)
    (case D_how_often => (refine' Tw.defIn_of ?l ?c ?k; (case l => k_is); (case c => k_is); (case k => k_is)))
    (case G_first_off => k_is)
    (case D_first_off => (refine' Tw.defIn_of ?l ?c ?k; (case l => k_is); (case c => k_is); (case k => k_is)))
    (case G__law_number => k_is)
    (case D__law_number => (refine' Tw.defIn_of ?l ?c ?k; (case l => k_is); (case c => k_is); (case k => k_is)))
    (case G__law_die => k_is)
    (case D__law_die => (refine' Tw.defIn_of ?l ?c ?k; (case l => k_is); (case c => k_is); (case k => k_is)))
    (case G__law_two_sides => k_is)
    (case D__law_two_sides => (refine' Tw.defIn_of ?l ?c ?k; (case l => k_is); (case c => k_is); (case k => k_is)))
    (case G__law_counts => k_is)
    (case D__law_counts => (refine' Tw.defIn_of ?l ?c ?k; (case l => k_is); (case c => k_is); (case k => k_is)))
    (case G__law_plain => k_is)
    (case D__law_plain => (refine' Tw.defIn_of ?l ?c ?k; (case l => k_is); (case c => k_is); (case k => k_is)))
    (case G__law_twins => k_is)
    (case D__law_twins => (refine' Tw.defIn_of ?l ?c ?k; (case l => k_is); (case c => k_is); (case k => k_is)))
    (case G__law_says => k_is)
    (case D__law_says => (refine' Tw.defIn_of ?l ?c ?k; (case l => k_is); (case c => k_is); (case k => k_is)))
    (case G__law_off_right => k_is)
    (case D__law_off_right => (refine' Tw.defIn_of ?l ?c ?k; (case l => k_is); (case c => k_is); (case k => k_is)))
    (case G_law => k_is)
    (case D_law => (refine' Tw.defIn_of ?l ?c ?k; (case l => k_is); (case c => k_is); (case k => k_is)))
    (case g_BadDie => k_is)
    (case x_BadDie => k_exc)
    (case k_BadDie => k_is)
    (case b_BadDie => k_is)
    (case t_BadDie => k_is)
    (case m_MOST_SIDES => (refine' Tw.const_of ?u; (case u => k_is)))
    (case m_MOST_NUMBER => (refine' Tw.const_of ?u; (case u => k_is)))
    (case z_isinstance => k_is)
    (case z_int => k_is)
    (case z_bool => k_is)
    (case z_list => k_is)
    (case z_tuple => k_is)
    (case z_len => k_is)
    (case z_all => k_is)
    (case z_any => k_is)
    (case z_sum => k_is)
    (case z_sorted => k_is)
    (case z_range => k_is)
    (case z_enumerate => k_is)
    (case z_max => k_is)
    (case z_min => k_is)
    (case z_abs => k_is)
    (case z_dict => k_is)
    (case z_str => k_is)
    (case z_set => k_is)
    (case g_Answer => k_is)
    (case g_Twin => k_is)
    (case pg_Twin => k_is)
    (case hd_Twin => k_is)
    (case po_Twin => k_is)
    (case sa_Twin => k_is)
    (case mk_Twin => k_is)
    (case in_Twin => k_is)
    (case kp_Twin => k_is)
    (case at_Twin_shows => k_is)
    (case fn_Twin_shows => k_is)
    (case D_Twin_shows => (refine' Tw.defIn_of ?l ?c ?k; (case l => k_is); (case c => k_is); (case k => k_is)))
    (case ha_Twin => k_is)
    (case hm_Twin => k_is)
    (case kit_Twin_Answer => (refine' Tw.kit_own ?h ?t ?s; (case h => k_is); (case t => k_is); (case s => k_is)))
    (case g_Off => k_is)
    (case pg_Off => k_is)
    (case hd_Off => k_is)
    (case po_Off => k_is)
    (case sa_Off => k_is)
    (case na_Off_total => k_is)
    (case mk_Off => k_is)
    (case at_Off___init__ => k_is)
    (case fn_Off___init__ => k_is)
    (case D_Off___init__ => (refine' Tw.defIn_of ?l ?c ?k; (case l => k_is); (case c => k_is); (case k => k_is)))
    (case at_Off_shows => k_is)
    (case fn_Off_shows => k_is)
    (case D_Off_shows => (refine' Tw.defIn_of ?l ?c ?k; (case l => k_is); (case c => k_is); (case k => k_is)))
    (case kp_Off => k_is)
    (case ha_Off => k_is)
    (case hm_Off => k_is)
    (case kit_Off_Answer => (refine' Tw.kit_own ?h ?t ?s; (case h => k_is); (case t => k_is); (case s => k_is)))
    (case oc_get => k_is)
    (case oc_takes => k_is)


