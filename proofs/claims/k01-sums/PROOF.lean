import PyProof.Rows.All
import Wide.All
import OpenK.AllK
import Wide.FinOn
import HandS.ForMost
import HandS.ForExc
import HandS.IsInst
import HandS.SortInts
import HandS.ListItems
import HandS.EndBits
import HandS.Wide
import HandS.WideBits
import HandS.Conv
import HandS.Style
import HandS.Deep
import HandS.More
import KE.SortKeyed
import KE.DataCmp
import PySem.Challenge.RW_twindice_k01_sums
set_option Elab.async false
set_option linter.all false
set_option maxRecDepth 100000
set_option maxHeartbeats 4000000
/-! Twindice: the toolkit (heaps, readings step by step, calls, loops by what is done) -/
namespace Tw
open PySem PySem.Spec PyProof.Rows L2
abbrev St := L2.St
/-! ### heaps -/
section
variable {H H' H0 : Hp} {p a b : Addr} {o x : HO} {K : PySem.W.Frag}
theorem same_new (h : H p = none) : Same H (upd H p o) := fun b x e => (upd_ne (ne_of_none e h)).trans e
theorem keep_new (h : H p = none) (e : H a = some x) : upd H p o a = some x := same_new h a x e
theorem keep_ne (n : a ≠ p) (e : H a = some x) : upd H p o a = some x := (upd_ne n).trans e
theorem same_mut (s : Same H0 H) (h : H0 p = none) : Same H0 (upd H p o) := fun b x e => (upd_ne (ne_of_none e h)).trans (s b x e)
theorem ne_fresh (h' : H b = none) (h : H a = some o) : a ≠ b := ne_of_none h h'
theorem same_rd (s : Same H H') (h : Rd H a o) : Rd H' a o := h.imp (s a _) fun ⟨u, q⟩ => ⟨u, s a _ q⟩
theorem same_l {xs : List V} (s : Same H H') (h : SqL K H a xs) : SqL K H' a xs := h.imp (same_rd s) id
theorem same_t {xs : List V} (s : Same H H') (h : SqT K H a xs) : SqT K H' a xs := h.imp (same_rd s) id
end
mutual
theorem same_dp {K : PySem.W.Frag} {H H' : Hp} (s : Same H H') : ∀ (d : PyData) (v : V), Dp K H v d → Dp K H' v d
  | .none, _, .non => .non
  | .bool b, _, .bl _ => .bl b
  | .int i, _, .int _ => .int i
  | .str x, _, .str _ => .str x
  | .list ds, _, .lst h hs => .lst (same_l s h) (same_dps s ds _ hs)
  | .tuple ds, _, .tup h hs => .tup (same_t s h) (same_dps s ds _ hs)
theorem same_dps {K : PySem.W.Frag} {H H' : Hp} (s : Same H H') : ∀ (ds : List PyData) (vs : List V), DpAll K H vs ds → DpAll K H' vs ds
  | [], _, .nil => .nil
  | d :: ds, _, .cons h hs => .cons (same_dp s d _ h) (same_dps s ds _ hs)
end
theorem dps_ints {K : PySem.W.Frag} {H : Hp} : ∀ ns : List Int, DpAll K H (ns.map V.int) (ns.map PyData.int)
  | [] => .nil
  | n :: r => .cons (.int n) (dps_ints r)
/-- a list of ints, as data -/
def dI (ns : List Int) : PyData := .list (ns.map PyData.int)
theorem dp_ints {K : PySem.W.Frag} {H : Hp} {a : Addr} {ns : List Int} (h : SqL K H a (ns.map V.int)) : Dp K H (.ref a) (dI ns) := .lst h (dps_ints ns)
/-! ### readings, one step -/
section
variable {D : Ends} {σ : St} {H : Hp} {Q : VK} {v : V}
theorem rd_seq {t u : TS} (h : t { D with nx := u D } σ H) : tSeq t u D σ H := h
theorem rd_next (h : D.nx σ H) : tNext D σ H := h
theorem rd_asg {te : TE} {g : TG} (h : te σ H fun x H1 => g x σ H1 D.nx) : tAsg te g D σ H := h
theorem rd_drop {te : TE} (h : te σ H fun _ H1 => D.nx σ H1) : tDrop te D σ H := h
theorem rd_ret {te : TE} (h : te σ H D.rt) : tRet te D σ H := h
theorem rd_retN (h : D.rt .non H) : tRetN D σ H := h
theorem rd_if {c : TT} {t u : TS} (h : c σ H fun b H1 => if b = true then t D σ H1 else u D σ H1) : tIfS c t u D σ H := h
theorem rd_par {i j : Nat} {ta : TA} (h : ta σ H fun vs H1 => ∃ v w, vs = [v, w] ∧ D.nx ((σ.set i (some v)).set j (some w)) H1) : tPar i j ta D σ H := h
theorem rd_var {i : Nat} (e : σ[i]? = some (some v)) (h : Q v H) : tVar i σ H Q := ⟨v, e, h⟩
theorem rd_c (h : Q v H) : tC v σ H Q := h
theorem rd_op {r : R2} {ta tb : TE} (h : ta σ H fun x H1 => tb σ H1 fun y H2 => r x y H2 Q) : tOp r ta tb σ H Q := h
theorem rd_un {r : V → Hp → VK → Prop} {ta : TE} (h : ta σ H fun x H1 => r x H1 Q) : tUn r ta σ H Q := h
theorem rd_I0 {g : Int → Int → V} {i j : Int} (h : Q (g i j) H) : rI0 g (.int i) (.int j) H Q := ⟨i, j, rfl, rfl, h⟩
theorem rd_I {C : Int → Int → Prop} {g : Int → Int → V} {i j : Int} (c : C i j) (h : Q (g i j) H) : rI C g (.int i) (.int j) H Q := ⟨i, j, rfl, rfl, c, h⟩
theorem rd_U {g : Int → V} {i : Int} (h : Q (g i) H) : rU g (.int i) H Q := ⟨i, rfl, h⟩
theorem rd_test {te : TE} {R : Bool → Hp → Prop} (h : te σ H fun x H1 => ∃ k, x = .bl k ∧ R k H1) : tTest te σ H R := h
theorem rd_tB {te : TE} {R : Bool → Hp → Prop} (h : te σ H fun x H1 => ∃ k, x = .bl k ∧ R k H1) : tB te σ H R := h
theorem rd_bl {b : Bool} {R : Bool → Prop} (h : R b) : ∃ k, V.bl b = .bl k ∧ R k := ⟨b, rfl, h⟩
theorem rd_not {t : TT} {R : Bool → Hp → Prop} (h : t σ H fun c H1 => R (!c) H1) : tNot t σ H R := h
theorem rd_and {t u : TT} {R : Bool → Hp → Prop} (h : t σ H fun c H1 => if c = true then u σ H1 R else R false H1) : tAnd t u σ H R := h
theorem rd_or {t u : TT} {R : Bool → Hp → Prop} (h : t σ H fun c H1 => if c = true then R true H1 else u σ H1 R) : tOr t u σ H R := h
theorem rd_andV {ta tb : TE} (h : ta σ H fun x H1 => ∃ c, x = .bl c ∧ if c = true then tb σ H1 Q else Q (.bl false) H1) : tAndV ta tb σ H Q := h
theorem rd_orV {ta tb : TE} (h : ta σ H fun x H1 => ∃ c, x = .bl c ∧ if c = true then Q (.bl true) H1 else tb σ H1 Q) : tOrV ta tb σ H Q := h
theorem rd_notV {ta : TE} (h : ta σ H fun x H1 => ∃ c, x = .bl c ∧ Q (.bl (!c)) H1) : tNotV ta σ H Q := h
theorem rd_tIf {t : TT} {ta tb : TE} (h : t σ H fun c H1 => if c = true then ta σ H1 Q else tb σ H1 Q) : tIf t ta tb σ H Q := h
theorem rd_cb {r : List V → Hp → VK → Prop} {t : TA} (h : t σ H fun vs H1 => r vs H1 Q) : tCB r t σ H Q := h
theorem rd_cons {ta : TE} {tr : TA} {R : List V → Hp → Prop} (h : ta σ H fun x H1 => tr σ H1 fun xs H2 => R (x :: xs) H2) : tCons ta tr σ H R := h
theorem rd_nil {R : List V → Hp → Prop} (h : R [] H) : tNil σ H R := h
theorem rd_isi {K : PySem.W.Frag} {x c : V} {t u : Value} {b : Bool} (k : ClsV c u) (ty : TyX K H x t) (e : PySem.W.kitOne K t u = some b) (h : Q (.bl b) H) : rIsi K [x, c] H Q := ⟨x, c, t, u, b, rfl, k, ty, e, h⟩
theorem rd_all {K : PySem.W.Frag} {a : Addr} {bs : List Bool} (s : SqL K H a (bs.map V.bl)) (h : Q (.bl (bs.all id)) H) : rAll K [.ref a] H Q := ⟨a, bs, rfl, s, h⟩
theorem rd_any {K : PySem.W.Frag} {a : Addr} {bs : List Bool} (s : SqL K H a (bs.map V.bl)) (h : Q (.bl (bs.any id)) H) : rAny K [.ref a] H Q := ⟨a, bs, rfl, s, h⟩
theorem rd_sortI {K : PySem.W.Frag} {a : Addr} {ns : List Int} (s : SqL K H a (ns.map V.int)) (h : ∀ (ns' : List Int) (p : Addr), ns'.Perm ns → ns'.Pairwise (· ≤ ·) → H p = none → Q (.ref p) (upd H p (.lst (ns'.map V.int)))) : rSortedI K [.ref a] H Q := ⟨a, ns, rfl, s, h⟩
theorem rd_neD {K : PySem.W.Frag} {x y : V} {d e : PyData} (hd : Dp K H x d) (he : Dp K H y e) (sd : SeqAt.shaped d = true) (se : SeqAt.shaped e = true) (h : Q (.bl (!PyData.eqv d e)) H) : rNeD K x y H Q := ⟨d, e, hd, he, sd, se, h⟩
theorem rd_eqD {K : PySem.W.Frag} {x y : V} {d e : PyData} (hd : Dp K H x d) (he : Dp K H y e) (sd : SeqAt.shaped d = true) (se : SeqAt.shaped e = true) (h : Q (.bl (PyData.eqv d e)) H) : rEqD K x y H Q := ⟨d, e, hd, he, sd, se, h⟩
theorem rd_call {sp : Sp} {E : XK} {t : TA} (h : t σ H fun vs H1 => sp (vs ++ []) H1 Q E) : tCall sp [] E t σ H Q := h
theorem rd_tup {t : TA} (h : t σ H fun xs H1 => xs.length ≤ sizeLine ∧ ∀ p, H1 p = none → Q (.ref p) (upd H1 p (.tup xs))) : tTup t σ H Q := h
theorem rd_lst {t : TA} (h : t σ H fun xs H1 => xs.length ≤ sizeLine ∧ ∀ p, H1 p = none → Q (.ref p) (upd H1 p (.lst xs))) : tLst t σ H Q := h
theorem rd_gname {i : Nat} {R : St → Hp → Prop} (h : R (σ.set i (some v)) H) : gName i v σ H R := h
theorem rd_chain {r r' : R2} {ta tb tc : TE} (h : ta σ H fun x H1 => tb σ H1 fun y H2 => r x y H2 fun z H3 => ∃ k, z = .bl k ∧ (if k = true then tc σ H3 fun w' H4 => r' y w' H4 Q else Q (.bl false) H3)) : tChain r r' ta tb tc σ H Q := h
theorem rd_lc {wi : TI} {g : TG} {tt : TT} {te : TE} {vs : List Nat} (h : wi σ H fun J H1 => ∀ D, H1 D = none → ∃ W : Nat → Nat → Hp → Prop, (∃ m, W 0 m (upd H1 D (.lst []))) ∧ ∀ i m H, W i m H →
    (J.stop i H ∧ Q (.ref D) H) ∨ (J.go i H ∧ ∃ Nx : Hp → Prop, (∀ H', Nx H' → ∃ m', m' < m ∧ W (i + 1) m' H') ∧ ∀ x H', J.yld i H x H' → g x (wipe σ vs) H' fun σ2 H2 => wipe σ2 vs = wipe σ vs ∧ tt σ2 H2 fun b H3 =>
      if b = true then te σ2 H3 fun y H4 => ∃ acc, H4 D = some (.lst acc) ∧ acc.length < sizeLine ∧ Nx (upd H4 D (.lst (acc ++ [y]))) else Nx H3)) : tLc wi g tt te vs σ H Q := h
theorem rd_dnew (h : ∀ p, H p = none → Q (.ref p) (upd H p (.dK []))) : tDNewK σ H Q := h
theorem rd_dput {td ty tv : TE} (h : tv σ H fun v H1 => td σ H1 fun x H2 => ty σ H2 fun y H3 => ∃ a H4, x = .ref a ∧ DPut H3 a y v H4 ∧ D.nx σ H4) : sDPut td ty tv D σ H := h
theorem rd_dget2 {td ty tx : TE} (h : td σ H fun x H1 => ∃ a, x = .ref a ∧ IsD H1 a ∧ ty σ H1 fun y H2 => tx σ H2 fun z H3 => ∃ o, DGet H3 a y o ∧ Q (o.getD z) H3) : tDGet2 td ty tx σ H Q := h
theorem rd_items {te : TE} (h : te σ H fun x H1 => LiI.rItemsL x H1 Q) : LiI.tListItems te σ H Q := h
theorem rd_sl {r : V → Option Int → Option Int → Hp → VK → Prop} {te : TE} {tl th : TO} (h : te σ H fun x H1 => tl σ H1 fun l H2 => th σ H2 fun u H3 => r x l u H3 Q) : L2.tSl r te tl th σ H Q := h
theorem rd_nopart {R : Option Int → Hp → Prop} (h : R none H) : tNoPart σ H R := h
theorem rd_part {te : TE} {R : Option Int → Hp → Prop} (h : te σ H fun x H1 => ∃ i, x = .int i ∧ R (some i) H1) : tPart te σ H R := h
theorem rd_int {i : Int} {R : Int → Prop} (h : R i) : ∃ j, V.int i = .int j ∧ R j := ⟨i, rfl, h⟩
theorem rd_revL {K : PySem.W.Frag} {te : TE} (h : te σ H fun x H1 => ∃ a xs, x = .ref a ∧ SqL K H1 a xs ∧ ∀ p, H1 p = none → Q (.ref p) (upd H1 p (.lst xs.reverse))) : tRevL K te σ H Q := h
theorem rd_bm {K : PySem.W.Frag} {T : String} {r : V → List V → Hp → VK → Prop} {to : TE} {t : TA} (h : to σ H fun x H1 => tyV K T x H1 ∧ t σ H1 fun xs H2 => r x xs H2 Q) : tBM K T r to t σ H Q := h
theorem rd_bm0 {K : PySem.W.Frag} {T : String} {r : V → List V → Hp → VK → Prop} {to : TE} (h : to σ H fun x H1 => tyV K T x H1 ∧ r x [] H1 Q) : tBM0 K T r to σ H Q := h
theorem rd_tyl {K : PySem.W.Frag} {a : Addr} {xs : List V} {R : Prop} (s : SqL K H a xs) (h : R) : tyV K "list" (.ref a) H ∧ R := ⟨.inl ⟨rfl, xs, s⟩, h⟩
theorem rd_lrg {te : St → Hp → (Int → Int → Hp → Prop) → Prop} (h : te σ H fun a b H1 => RgOk a b ∧ ∀ q, H1 q = none → Q (.ref q) (upd H1 q (.lst (rgV a b)))) : tLstRg te σ H Q := h
theorem rd_rg2 {ta tb : TE} {R : Int → Int → Hp → Prop} (h : ta σ H fun x H1 => tb σ H1 fun y H2 => ∃ i j, x = .int i ∧ y = .int j ∧ R i j H2) : tRg2 ta tb σ H R := h
theorem rd_rg1 {ta : TE} {R : Int → Int → Hp → Prop} (h : ta σ H fun x H1 => ∃ n, x = .int n ∧ R 0 n H1) : tRg1 ta σ H R := h
theorem rd_int2 {i j : Int} {R : Int → Int → Prop} (h : R i j) : ∃ i' j', V.int i = .int i' ∧ V.int j = .int j' ∧ R i' j' := ⟨i, j, rfl, rfl, h⟩
theorem rd_augS {to ti te : TE} {tget : V → V → Hp → VK → Prop} {tip : TIp} {tset : TSet} (h : to σ H fun o H1 => ti σ H1 fun i H2 => tget o i H2 fun x H3 => te σ H3 fun y H4 => tip x y H4 fun z H5 => tset o i z H5 fun H6 => D.nx σ H6) : tAugS to ti te tget tip tset D σ H := h
theorem rd_aug {i : Nat} {te : TE} {ti : TIp} (h : ∃ x, σ[i]? = some (some x) ∧ te σ H fun y H1 => ti x y H1 fun z H2 => D.nx (σ.set i (some z)) H2) : tAug i te ti D σ H := h
theorem rd_ipI {f : Int → Int → Int} {i j : Int} (h : Q (.int (f i j)) H) : ipI f (.int i) (.int j) H Q := ⟨i, j, rfl, rfl, h⟩
theorem rd_sum {K : PySem.W.Frag} {a : Addr} {ns : List Int} (s : SqL K H a (ns.map V.int)) (h : Q (.int ns.sum) H) : rSum K [.ref a] H Q := ⟨a, ns, rfl, s, h⟩
theorem rd_gsub {to ti : TE} {tset : TSet} {R : St → Hp → Prop} (h : to σ H fun o H1 => ti σ H1 fun i H2 => tset o i v H2 fun H3 => R σ H3) : gSub to ti tset v σ H R := h
theorem rd_gtup {K : PySem.W.Frag} {n : Nat} {t : TGs} {a : Addr} {xs : List V} {R : St → Hp → Prop} (s : SqT K H a xs) (l : xs.length = n) (h : t xs σ H R) : gTup K n t (.ref a) σ H R := ⟨a, xs, rfl, s, l, h⟩
theorem rd_gcons {t : TG} {u : TGs} {vs : List V} {R : St → Hp → Prop} (h : t v σ H fun σ' H' => u vs σ' H' R) : gCons t u (v :: vs) σ H R := ⟨v, vs, rfl, h⟩
theorem rd_gnil {R : St → Hp → Prop} (h : R σ H) : gNil [] σ H R := ⟨rfl, h⟩
theorem rd_par2 {v u : V} {R : V → V → Prop} (h : R v u) : ∃ x y, [v, u] = [x, y] ∧ R x y := ⟨v, u, rfl, h⟩
/-- a cut behind an expression, behind a statement -/
theorem cutE {te : TE} (R : VK) (main : ∀ Q' : VK, (∀ v H1, R v H1 → Q' v H1) → te σ H Q') (rest : ∀ v H1, R v H1 → Q v H1) : te σ H Q := main Q rest
theorem cutS {t : TS} (R : St → Hp → Prop) (main : ∀ N : St → Hp → Prop, (∀ σ H, R σ H → N σ H) → t { D with nx := N } σ H) (rest : ∀ σ H, R σ H → D.nx σ H) : t D σ H := main D.nx rest
theorem rd_append {l : Addr} {xs : List V} {y : V} (h : H l = some (.lst xs)) (hz : xs.length < sizeLine) (q : Q .non (upd H l (.lst (xs ++ [y])))) : rAppend (.ref l) [y] H Q := ⟨l, xs, y, rfl, rfl, h, hz, q⟩
theorem rd_ixL {K : PySem.W.Frag} {p : Addr} {xs : List V} {i : Int} {v : V} (s : SqL K H p xs) (e : atI xs i = some v) (h : Q v H) : rIxL K (.ref p) (.int i) H Q := ⟨p, xs, i, v, rfl, rfl, s, e, h⟩
theorem rd_ixT {K : PySem.W.Frag} {p : Addr} {xs : List V} {i : Int} {v : V} (s : SqT K H p xs) (e : atI xs i = some v) (h : Q v H) : rIxT K (.ref p) (.int i) H Q := ⟨p, xs, i, v, rfl, rfl, s, e, h⟩
theorem rd_slL {K : PySem.W.Frag} {p : Addr} {xs : List V} {lo hi : Option Int} (s : SqL K H p xs) (h : ∀ q, H q = none → Q (.ref q) (upd H q (.lst (cutV xs lo hi)))) : rSlL K (.ref p) lo hi H Q := ⟨p, xs, rfl, s, h⟩
theorem rd_rep {l : Addr} {k : Int} {xs : List V} (h : H l = some (.lst xs)) (h1 : -(2 ^ 63) ≤ k) (h2 : k < 2 ^ 63) (h3 : xs.length * k.toNat ≤ sizeLine) (q : ∀ p, H p = none → Q (.ref p) (upd H p (.lst (List.replicate k.toNat xs).flatten))) : rRep (.ref l) (.int k) H Q := ⟨l, k, xs, rfl, rfl, h, h1, h2, h3, q⟩
theorem rd_cat {l b : Addr} {xs zs : List V} (h : H l = some (.lst xs)) (h' : H b = some (.lst zs)) (hz : xs.length + zs.length ≤ sizeLine) (q : ∀ p, H p = none → Q (.ref p) (upd H p (.lst (xs ++ zs)))) : rCat (.ref l) (.ref b) H Q := ⟨l, b, xs, zs, rfl, rfl, h, h', hz, q⟩
theorem rd_for {wi : TI} {g : TG} {tb : TS} (h : wi σ H fun J H1 => ∃ W : Nat → Nat → St → Hp → Prop, (∃ m, W 0 m σ H1) ∧ ∀ i m σ H, W i m σ H →
    (J.stop i H ∧ D.nx σ H) ∨ (J.go i H ∧ ∃ N : St → Hp → Prop, (∀ σ' H', N σ' H' → ∃ m', m' < m ∧ W (i + 1) m' σ' H') ∧ ∀ x H', J.yld i H x H' → g x σ H' fun σ2 H2 => tb { D with nx := N, ct := N, bk := D.nx } σ2 H2)) : tFor wi g tb D σ H := h
end
/-! ### names that stand for built-in classes, for written numbers, for own classes -/
section
variable {X : Cx} {x : Str} {pos : Pos}
theorem pe_ty {T : String} (hm : X.mg x = none) (hv : bootBuiltins x = some (.type T)) (hg : Gl X x := by rfl) (hn : x ≠ "__name__" := by decide) (hd : (x == ("__debug__" : Str)) = false := by decide) : PE X (.Name x pos) (tC (.ty T)) := pe_bltn (v := .ty T) hg hm hv rfl hn hd
theorem pe_num {n : Int} (hm : ∃ t, X.mg x = some (.int n t)) (hg : Gl X x := by rfl) (hd : (x == ("__debug__" : Str)) = false := by decide) : PE X (.Name x pos) (tC (.int n)) := by
  obtain ⟨t, e⟩ := hm
  exact pe_glob (v := .int n) hg e ⟨t, rfl⟩ hd
theorem pe_ref {C : Addr} (hm : X.mg x = some (.ref C)) (hg : Gl X x := by rfl) (hd : (x == ("__debug__" : Str)) = false := by decide) : PE X (.Name x pos) (tC (.ref C)) := pe_glob (v := .ref C) hg hm rfl hd
end
/-! ### a def that keeps its promise, by its name -/
structure Df (P : Program) (w : World) (K : PySem.W.Frag) (mg : Str → Option Value) (base : Heap) (CX : CXT) (k : Nat) (x : Str) (ps : List Str) (sp : Sp) : Prop where
  ex : ∃ f fd, FnOk P w K mg base CX k f fd ps sp ∧ mg x = some (.ref f) ∧ PySem.W.keepIn K (.ref f) = true ∧ Binds K fd ps []
section
variable {X : Cx} {CX : CXT} {k : Nat} {x : Str} {ps : List Str} {sp : Sp} {E : XK} {p pos : Pos} {e : Expr} {es : List Expr} {t : TA}
theorem pe_df (d : Df X.prog X.w X.K X.mg X.base CX k x ps sp) (hr : Room k X.A) (hg : Gl X x) (hx : Passes CX X E) (ha : PA X (e :: es) t)
    (hdb : (x == ("__debug__" : Str)) = false := by decide) (he : starEach (e :: es) X.env = (false, eval e X.env) :: starEach es X.env := by rfl) (hpl : (backTo pos (starEach es X.env)).any (·.1) = false := by rfl) :
    PE X (.Call (.Name x p) (e :: es) [] pos) (tCall sp [] E t) := by
  obtain ⟨f, fd, F, hm, hk, hb⟩ := d.ex
  exact pe_call F hr hg hm hk hb .nil hx ha hdb he hpl
theorem pe_df0 (d : Df X.prog X.w X.K X.mg X.base CX k x ps sp) (hr : Room k X.A) (hg : Gl X x) (hx : Passes CX X E)
    (hdb : (x == ("__debug__" : Str)) = false := by decide) : PE X (.Call (.Name x p) [] [] pos) (tCall sp [] E tNil) := by
  obtain ⟨f, fd, F, hm, hk, hb⟩ := d.ex
  exact pe_call0 F hr hg hm hk hb .nil hx hdb
end
theorem units65 {k : Nat} {A : Around} (r : Room k A) : A.units + 65 < cLine := by have := r.un; omega
/-! ### lists read and written by place: xs[i] op= e -/
section
variable {X : Cx}
def rGetL (K : PySem.W.Frag) : R2 := fun x y H Q => ∃ p xs i v, x = .ref p ∧ y = .int i ∧ SqL K H p xs ∧ 0 ≤ i ∧ atI xs i = some v ∧ Q v H
theorem get_list : PGet X (rGetL X.K) := by
  intro pins s σ H o i ov iv Q I ro ri h
  obtain ⟨p, xs, k, z, rfl, rfl, hq, h0, he, q⟩ := h
  cases ro
  obtain ⟨t, rfl⟩ := ri
  obtain ⟨its, r, pl, hz⟩ := I.list hq
  obtain ⟨j, h1, h2, h3, h4, h5⟩ := atI_get he
  obtain ⟨w, ew, rw'⟩ := r.get h2
  have hl := r.length
  have hn := line63
  have hj : k.toNat = j := by
    rw [seqIndex_of h0 h5] at h1
    exact Option.some.inj h1
  exact wpAny_getItem_list pl.isList h0 (by omega) (by rw [hj]; simpa using ew) ⟨z, H, I, rw', q⟩
def rLen (K : PySem.W.Frag) : List V → Hp → VK → Prop := fun xs H Q => ∃ p ys, xs = [.ref p] ∧ (SqL K H p ys ∨ SqT K H p ys) ∧ Q (.int ys.length) H
theorem call_lenQ : CallR X (.builtin "len") (rLen X.K) := call_len_seq
def rListOf (K : PySem.W.Frag) : List V → Hp → VK → Prop := fun xs H Q => ∃ p ys, xs = [.ref p] ∧ (SqL K H p ys ∨ SqT K H p ys) ∧ ∀ l, H l = none → Q (.ref l) (upd H l (.lst ys))
theorem call_listQ : CallR X (.type "list") (rListOf X.K) := call_list_of
/-! ### order and equality of data -/
def rCmpD (K : PySem.W.Frag) (f : PyData → PyData → Bool) : R2 := fun x y H Q => ∃ d e, Dp K H x d ∧ Dp K H y e ∧ PySem.W.alike d e = true ∧ d ≠ .none ∧ min d.depth e.depth ≤ 60 ∧ Q (.bl (f d e)) H
theorem op_ltD (hu : X.A.units + 64 < cLine) : OpR X (compareOp .Lt) (rCmpD X.K fun d e => PySem.W.dataLt d e) := by
  intro pins s σ H x y v u Q I rx ry h
  obtain ⟨d, e, hd, he, al, nn, dp, q⟩ := h
  obtain ⟨as, r1⟩ := Dp.reads I d x v hd rx
  obtain ⟨bs, r2⟩ := Dp.reads I e y u he ry
  exact PySem.W.lt_data r1 r2 al nn (by omega) ⟨.bl _, H, I, rfl, q⟩
theorem op_gtD (hu : X.A.units + 64 < cLine) : OpR X (compareOp .Gt) (rCmpD X.K fun d e => PySem.W.dataLt e d) := by
  intro pins s σ H x y v u Q I rx ry h
  obtain ⟨d, e, hd, he, al, nn, dp, q⟩ := h
  obtain ⟨as, r1⟩ := Dp.reads I d x v hd rx
  obtain ⟨bs, r2⟩ := Dp.reads I e y u he ry
  exact PySem.W.gt_data r1 r2 al nn (by omega) ⟨.bl _, H, I, rfl, q⟩
theorem op_leD (hu : X.A.units + 64 < cLine) : OpR X (compareOp .LtE) (rCmpD X.K fun d e => !PySem.W.dataLt e d) := by
  intro pins s σ H x y v u Q I rx ry h
  obtain ⟨d, e, hd, he, al, nn, dp, q⟩ := h
  obtain ⟨as, r1⟩ := Dp.reads I d x v hd rx
  obtain ⟨bs, r2⟩ := Dp.reads I e y u he ry
  exact PySem.W.le_data r1 r2 al nn (by omega) ⟨.bl _, H, I, rfl, q⟩
/-! ### sorted -/
def rSortD (K : PySem.W.Frag) : List V → Hp → VK → Prop := fun vs H Q => ∃ (a : Addr) (bs : List (V × PyData)), vs = [.ref a] ∧ SqL K H a (bs.map (·.1)) ∧ (∀ b ∈ bs, Dp K H b.1 b.2) ∧
  PySem.W.AllAlike (bs.map (·.2)) ∧ PySem.W.Sortable (bs.map (·.2)) ∧ (∀ b ∈ bs, b.2.depth ≤ 60) ∧ ∀ p, H p = none → Q (.ref p) (upd H p (.lst ((bs.mergeSort (PySem.W.dataLe false (·.2))).map (·.1))))
theorem each_vals : ∀ {us : List Value} {bs : List (V × PyData)}, PySem.W.EachIs (fun (u : Value) (b : V × PyData) => L2.RelV b.1 u) us bs → Vals (bs.map (·.1)) us
  | _, _, .nil => .nil
  | _, _, .cons r t => .cons r (each_vals t)
theorem vals_each : ∀ {us : List Value} {bs : List (V × PyData)}, Vals (bs.map (·.1)) us → PySem.W.EachIs (fun (u : Value) (b : V × PyData) => L2.RelV b.1 u) us bs
  | _, [], .nil => .nil
  | _, _ :: _, .cons r t => .cons r (vals_each t)
theorem each_reads {R : Value → PyData → Prop} : ∀ {us : List Value} {bs : List (V × PyData)}, PySem.W.EachIs (fun (u : Value) (b : V × PyData) => L2.RelV b.1 u) us bs → (∀ b ∈ bs, ∀ u, L2.RelV b.1 u → R u b.2) → PySem.W.EachIs R us (bs.map (·.2))
  | _, _, .nil, _ => .nil
  | _, _, .cons r t, h => .cons (h _ List.mem_cons_self _ r) (each_reads t fun b hb => h b (List.mem_cons_of_mem _ hb))
theorem cr_sortD (hu : X.A.units + 64 < cLine) : CallR X (.builtin "sorted") (rSortD X.K) := by
  intro pins s σ H xs us Q I r h
  obtain ⟨a, bs, rfl, ha, hd, hal, hsk, hdep, q⟩ := h
  obtain ⟨u, rfl, ru⟩ := vals1 r
  obtain rfl : u = Value.ref a := ru
  obtain ⟨its, rv, ⟨o, n, e1, e2, e3, e4⟩, hz⟩ := I.list ha
  have hL : its.length ≤ sizeLine := by
    rw [← rv.length]
    exact hz
  have hE := vals_each rv
  have hR : PySem.W.EachIs (fun v d => ∃ as, Reads (PySem.W.sortingHeap (PySem.W.copyHeap s.heap its) (s.heap.objs.size + 1) its) v d as) its (bs.map (·.2)) :=
    each_reads hE fun b hb u ru => by
      obtain ⟨as, q1⟩ := Dp.reads I b.2 b.1 u (hd b hb) ru
      exact ⟨as, Reads.keeps (fun _ _ => PySem.W.sorting_copy_old) q1⟩
  have S := PySem.W.SortsAt.data (prog := X.prog) (w := X.w) (A := X.A.in1.in1) (s := { s with heap := PySem.W.sortingHeap (PySem.W.copyHeap s.heap its) (s.heap.objs.size + 1) its }) hR hal hsk (fun d hd' => by
    obtain ⟨b, hb, rfl⟩ := List.mem_map.mp hd'
    have := hdep b hb
    have e : X.A.in1.in1.units = X.A.units + 2 := rfl
    omega)
  have out := PySem.W.keyedOut_each (rev := false) (R := fun (u : Value) (b : V × PyData) => L2.RelV b.1 u) (bs := bs) (vs := its) (fun b => b.2) ⟨_, its, hal, rfl, hR⟩ hE
  refine PySem.W.sorted_vals ⟨o, e1, e2, n, e4⟩ S hL ?_
  obtain ⟨ep, he'⟩ := PyProof.Rows.sortedAll_at s.heap its (PySem.W.sortVals _ false its its).toArray
  have rv' := each_vals out
  have hlen : ((bs.mergeSort (PySem.W.dataLe false (·.2))).map (·.1)).length ≤ sizeLine := by
    rw [List.length_map, List.length_mergeSort]
    rw [List.length_map] at hz
    exact hz
  exact ⟨.ref _, upd H (s.heap.objs.size + 1) (.lst _), I.laid (t' := s.toks) (fun _ _ => PyProof.Rows.sortedAll_old) (Nat.le_succ _) ⟨hlen, _, ep, rv', he'⟩, rfl, q _ (I.hok.fresh (Nat.le_succ _))⟩
end
/-! ### loops by what is done -/
theorem take_succ_of {α : Type} {l : List α} {i : Nat} {z : α} (h : l[i]? = some z) : l.take (i + 1) = l.take i ++ [z] ∧ l = l.take i ++ z :: l.drop (i + 1) := by
  obtain ⟨hi, e⟩ := List.getElem?_eq_some_iff.mp h
  subst e
  refine ⟨by simp, ?_⟩
  rw [List.getElem_cons_drop, List.take_append_drop]
section
variable {α : Type} {K : PySem.W.Frag} {a : Addr} {g : TG} {tb : TS} {D : Ends} {σ : St} {H : Hp}
theorem rd_il {tl : TE} {R : It → Hp → Prop} (h : tl σ H fun x H1 => ∃ a, x = .ref a ∧ (∃ xs, SqL K H1 a xs) ∧ R (Itl K a) H1) : iList K tl σ H R := h
theorem rd_it {tl : TE} {R : It → Hp → Prop} (h : tl σ H fun x H1 => ∃ a, x = .ref a ∧ (∃ xs, SqT K H1 a xs) ∧ R (Itt K a) H1) : iTup K tl σ H R := h
theorem rd_ie {ta : TA} {R : It → Hp → Prop} (h : ta σ H fun vs H1 => ∃ a xs, vs = [.ref a] ∧ SqL K H1 a xs ∧ R (Ite K a) H1) : iEnum K ta σ H R := h
theorem rd_ir {ta : TA} {R : It → Hp → Prop} (h : ta σ H fun vs H1 => ∃ j : Int, vs = [.int j] ∧ -(2 ^ 62) ≤ j ∧ j < 2 ^ 62 ∧ R (Itr 0 j.toNat) H1) : iRng1 ta σ H R := h
theorem rd_ir2 {ta : TA} {R : It → Hp → Prop} (h : ta σ H fun vs H1 => ∃ i j : Int, vs = [.int i, .int j] ∧ (-(2 ^ 62) ≤ i ∧ i < 2 ^ 62 ∧ -(2 ^ 62) ≤ j ∧ j < 2 ^ 62) ∧ R (Itr i (j - i).toNat) H1) : iRng2 ta σ H R := h
theorem il_of {xs : List V} {R : It → Hp → Prop} (h : SqL K H a xs) (q : R (Itl K a) H) : ∃ b, V.ref a = V.ref b ∧ (∃ xs, SqL K H b xs) ∧ R (Itl K b) H := ⟨a, rfl, ⟨xs, h⟩, q⟩
theorem it_of {xs : List V} {R : It → Hp → Prop} (h : SqT K H a xs) (q : R (Itt K a) H) : ∃ b, V.ref a = V.ref b ∧ (∃ xs, SqT K H b xs) ∧ R (Itt K b) H := ⟨a, rfl, ⟨xs, h⟩, q⟩
theorem ie_of {xs : List V} {R : It → Hp → Prop} (h : SqL K H a xs) (q : R (Ite K a) H) : ∃ b ys, [V.ref a] = [V.ref b] ∧ SqL K H b ys ∧ R (Ite K b) H := ⟨a, xs, rfl, h, q⟩
theorem ir_of {j : Int} {R : It → Hp → Prop} (h1 : -(2 ^ 62) ≤ j) (h2 : j < 2 ^ 62) (q : R (Itr 0 j.toNat) H) : ∃ i : Int, [V.int j] = [V.int i] ∧ -(2 ^ 62) ≤ i ∧ i < 2 ^ 62 ∧ R (Itr 0 i.toNat) H := ⟨j, rfl, h1, h2, q⟩
theorem ir2_of {i j : Int} {R : It → Hp → Prop} (h : -(2 ^ 62) ≤ i ∧ i < 2 ^ 62 ∧ -(2 ^ 62) ≤ j ∧ j < 2 ^ 62) (q : R (Itr i (j - i).toNat) H) : ∃ i' j' : Int, [V.int i, V.int j] = [V.int i', V.int j'] ∧ (-(2 ^ 62) ≤ i' ∧ i' < 2 ^ 62 ∧ -(2 ^ 62) ≤ j' ∧ j' < 2 ^ 62) ∧ R (Itr i' (j' - i').toNat) H := ⟨i, j, rfl, h, q⟩
/-- over a list that the body leaves as it is: what is done, and what is left -/
theorem for_listP (f : α → V) (l : List α) (Pv : List α → St → Hp → Prop) (h0 : Pv [] σ H) (hl : ∀ dn σ H, Pv dn σ H → SqL K H a (l.map f))
    (hs : ∀ dn z rs σ H, l = dn ++ z :: rs → Pv dn σ H → g (f z) σ H fun σ2 H2 => tb { D with nx := Pv (dn ++ [z]), ct := Pv (dn ++ [z]), bk := D.nx } σ2 H2) (hd : ∀ σ H, Pv l σ H → D.nx σ H) :
    ∃ W : Nat → Nat → St → Hp → Prop, (∃ m, W 0 m σ H) ∧ ∀ i m σ H, W i m σ H →
      ((Itl K a).stop i H ∧ D.nx σ H) ∨ ((Itl K a).go i H ∧ ∃ N : St → Hp → Prop, (∀ σ' H', N σ' H' → ∃ m', m' < m ∧ W (i + 1) m' σ' H') ∧ ∀ x H', (Itl K a).yld i H x H' → g x σ H' fun σ2 H2 => tb { D with nx := N, ct := N, bk := D.nx } σ2 H2) := by
  refine for_list (xs := l.map f) (fun i σ H => Pv (l.take i) σ H) h0 (fun i σ H _ p => hl _ σ H p) (fun i x σ H hx p => ?_) (fun σ H p => hd σ H ?_)
  · rw [List.getElem?_map] at hx
    cases e : l[i]? with
    | none =>
      rw [e] at hx
      cases hx
    | some z =>
      rw [e] at hx
      obtain ⟨e1, e2⟩ := take_succ_of e
      have ex : x = f z := (Option.some.inj hx).symm
      subst ex
      have q := hs (l.take i) z (l.drop (i + 1)) σ H e2 p
      rw [← e1] at q
      exact q
  · rw [List.length_map, List.take_length] at p
    exact p
/-- [e for x in l], each item read by itself -/
theorem lc_mapP (f h : α → V) (l : List α) {te : TE} {vs : List Nat} {H1 : Hp} {R : Addr} {Qd : Hp → Prop} (nR : H1 R = none) (hl : SqL K H1 a (l.map f)) (hz : l.length ≤ sizeLine)
    (hs : ∀ z, z ∈ l → ∀ H, Same H1 H → ∀ Q' : VK, (∀ H3, Same H H3 → Q' (h z) H3) → g (f z) (wipe σ vs) H fun σ2 H2 => wipe σ2 vs = wipe σ vs ∧ te σ2 H2 Q')
    (hd : ∀ H, Same H1 H → H R = some (.lst (l.map h)) → Qd H) :
    ∃ W : Nat → Nat → Hp → Prop, (∃ m, W 0 m (upd H1 R (.lst []))) ∧ ∀ i m H, W i m H →
      ((Itl K a).stop i H ∧ Qd H) ∨ ((Itl K a).go i H ∧ ∃ Nx : Hp → Prop, (∀ H', Nx H' → ∃ m', m' < m ∧ W (i + 1) m' H') ∧ ∀ x H', (Itl K a).yld i H x H' → g x (wipe σ vs) H' fun σ2 H2 => wipe σ2 vs = wipe σ vs ∧ tYes σ2 H2 fun b H3 =>
        if b = true then te σ2 H3 fun y H4 => ∃ acc, H4 R = some (.lst acc) ∧ acc.length < sizeLine ∧ Nx (upd H4 R (.lst (acc ++ [y]))) else Nx H3) := by
  refine lc_list (xs := l.map f) (fun i H => Same H1 H ∧ H R = some (.lst ((l.take i).map h))) ⟨same_new nR, upd_same⟩ (fun i H _ p => same_l p.1 hl) (fun i x H hx p => ?_) (fun H p => hd H p.1 ?_)
  · obtain ⟨p1, p2⟩ := p
    rw [List.getElem?_map] at hx
    cases e : l[i]? with
    | none =>
      rw [e] at hx
      cases hx
    | some z =>
      rw [e] at hx
      obtain ⟨e1, e2⟩ := take_succ_of e
      have ex : x = f z := (Option.some.inj hx).symm
      subst ex
      have hm : z ∈ l := List.mem_of_getElem? e
      refine hs z hm H p1 _ fun H3 s3 => ?_
      refine ⟨_, s3 _ _ p2, ?_, ?_, ?_⟩
      · have hi := (List.getElem?_eq_some_iff.mp e).1
        rw [List.length_map, List.length_take]
        omega
      · exact same_mut (p1.trans s3) nR
      · rw [upd_same, e1, List.map_append]
        rfl
  · have q := p.2
    rw [List.length_map, List.take_length] at q
    exact q
end
/-! ### the shape of data -/
def Sh (n : Nat) (d : PyData) : Prop := d.canLay0 = true ∧ d.depth ≤ n
theorem lay_all : ∀ {ds : List PyData}, (∀ d ∈ ds, d.canLay0 = true) → PyData.canLayAll0 ds = true
  | [], _ => by simp only [PyData.canLayAll0]
  | d :: r, h => by
    simp only [PyData.canLayAll0, Bool.and_eq_true]
    exact ⟨h d List.mem_cons_self, lay_all fun x hx => h x (List.mem_cons_of_mem _ hx)⟩
theorem depth_all {n : Nat} : ∀ {ds : List PyData}, (∀ d ∈ ds, d.depth ≤ n) → PyData.depthAll ds ≤ n
  | [], _ => by simp only [PyData.depthAll]; exact Nat.zero_le _
  | d :: r, h => by
    simp only [PyData.depthAll]
    exact Nat.max_le.mpr ⟨h d List.mem_cons_self, depth_all fun x hx => h x (List.mem_cons_of_mem _ hx)⟩
theorem sh_int {n : Nat} {i : Int} : Sh n (.int i) := ⟨by simp only [PyData.canLay0], by simp only [PyData.depth]; exact Nat.zero_le _⟩
theorem sh_bool {n : Nat} {i : Bool} : Sh n (.bool i) := ⟨by simp only [PyData.canLay0], by simp only [PyData.depth]; exact Nat.zero_le _⟩
theorem sh_none {n : Nat} : Sh n .none := ⟨by simp only [PyData.canLay0], by simp only [PyData.depth]; exact Nat.zero_le _⟩
theorem sh_list {n : Nat} {ds : List PyData} (h : ∀ d ∈ ds, Sh n d) : Sh (n + 1) (.list ds) := ⟨by simp only [PyData.canLay0]; exact lay_all fun d hd => (h d hd).1, by simp only [PyData.depth]; exact Nat.succ_le_succ (depth_all fun d hd => (h d hd).2)⟩
theorem sh_tuple {n : Nat} {ds : List PyData} (h : ∀ d ∈ ds, Sh n d) : Sh (n + 1) (.tuple ds) := ⟨by simp only [PyData.canLay0]; exact lay_all fun d hd => (h d hd).1, by simp only [PyData.depth]; exact Nat.succ_le_succ (depth_all fun d hd => (h d hd).2)⟩
theorem sh_ints {n : Nat} (ns : List Int) : Sh (n + 1) (dI ns) := sh_list fun d hd => by
  obtain ⟨i, _, rfl⟩ := List.mem_map.mp hd
  exact sh_int
theorem shaped_of {n : Nat} {d : PyData} (h : Sh n d) (hn : n ≤ 64 := by decide) : SeqAt.shaped d = true := by
  unfold SeqAt.shaped
  simp only [Bool.and_eq_true, decide_eq_true_eq]
  exact ⟨h.1, Nat.le_trans h.2 hn⟩
theorem eqv_ints : ∀ ns ms : List Int, PyData.eqvAll (ns.map .int) (ms.map .int) = decide (ns = ms)
  | [], [] => by simp [PyData.eqvAll]
  | [], _ :: _ => by simp [PyData.eqvAll]
  | _ :: _, [] => by simp [PyData.eqvAll]
  | a :: r, b :: s => by
    simp only [List.map_cons, PyData.eqvAll, PyData.eqv, eqv_ints r s]
    by_cases h : a = b <;> by_cases h' : r = s <;> simp [h, h']
theorem eqv_dI (ns ms : List Int) : PyData.eqv (dI ns) (dI ms) = decide (ns = ms) := by
  unfold dI
  simp only [PyData.eqv]
  exact eqv_ints ns ms
/-! ### types of values -/
theorem tyx_list {K : PySem.W.Frag} {H : Hp} {a : Addr} {xs : List V} (h : SqL K H a xs) : TyX K H (.ref a) (.type "list") := by
  rcases h with (h | ⟨o, h⟩) | ⟨o, its, n, hk, hc, _⟩
  · exact .base (.lst h)
  · exact .base (.frz h)
  · exact .kList hk hc
theorem tyx_tuple {K : PySem.W.Frag} {H : Hp} {a : Addr} {xs : List V} (h : SqT K H a xs) : TyX K H (.ref a) (.type "tuple") := by
  rcases h with (h | ⟨o, h⟩) | ⟨o, its, n, hk, hc, _⟩
  · exact .base (.tup h)
  · exact .fTuple h
  · exact .kTuple hk hc
theorem kit_ll {K : PySem.W.Frag} : PySem.W.kitOne K (.type "list") (.type "list") = some true := kit_ty (by decide +kernel)
theorem kit_tl {K : PySem.W.Frag} : PySem.W.kitOne K (.type "tuple") (.type "list") = some false := kit_ty (by decide +kernel)
theorem kit_tt {K : PySem.W.Frag} : PySem.W.kitOne K (.type "tuple") (.type "tuple") = some true := kit_ty (by decide +kernel)
/-- what is known of a value: whether it is an int, a bool -/
def whV : V → Bool
  | .int _ => true
  | _ => false
def intV : V → Bool
  | .int _ => true
  | .bl _ => true
  | _ => false
def blV : V → Bool
  | .bl _ => true
  | _ => false
def Kn (K : PySem.W.Frag) (H : Hp) (x : V) : Prop := ∃ t, TyX K H x t ∧ PySem.W.kitOne K t (.type "int") = some (intV x) ∧ PySem.W.kitOne K t (.type "bool") = some (blV x)
theorem kn_int {K : PySem.W.Frag} {H : Hp} {i : Int} : Kn K H (.int i) := ⟨_, .base (.int i), kit_ty (show kitB "int" "int" = some true by decide +kernel), kit_ty (show kitB "int" "bool" = some false by decide +kernel)⟩
theorem same_ty {K : PySem.W.Frag} {H H' : Hp} {x : V} {t : Value} (s : Same H H') (h : TyX K H x t) : TyX K H' x t := by
  cases h with
  | base b =>
    refine .base ?_
    cases b with
    | non => exact .non
    | bl x => exact .bl x
    | int i => exact .int i
    | str x => exact .str x
    | flt x => exact .flt x
    | lst e => exact .lst (s _ _ e)
    | frz e => exact .frz (s _ _ e)
    | tup e => exact .tup (s _ _ e)
    | dK e => exact .dK (s _ _ e)
    | dT e => exact .dT (s _ _ e)
    | ins e cl ha hn htk hm => exact .ins (s _ _ e) cl ha hn htk hm
  | byt b => exact .byt b
  | set e => exact .set (s _ _ e)
  | kList e c => exact .kList e c
  | kTuple e c => exact .kTuple e c
  | kDict e c => exact .kDict e c
  | fTuple e => exact .fTuple (s _ _ e)
  | fDict e => exact .fDict (s _ _ e)
theorem same_kn {K : PySem.W.Frag} {H H' : Hp} {x : V} (s : Same H H') (h : Kn K H x) : Kn K H' x := let ⟨t, a, b⟩ := h; ⟨t, same_ty s a, b⟩
/-- an own exception class without an own __init__ -/
structure Exq (K : PySem.W.Frag) (mg : Str → Option Value) (n : Str) (C : Addr) : Prop where
  x : PySem.W.excIn K C [.type "ValueError", .type "Exception", .type "BaseException", .type "object"] "ValueError.__new__" = true
  g : mg n = some (.ref C)
  kp : PySem.W.keepIn K (.ref C) = true
  b : PySem.W.subIn K (.ref C) (.type "BaseException") = some true
  t : PySem.W.typeIn K (.ref C) = some (.type "type")
/-- no built-in's name is bound by the text -/
structure Bn (mg : Str → Option Value) : Prop where
  n_isinstance : mg "isinstance" = none
  n_int : mg "int" = none
  n_bool : mg "bool" = none
  n_list : mg "list" = none
  n_tuple : mg "tuple" = none
  n_len : mg "len" = none
  n_all : mg "all" = none
  n_any : mg "any" = none
  n_sum : mg "sum" = none
  n_sorted : mg "sorted" = none
  n_range : mg "range" = none
  n_enumerate : mg "enumerate" = none
  n_max : mg "max" = none
  n_min : mg "min" = none
  n_abs : mg "abs" = none
  n_dict : mg "dict" = none
  n_str : mg "str" = none
  n_set : mg "set" = none
/-! ### how often each comes: a dict of ints -/
def allS (one other : List Int) : List Int := one.flatMap fun m => other.map fun t => m + t
def putN (c : List (Int × Int)) (k v : Int) : List (Int × Int) := if c.any (fun p => decide (p.1 = k)) then c.map (fun p => if p.1 = k then (p.1, v) else p) else c ++ [(k, v)]
def findN (c : List (Int × Int)) (k : Int) : Option Int := (c.find? (fun p => decide (p.1 = k))).map (·.2)
def getN (c : List (Int × Int)) (k : Int) : Int := (findN c k).getD 0
def tallyF (c : List (Int × Int)) (l : List Int) : List (Int × Int) := l.foldl (fun c k => putN c k (getN c k + 1)) c
def tally (l : List Int) : List (Int × Int) := tallyF [] l
def kvs (c : List (Int × Int)) : List (L2.Key × V) := c.map fun p => (Sum.inl p.1, V.int p.2)
theorem valV_kvs (c : List (Int × Int)) (k : Int) : valV (kvs c) (Sum.inl k) = (findN c k).map V.int := by
  induction c with
  | nil => rfl
  | cons p r ih =>
    by_cases h : p.1 = k
    · have e : valV (kvs (p :: r)) (Sum.inl k) = some (V.int p.2) := valV_pos (show (Sum.inl p.1 : L2.Key) = Sum.inl k by rw [h])
      rw [e]
      simp [findN, List.find?_cons, h]
    · have e : valV (kvs (p :: r)) (Sum.inl k) = valV (kvs r) (Sum.inl k) := valV_neg (fun z => h (Sum.inl.inj z))
      rw [e, ih]
      simp [findN, List.find?_cons, h]
theorem getD_kvs (c : List (Int × Int)) (k : Int) : (valV (kvs c) (Sum.inl k)).getD (.int 0) = .int (getN c k) := by
  rw [valV_kvs, getN]
  cases findN c k <;> rfl
theorem put_kvs (c : List (Int × Int)) (k v : Int) : putK (kvs c) (Sum.inl k) (.int v) = kvs (putN c k v) := by
  have ea : ((kvs c).any fun kv => decide (kv.1 = Sum.inl k)) = c.any fun p => decide (p.1 = k) := by
    unfold kvs
    rw [List.any_map]
    congr 1
    funext p
    simp
  unfold putK putN
  rw [ea]
  by_cases h : (c.any fun p => decide (p.1 = k)) = true
  · rw [if_pos h, if_pos h]
    unfold kvs
    rw [List.map_map, List.map_map]
    congr 1
    funext p
    simp only [Function.comp]
    by_cases e : p.1 = k
    · rw [if_pos e, if_pos (by rw [e])]
    · rw [if_neg e, if_neg (fun z => e (Sum.inl.inj z))]
  · rw [if_neg h, if_neg h]
    unfold kvs
    rw [List.map_append]
    rfl
theorem put_len (c : List (Int × Int)) (k v : Int) : (putN c k v).length ≤ c.length + 1 := by
  unfold putN
  split
  · rw [List.length_map]
    omega
  · rw [List.length_append]
    exact Nat.le_refl _
theorem tallyF_len : ∀ (l : List Int) (c : List (Int × Int)), (tallyF c l).length ≤ c.length + l.length
  | [], c => Nat.le_refl _
  | k :: r, c => by
    have h := tallyF_len r (putN c k (getN c k + 1))
    have h2 := put_len c k (getN c k + 1)
    show (tallyF (putN c k (getN c k + 1)) r).length ≤ c.length + (r.length + 1)
    omega
theorem tallyF_app (c : List (Int × Int)) (l m : List Int) : tallyF c (l ++ m) = tallyF (tallyF c l) m := List.foldl_append
theorem allS_app (l m o : List Int) : allS (l ++ m) o = allS l o ++ allS m o := List.flatMap_append
theorem allS_one (m : Int) (o : List Int) : allS [m] o = o.map fun t => m + t := by simp [allS]
theorem allS_len (l o : List Int) : (allS l o).length = l.length * o.length := by
  induction l with
  | nil => simp [allS]
  | cons m r ih =>
    have e : allS (m :: r) o = o.map (fun t => m + t) ++ allS r o := rfl
    rw [e, List.length_append, List.length_map, ih, List.length_cons, Nat.add_mul, Nat.one_mul, Nat.add_comm]
/-! ### what the top has left: defs by their names -/
def DefIn (K : PySem.W.Frag) (x q : Str) (st : Stmt) (f : Addr) : Prop := ∃ (oc : Value) (od : Option Addr) (kV dc pm : Value) (an : Option Addr) (cd ct : Value) (sl : Array (Option Value)),
  K.lookup f = some ⟨oc, od, .func (PySem.W.fnOf x q (defArgs st) (defBody st) (defScope st) .none kV dc pm an cd ct), sl⟩ ∧ PySem.W.codeIn K cd q = true ∧ PySem.W.keepIn K (.ref f) = true
theorem defIn_of {K : PySem.W.Frag} {x q : Str} {st : Stmt} {f : Addr} {oc : Value} {od : Option Addr} {kV dc pm : Value} {an : Option Addr} {cd ct : Value} {sl : Array (Option Value)}
    (l : K.lookup f = some ⟨oc, od, .func (PySem.W.fnOf x q (defArgs st) (defBody st) (defScope st) .none kV dc pm an cd ct), sl⟩) (c : PySem.W.codeIn K cd q = true) (k : PySem.W.keepIn K (.ref f) = true) : DefIn K x q st f := ⟨oc, od, kV, dc, pm, an, cd, ct, sl, l, c, k⟩
theorem const_of {K : PySem.W.Frag} {x : Str} {n : Int} {t : Tok} (h : PySem.W.nsIn K mainGlobals x = some (some (.int n t))) : ∃ t, PySem.W.nsIn K mainGlobals x = some (some (.int n t)) := ⟨t, h⟩
theorem df_mk {P : Program} {w : World} {K : PySem.W.Frag} {mg : Str → Option Value} {base : Heap} {CX : CXT} {k : Nat} {x : Str} {st : Stmt} {f : Addr} {ps : List Str} {sp : Sp} (d : DefIn K x x st f) (g : mg x = some (.ref f))
    (bd : ∀ (kV doc pm : Value) (an : Option Addr) (cdv ct : Value) (us : List Value), us.length = ps.length → bindArgs (PySem.W.fnOf x x (defArgs st) (defBody st) (defScope st) .none kV doc pm an cdv ct) ⟨us, []⟩ = pure (ps.zip us))
    (ok : ∀ fd, Fun K x x st f fd → FnOk P w K mg base CX k f fd ps sp) : Df P w K mg base CX k x ps sp := by
  obtain ⟨oc, od, kV, dc, pm, an, cd, ct, sl, h1, h2, h3⟩ := d
  have F := fun_mk (st := st) h1 h2 h3
  exact ⟨f, _, ok _ F, g, h3, F.binds bd⟩
end Tw

set_option Elab.async false
set_option linter.all false
set_option maxRecDepth 100000
set_option maxHeartbeats 4000000
/-! Twindice: order of data, sorted lists (plain) -/
namespace Tw
open PySem PySem.Spec PyProof.Rows L2
/-! ### sorting -/
section
variable {α β : Type}
def ins1 (le : α → α → Bool) (x : α) : List α → List α
  | [] => [x]
  | y :: r => if le x y = true then x :: y :: r else y :: ins1 le x r
def isort (le : α → α → Bool) : List α → List α
  | [] => []
  | x :: r => ins1 le x (isort le r)
theorem ins1_perm (le : α → α → Bool) (x : α) : ∀ l : List α, (ins1 le x l).Perm (x :: l)
  | [] => .refl _
  | y :: r => by
    unfold ins1
    split
    · exact .refl _
    · exact ((ins1_perm le x r).cons y).trans (.swap x y r)
theorem isort_perm (le : α → α → Bool) : ∀ l : List α, (isort le l).Perm l
  | [] => .refl _
  | x :: r => (ins1_perm le x _).trans ((isort_perm le r).cons x)
theorem ins1_sorted {le : α → α → Bool} (tr : ∀ a b c, le a b = true → le b c = true → le a c = true) (tot : ∀ a b, le a b = true ∨ le b a = true) (x : α) : ∀ l : List α, l.Pairwise (fun a b => le a b = true) → (ins1 le x l).Pairwise (fun a b => le a b = true)
  | [], _ => by
    unfold ins1
    exact List.pairwise_singleton _ _
  | y :: r, h => by
    unfold ins1
    have h' := List.pairwise_cons.mp h
    split
    · rename_i e
      refine List.pairwise_cons.mpr ⟨fun z hz => ?_, h⟩
      rcases List.mem_cons.mp hz with rfl | hz
      · exact e
      · exact tr _ _ _ e (h'.1 z hz)
    · rename_i e
      refine List.pairwise_cons.mpr ⟨fun z hz => ?_, ins1_sorted tr tot x r h'.2⟩
      rcases List.mem_cons.mp ((ins1_perm le x r).mem_iff.mp hz) with rfl | hz
      · exact (tot z y).resolve_left e
      · exact h'.1 z hz
theorem isort_sorted {le : α → α → Bool} (tr : ∀ a b c, le a b = true → le b c = true → le a c = true) (tot : ∀ a b, le a b = true ∨ le b a = true) : ∀ l : List α, (isort le l).Pairwise (fun a b => le a b = true)
  | [] => .nil
  | x :: r => ins1_sorted tr tot x _ (isort_sorted tr tot r)
/-- a total order -/
structure TotO (le : α → α → Bool) : Prop where
  tr : ∀ a b c, le a b = true → le b c = true → le a c = true
  tot : ∀ a b, le a b = true ∨ le b a = true
  anti : ∀ a b, le a b = true → le b a = true → a = b
theorem TotO.uniq {le : α → α → Bool} (o : TotO le) {l m : List α} (h : l.Perm m) (hs : l.Pairwise (fun a b => le a b = true)) : l = isort le m :=
  (h.trans (isort_perm le m).symm).eq_of_pairwise (fun a b _ _ h1 h2 => o.anti a b h1 h2) hs (isort_sorted o.tr o.tot m)
theorem TotO.merge {le : α → α → Bool} (o : TotO le) (l : List α) : l.mergeSort le = isort le l :=
  o.uniq (List.mergeSort_perm l le) (List.pairwise_mergeSort o.tr (fun a b => by
    rcases o.tot a b with h | h <;> simp [h]) l)
theorem TotO.perm {le : α → α → Bool} (o : TotO le) {l m : List α} (h : l.Perm m) : isort le l = isort le m := o.uniq ((isort_perm le l).trans h) (isort_sorted o.tr o.tot l)
end
/-! ### the order of data -/
theorem lt_tcons {x y : PyData} {xs ys : List PyData} (h : PySem.W.alike x y = true) : PySem.W.dataLt (.tuple (x :: xs)) (.tuple (y :: ys)) = if PyData.eqv x y = true then PySem.W.dataLt (.tuple xs) (.tuple ys) else PySem.W.dataLt x y := by
  by_cases e : PyData.eqv x y = true
  · rw [if_pos e, PySem.W.dataLt_tuple, PySem.W.dataLt_tuple, PySem.W.dataLt_all_yes h e]
  · rw [if_neg e, PySem.W.dataLt_tuple, PySem.W.dataLt_all_no h (by simpa using e)]
theorem lt_lcons {x y : PyData} {xs ys : List PyData} (h : PySem.W.alike x y = true) : PySem.W.dataLt (.list (x :: xs)) (.list (y :: ys)) = if PyData.eqv x y = true then PySem.W.dataLt (.list xs) (.list ys) else PySem.W.dataLt x y := by
  by_cases e : PyData.eqv x y = true
  · rw [if_pos e, PySem.W.dataLt_list, PySem.W.dataLt_list, PySem.W.dataLt_all_yes h e]
  · rw [if_neg e, PySem.W.dataLt_list, PySem.W.dataLt_all_no h (by simpa using e)]
theorem lt_self (d : PyData) : PySem.W.dataLt d d = false := (PyProof.Rows.listOrd PyProof.Rows.itemOrd).irrefl (PySem.W.keyToks d)
def ltL : List Int → List Int → Bool
  | [], [] => false
  | [], _ :: _ => true
  | _ :: _, [] => false
  | x :: xs, y :: ys => if x = y then ltL xs ys else decide (x < y)
theorem lt_nil_cons {y : PyData} {ys : List PyData} : PySem.W.dataLt (.list []) (.list (y :: ys)) = true := by
  rw [PySem.W.dataLt_list, PySem.W.toks_all_cons]
  simp only [PySem.W.keyToksAll]
  rw [PySem.W.lex_atom (by decide), PySem.W.lex_one]
  decide
theorem lt_cons_nil {y : PyData} {ys : List PyData} : PySem.W.dataLt (.list (y :: ys)) (.list []) = false := by
  rw [PySem.W.dataLt_list, PySem.W.toks_all_cons]
  simp only [PySem.W.keyToksAll]
  rw [PySem.W.lex_atom (by decide), PySem.W.lex_one]
  decide
theorem alike_ints : ∀ xs ys : List Int, PySem.W.alikeAll (xs.map .int) (ys.map .int) = true
  | [], _ => by simp [PySem.W.alikeAll]
  | _ :: _, [] => by simp [PySem.W.alikeAll]
  | x :: xs, y :: ys => by simp only [List.map_cons, PySem.W.alikeAll, PySem.W.alike, alike_ints xs ys, Bool.and_self]
theorem alike_dI (xs ys : List Int) : PySem.W.alike (dI xs) (dI ys) = true := by
  unfold dI
  simp only [PySem.W.alike]
  exact alike_ints xs ys
theorem eqv_int (i j : Int) : PyData.eqv (.int i) (.int j) = decide (i = j) := by
  simp only [PyData.eqv]
  by_cases h : i = j <;> simp [h]
theorem lt_dI : ∀ xs ys : List Int, PySem.W.dataLt (dI xs) (dI ys) = ltL xs ys
  | [], [] => lt_self _
  | [], _ :: _ => lt_nil_cons
  | _ :: _, [] => lt_cons_nil
  | x :: xs, y :: ys => by
    have h : PySem.W.alike (.int x) (.int y) = true := by simp only [PySem.W.alike]
    have e : PySem.W.dataLt (dI (x :: xs)) (dI (y :: ys)) = _ := lt_lcons (xs := xs.map .int) (ys := ys.map .int) h
    rw [e, eqv_int, PySem.W.dataLt_int]
    unfold ltL
    by_cases z : x = y
    · rw [decide_eq_true z, if_pos rfl, if_pos z]
      exact lt_dI xs ys
    · rw [decide_eq_false z, if_neg Bool.false_ne_true, if_neg z]
/-! pairs of ints -/
def dP (q : Int × Int) : PyData := .tuple [.int q.1, .int q.2]
def leP (a b : Int × Int) : Bool := if a.1 = b.1 then decide (a.2 ≤ b.2) else decide (a.1 < b.1)
theorem leP_tot : TotO leP where
  tr a b c h1 h2 := by
    unfold leP at *
    split at h1 <;> split at h2 <;> split <;> simp only [decide_eq_true_eq] at * <;> omega
  tot a b := by
    unfold leP
    split <;> split <;> simp only [decide_eq_true_eq] <;> omega
  anti a b h1 h2 := by
    unfold leP at *
    split at h1 <;> split at h2 <;> simp only [decide_eq_true_eq] at *
    · exact Prod.ext (by assumption) (by omega)
    all_goals omega
theorem le_dP (a b : Int × Int) : (!PySem.W.dataLt (dP b) (dP a)) = leP a b := by
  have h1 : PySem.W.alike (.int b.1) (.int a.1) = true := by simp only [PySem.W.alike]
  have h2 : PySem.W.alike (.int b.2) (.int a.2) = true := by simp only [PySem.W.alike]
  unfold dP
  rw [lt_tcons h1, lt_tcons h2, eqv_int, eqv_int, PySem.W.dataLt_int, PySem.W.dataLt_int, lt_self]
  unfold leP
  by_cases z : b.1 = a.1
  · rw [decide_eq_true z, if_pos rfl, if_pos z.symm]
    by_cases z2 : b.2 = a.2
    · simp [z2]
    · rw [decide_eq_false z2, if_neg Bool.false_ne_true]
      by_cases z3 : b.2 < a.2
      · rw [decide_eq_true z3, decide_eq_false (by omega)]
        rfl
      · rw [decide_eq_false z3, decide_eq_true (by omega)]
        rfl
  · rw [decide_eq_false z, if_neg Bool.false_ne_true, if_neg (fun e => z e.symm)]
    by_cases z3 : b.1 < a.1
    · rw [decide_eq_true z3, decide_eq_false (by omega)]
      rfl
    · rw [decide_eq_false z3, decide_eq_true (by omega)]
      rfl
/-! ### sorted, by types -/
/-- data of one kind that can be sorted: how they are written, their order -/
structure Srt {δ : Type} (enc : δ → PyData) (le : δ → δ → Bool) : Prop where
  al : ∀ x y, PySem.W.alike (enc x) (enc y) = true
  sk : (∀ x, ∃ u r, enc x = .tuple (u :: r)) ∨ ∀ x, enc x ≠ .none ∧ ∀ xs, enc x ≠ .tuple xs
  dep : ∀ x, (enc x).depth ≤ 60
  ord : ∀ x y, (!PySem.W.dataLt (enc y) (enc x)) = le x y
  o : TotO le
theorem rd_sortT {δ : Type} {enc : δ → PyData} {le : δ → δ → Bool} (S : Srt enc le) {K : PySem.W.Frag} {H : Hp} {Q : VK} {a : Addr} (zs : List (V × δ)) (hs : SqL K H a (zs.map (·.1))) (hd : ∀ z ∈ zs, Dp K H z.1 (enc z.2))
    (q : ∀ (p : Addr) (zs' : List (V × δ)), H p = none → zs'.Perm zs → zs'.map (·.2) = isort le (zs.map (·.2)) → Q (.ref p) (upd H p (.lst (zs'.map (·.1))))) : rSortD K [.ref a] H Q := by
  refine ⟨a, zs.map fun z => (z.1, enc z.2), rfl, ?_, ?_, ?_, ?_, ?_, fun p np => ?_⟩
  · rw [List.map_map]
    exact hs
  · intro b hb
    obtain ⟨z, hz, rfl⟩ := List.mem_map.mp hb
    exact hd z hz
  · intro d hd d' hd'
    rw [List.map_map] at hd hd'
    obtain ⟨z, _, rfl⟩ := List.mem_map.mp hd
    obtain ⟨z', _, rfl⟩ := List.mem_map.mp hd'
    exact S.al _ _
  · rw [List.map_map]
    rcases S.sk with h | h
    · left
      intro d hd
      obtain ⟨z, _, rfl⟩ := List.mem_map.mp hd
      exact h _
    · right
      intro d hd
      obtain ⟨z, _, rfl⟩ := List.mem_map.mp hd
      exact h _
  · intro b hb
    obtain ⟨z, hz, rfl⟩ := List.mem_map.mp hb
    exact S.dep _
  · have e : (zs.map fun z => (z.1, enc z.2)).mergeSort (PySem.W.dataLe false (·.2)) = (zs.mergeSort fun a b => le a.2 b.2).map fun z => (z.1, enc z.2) := by
      refine (List.map_mergeSort fun a _ b _ => ?_).symm
      exact (S.ord a.2 b.2).symm
    rw [e, List.map_map]
    refine q p _ np (List.mergeSort_perm _ _) ?_
    rw [← S.o.merge]
    exact List.map_mergeSort fun a _ b _ => rfl
theorem srt_dP : Srt dP leP where
  al x y := by simp only [dP, PySem.W.alike, PySem.W.alikeAll, Bool.and_self]
  sk := .inl fun x => ⟨_, _, rfl⟩
  dep x := by simp only [dP, PyData.depth, PyData.depthAll]; decide
  ord := le_dP
  o := leP_tot
theorem srt_int : Srt PyData.int (fun a b : Int => decide (a ≤ b)) where
  al x y := by simp only [PySem.W.alike]
  sk := .inr fun x => ⟨(fun h => by cases h), (fun _ h => by cases h)⟩
  dep x := by simp only [PyData.depth]; decide
  ord x y := by
    rw [PySem.W.dataLt_int]
    by_cases h : y < x
    · rw [decide_eq_true h, decide_eq_false (by omega)]
      rfl
    · rw [decide_eq_false h, decide_eq_true (by omega)]
      rfl
  o := { tr := fun a b c h1 h2 => by simp only [decide_eq_true_eq] at *; omega, tot := fun a b => by simp only [decide_eq_true_eq]; omega, anti := fun a b h1 h2 => by simp only [decide_eq_true_eq] at *; omega }
/-! ### sizes of great ints -/
def Bd (n : Nat) (x : Int) : Prop := x.natAbs < 2 ^ n
theorem Bd.mono {n m : Nat} {x : Int} (h : Bd n x) (l : n ≤ m) : Bd m x := Nat.lt_of_lt_of_le h (Nat.pow_le_pow_right (by decide) l)
theorem Bd.add {n : Nat} {x y : Int} (h : Bd n x) (h' : Bd n y) : Bd (n + 1) (x + y) := by
  unfold Bd at *
  rw [Nat.pow_succ]
  have := Int.natAbs_add_le x y
  omega
theorem Bd.mul {n m : Nat} {x y : Int} (h : Bd n x) (h' : Bd m y) : Bd (n + m) (x * y) := wide_lt h h'
theorem Bd.mulx {n m : Nat} {x y : Int} (h : Bd n x) (h' : Bd m y) (l : n + m ≤ 134217728) : CMulX x y := mulx_ok h h' l
theorem Bd.of_bits {n : Nat} {x : Int} (h : Builtin.Int.intBits x ≤ n) : Bd n x := by
  unfold Builtin.Int.intBits at h
  unfold Bd
  by_cases e : x = 0
  · subst e
    exact Nat.pow_pos (by decide)
  · have e' : (x == 0) = false := by simpa using e
    rw [e'] at h
    have h1 : x.natAbs < 2 ^ (x.natAbs.log2 + 1) := Nat.lt_log2_self
    exact Nat.lt_of_lt_of_le h1 (Nat.pow_le_pow_right (by decide) h)
theorem bd_sum {n : Nat} : ∀ l : List Int, (∀ x ∈ l, Bd n x) → Bd (n + l.length) l.sum
  | [], _ => by
    unfold Bd
    exact Nat.pow_pos (by decide)
  | x :: r, h => by
    rw [List.sum_cons]
    have h1 := bd_sum r fun y hy => h y (List.mem_cons_of_mem _ hy)
    exact Bd.add ((h x List.mem_cons_self).mono (Nat.le_add_right _ _)) h1
/-! ### slices -/
theorem cut_to (xs : List V) (k : Nat) : cutV xs none (some (k : Int)) = xs.take k := by
  unfold cutV
  rw [HT.sIx_nat, HT.sIx_none, Nat.sub_zero, List.drop_zero]
  exact (List.take_eq_take_min).symm
end Tw

set_option Elab.async false
set_option linter.all false
set_option maxRecDepth 100000
set_option maxHeartbeats 4000000
/-! Twindice: counts of sums (plain) -/
namespace Tw
open PySem L2
theorem findN_inj {c : List (Int × Int)} {k : Int} {o : Option Int} (h : valV (kvs c) (Sum.inl k) = o.map V.int) : findN c k = o := by
  rw [valV_kvs] at h
  cases e : findN c k <;> cases o <;> rw [e] at h <;> simp_all
theorem findN_put (c : List (Int × Int)) (k j v : Int) : findN (putN c k v) j = if j = k then some v else findN c j := by
  apply findN_inj
  rw [← put_kvs, valV_put, valV_kvs]
  by_cases h : j = k
  · subst h
    simp
  · rw [if_neg (fun z => h (Sum.inl.inj z)), if_neg h]
theorem any_key (c : List (Int × Int)) (k : Int) : (c.any fun p => decide (p.1 = k)) = true ↔ k ∈ c.map (·.1) := by
  rw [List.any_eq_true, List.mem_map]
  constructor
  · rintro ⟨p, hp, e⟩
    exact ⟨p, hp, of_decide_eq_true e⟩
  · rintro ⟨p, hp, e⟩
    exact ⟨p, hp, decide_eq_true e⟩
theorem keys_put (c : List (Int × Int)) (k v : Int) : (putN c k v).map (·.1) = if k ∈ c.map (·.1) then c.map (·.1) else c.map (·.1) ++ [k] := by
  unfold putN
  by_cases h : (c.any fun p => decide (p.1 = k)) = true
  · rw [if_pos h, if_pos ((any_key c k).mp h), List.map_map]
    congr 1
    funext p
    simp only [Function.comp]
    split <;> rfl
  · rw [if_neg h, if_neg (fun z => h ((any_key c k).mpr z)), List.map_append]
    rfl
theorem nodup_put {c : List (Int × Int)} (h : (c.map (·.1)).Nodup) (k v : Int) : ((putN c k v).map (·.1)).Nodup := by
  rw [keys_put]
  split
  · exact h
  · rename_i hk
    refine List.nodup_append.mpr ⟨h, List.pairwise_singleton _ _, ?_⟩
    intro a ha b hb e
    rw [List.mem_singleton] at hb
    subst hb
    subst e
    exact hk ha
theorem tally_snoc (l : List Int) (k : Int) : tally (l ++ [k]) = putN (tally l) k (getN (tally l) k + 1) := by
  unfold tally
  rw [tallyF_app]
  rfl
theorem rev_ind {α : Type} {p : List α → Prop} (h0 : p []) (hs : ∀ l x, p l → p (l ++ [x])) (l : List α) : p l := by
  have h : ∀ m : List α, p m.reverse := fun m => by
    induction m with
    | nil => exact h0
    | cons x r ih =>
      rw [List.reverse_cons]
      exact hs _ x ih
  have := h l.reverse
  rwa [List.reverse_reverse] at this
theorem tally_nodup (l : List Int) : ((tally l).map (·.1)).Nodup := by
  induction l using rev_ind with
  | h0 => exact List.nodup_nil
  | hs l x ih =>
    rw [tally_snoc]
    exact nodup_put ih x _
theorem findN_tally (l : List Int) (k : Int) : findN (tally l) k = if k ∈ l then some (l.count k : Int) else none := by
  induction l using rev_ind with
  | h0 => simp [tally, tallyF, findN]
  | hs l x ih =>
    rw [tally_snoc, findN_put]
    by_cases h : k = x
    · subst h
      rw [if_pos rfl, if_pos (by simp), getN, ih, List.count_append]
      by_cases hk : k ∈ l
      · rw [if_pos hk]
        simp
      · rw [if_neg hk, List.count_eq_zero_of_not_mem hk]
        simp
    · rw [if_neg h, ih, List.count_append]
      have e : (x == k) = false := by simpa using fun z => h z.symm
      by_cases hk : k ∈ l
      · rw [if_pos hk, if_pos (List.mem_append_left _ hk)]
        simp [List.count_singleton, e]
      · rw [if_neg hk, if_neg (by
          intro z
          rcases List.mem_append.mp z with z | z
          · exact hk z
          · exact h (List.mem_singleton.mp z))]
/-- how often a sum comes -/
theorem getN_tally (l : List Int) (k : Int) : getN (tally l) k = l.count k := by
  rw [getN, findN_tally]
  by_cases h : k ∈ l
  · rw [if_pos h]
    rfl
  · rw [if_neg h, List.count_eq_zero_of_not_mem h]
    rfl
theorem mem_find : ∀ {c : List (Int × Int)}, (c.map (·.1)).Nodup → ∀ p : Int × Int, p ∈ c ↔ findN c p.1 = some p.2
  | [], _, p => by simp [findN]
  | q :: r, h, p => by
    rw [List.map_cons, List.nodup_cons] at h
    by_cases e : q.1 = p.1
    · have e2 : findN (q :: r) p.1 = some q.2 := by simp [findN, List.find?_cons, e]
      rw [e2]
      constructor
      · intro hp
        rcases List.mem_cons.mp hp with rfl | hp
        · rfl
        · exact absurd (by rw [e]; exact List.mem_map.mpr ⟨p, hp, rfl⟩) h.1
      · intro z
        have : q = p := Prod.ext e (Option.some.inj z)
        rw [this]
        exact List.mem_cons_self
    · have e2 : findN (q :: r) p.1 = findN r p.1 := by simp [findN, List.find?_cons, e]
      rw [e2, ← mem_find h.2 p]
      constructor
      · intro hp
        rcases List.mem_cons.mp hp with rfl | hp
        · exact absurd rfl e
        · exact hp
      · exact fun hp => List.mem_cons_of_mem _ hp
theorem nodup_of_keys : ∀ {c : List (Int × Int)}, (c.map (·.1)).Nodup → c.Nodup
  | [], _ => List.nodup_nil
  | q :: r, h => by
    rw [List.map_cons, List.nodup_cons] at h
    exact List.nodup_cons.mpr ⟨fun z => h.1 (List.mem_map.mpr ⟨q, z, rfl⟩), nodup_of_keys h.2⟩
theorem tally_perm {l m : List Int} (h : l.Perm m) : (tally l).Perm (tally m) := by
  refine (List.perm_ext_iff_of_nodup (nodup_of_keys (tally_nodup l)) (nodup_of_keys (tally_nodup m))).mpr fun p => ?_
  rw [mem_find (tally_nodup l), mem_find (tally_nodup m), findN_tally, findN_tally, h.count_eq]
  simp only [h.mem_iff]
theorem sum_put : ∀ {c : List (Int × Int)}, (c.map (·.1)).Nodup → ∀ k v, ((putN c k v).map (·.2)).sum = (c.map (·.2)).sum - getN c k + v
  | [], _, k, v => by simp [putN, getN, findN]
  | q :: r, h, k, v => by
    rw [List.map_cons, List.nodup_cons] at h
    have ih := sum_put h.2 k v
    by_cases e : q.1 = k
    · have hk : ¬ k ∈ r.map (·.1) := by
        rw [← e]
        exact h.1
      have e1 : putN (q :: r) k v = (q.1, v) :: r := by
        unfold putN
        rw [if_pos (by simp [e]), List.map_cons, if_pos e]
        congr 1
        conv => rhs; rw [← List.map_id r]
        refine List.map_congr_left fun p hp => ?_
        rw [if_neg (fun z => hk (List.mem_map.mpr ⟨p, hp, z⟩))]
        rfl
      have e2 : getN (q :: r) k = q.2 := by simp [getN, findN, List.find?_cons, e]
      rw [e1, e2, List.map_cons, List.map_cons, List.sum_cons, List.sum_cons]
      omega
    · have e1 : putN (q :: r) k v = q :: putN r k v := by
        unfold putN
        have ea : ((q :: r).any fun p => decide (p.1 = k)) = r.any fun p => decide (p.1 = k) := by simp [e]
        rw [ea]
        split
        · rw [List.map_cons, if_neg e]
        · rfl
      have e2 : getN (q :: r) k = getN r k := by simp [getN, findN, List.find?_cons, e]
      rw [e1, e2, List.map_cons, List.map_cons, List.sum_cons, List.sum_cons, ih]
      omega
theorem tally_sum (l : List Int) : ((tally l).map (·.2)).sum = l.length := by
  induction l using rev_ind with
  | h0 => rfl
  | hs l x ih =>
    rw [tally_snoc, sum_put (tally_nodup l), ih, List.length_append, List.length_singleton]
    omega
theorem allS_nil : ∀ l : List Int, allS l [] = []
  | [] => rfl
  | m :: r => by
    show ([] : List Int) ++ allS r [] = []
    rw [allS_nil r]
    rfl
theorem allS_right : ∀ (l : List Int) (x : Int) (r : List Int), (allS l (x :: r)).Perm (l.map (fun m => m + x) ++ allS l r)
  | [], _, _ => .refl _
  | m :: l, x, r => by
    have ih := allS_right l x r
    have e1 : allS (m :: l) (x :: r) = (m + x) :: (r.map (fun t => m + t) ++ allS l (x :: r)) := rfl
    have e2 : allS (m :: l) r = r.map (fun t => m + t) ++ allS l r := rfl
    rw [e1, e2, List.map_cons, List.cons_append]
    refine .cons _ ?_
    refine (ih.append_left _).trans ?_
    rw [← List.append_assoc, ← List.append_assoc]
    exact (List.perm_append_comm).append_right _
theorem allS_comm : ∀ l m : List Int, (allS l m).Perm (allS m l)
  | [], m => by
    rw [allS_nil]
    exact .refl _
  | x :: r, m => by
    refine .trans ?_ (allS_right m x r).symm
    have e : allS (x :: r) m = m.map (fun t => x + t) ++ allS r m := rfl
    rw [e]
    refine .append ?_ (allS_comm r m)
    rw [show (fun t : Int => x + t) = fun m => m + x from funext fun t => Int.add_comm x t]
theorem perm_sum {l m : List Int} (h : l.Perm m) : l.sum = m.sum := by
  induction h with
  | nil => rfl
  | cons x _ ih => rw [List.sum_cons, List.sum_cons, ih]
  | swap x y l => simp only [List.sum_cons]; omega
  | trans _ _ h1 h2 => exact h1.trans h2
def sumsM (one other : List Int) : List (Int × Int) := isort leP (tally (allS one other))
theorem sumsM_comm (one other : List Int) : sumsM one other = sumsM other one := leP_tot.perm (tally_perm (allS_comm one other))
theorem sumsM_sum (one other : List Int) : ((sumsM one other).map (·.2)).sum = (one.length : Int) * other.length := by
  have h : ((sumsM one other).map (·.2)).Perm ((tally (allS one other)).map (·.2)) := (isort_perm leP _).map _
  rw [perm_sum h, tally_sum, allS_len]
  exact Int.natCast_mul _ _
/-! pairs as data -/
def dPs (ps : List (Int × Int)) : PyData := .list (ps.map dP)
theorem sh_dP {q : Int × Int} : Sh 1 (dP q) := sh_tuple fun d hd => by
  simp only [List.mem_cons, List.not_mem_nil, or_false] at hd
  rcases hd with rfl | rfl <;> exact sh_int
theorem sh_dPs (ps : List (Int × Int)) : Sh 2 (dPs ps) := sh_list fun d hd => by
  obtain ⟨q, _, rfl⟩ := List.mem_map.mp hd
  exact sh_dP
theorem eqv_self {n : Nat} {d : PyData} (h : Sh n d) : PyData.eqv d d = true := SeqAt.eqv_refl d h.1
end Tw

set_option Elab.async false
set_option linter.all false
set_option maxRecDepth 100000
set_option maxHeartbeats 4000000
namespace Tw
open PySem PySem.Spec PyProof.Rows L2
local macro_rules | `(tactic| walk_at "rd0") => `(tactic| first
  | with_reducible refine Tw.rd_seq ?_
  | with_reducible refine Tw.rd_asg ?_
  | with_reducible refine Tw.rd_drop ?_
  | with_reducible refine Tw.rd_ret ?_
  | with_reducible refine Tw.rd_retN ?_
  | with_reducible refine Tw.rd_next ?_
  | ((with_reducible refine Tw.rd_var (v := ?vv) ?hv ?_); (case hv => exact rfl))
  | with_reducible refine Tw.rd_c ?_
  | with_reducible refine Tw.rd_op ?_
  | with_reducible refine Tw.rd_un ?_
  | with_reducible refine Tw.rd_I0 ?_
  | with_reducible refine Tw.rd_U ?_
  | with_reducible refine Tw.rd_test ?_
  | with_reducible refine Tw.rd_tB ?_
  | with_reducible refine Tw.rd_bl ?_
  | with_reducible refine Tw.rd_not ?_
  | with_reducible refine Tw.rd_and ?_
  | with_reducible refine Tw.rd_or ?_
  | with_reducible refine Tw.rd_andV ?_
  | with_reducible refine Tw.rd_orV ?_
  | with_reducible refine Tw.rd_notV ?_
  | with_reducible refine Tw.rd_tIf ?_
  | with_reducible refine Tw.rd_cb ?_
  | with_reducible refine Tw.rd_cons ?_
  | with_reducible refine Tw.rd_nil ?_
  | with_reducible refine Tw.rd_call ?_
  | with_reducible refine Tw.rd_tup ?_
  | with_reducible refine Tw.rd_lst ?_
  | with_reducible refine Tw.rd_gname ?_
  | with_reducible refine Tw.rd_chain ?_
  | with_reducible refine Tw.rd_lc ?_
  | with_reducible refine Tw.rd_il ?_
  | with_reducible refine Tw.rd_it ?_
  | with_reducible refine Tw.rd_ie ?_
  | with_reducible refine Tw.rd_ir ?_
  | with_reducible refine Tw.rd_ir2 ?_
  | with_reducible refine Tw.rd_dput ?_
  | with_reducible refine Tw.rd_dget2 ?_
  | with_reducible refine Tw.rd_items ?_
  | with_reducible refine Tw.rd_sl ?_
  | with_reducible refine Tw.rd_nopart ?_
  | with_reducible refine Tw.rd_part ?_
  | with_reducible refine Tw.rd_int ?_
  | with_reducible refine Tw.rd_revL ?_
  | with_reducible refine Tw.rd_bm ?_
  | with_reducible refine Tw.rd_bm0 ?_
  | with_reducible refine Tw.rd_lrg ?_
  | with_reducible refine Tw.rd_rg2 ?_
  | with_reducible refine Tw.rd_rg1 ?_
  | with_reducible refine Tw.rd_int2 ?_
  | with_reducible refine Tw.rd_augS ?_
  | with_reducible refine Tw.rd_ipI ?_
  | with_reducible refine Tw.rd_gsub ?_
  | with_reducible refine Tw.rd_gcons ?_
  | with_reducible refine Tw.rd_gnil ?_
  | with_reducible refine Tw.rd_par ?_
  | with_reducible refine Tw.rd_par2 ?_)
local macro_rules | `(tactic| walk_at "rd1") => `(tactic| first
  | walk_at "rd0"
  | with_reducible refine Tw.rd_if ?_
  | with_reducible refine Tw.rd_for ?_)
local macro_rules | `(tactic| walk_at "rs") => `(tactic| repeat walk_at "rd0")
local macro_rules | `(tactic| walk_at "rd") => `(tactic| repeat walk_at "rd1")
local macro_rules | `(tactic| walk_at "ini") => `(tactic| (dsimp only [L2.cxOf, L2.start, L2.Cx.wish, L2.Cx.nox, List.map, List.length_cons, List.length_nil, Nat.reduceAdd, Nat.reduceSub, List.replicate, List.cons_append, List.nil_append]; walk_at "rd"))
local macro_rules | `(tactic| walk_at "num") => `(tactic| first
  | exact (show (0 : Int) < _ from by decide)
  | exact (show (0 : Int) < _ ∧ _ < (1073741824 : Int) from by decide)
  | exact (show (0 : Int) ≤ _ ∧ _ ≤ (1000000 : Int) ∧ _ < 2 ^ 64 from by decide))
local macro_rules | `(tactic| walk_at "rn") => `(tactic| repeat (first | walk_at "rd1" | ((with_reducible refine Tw.rd_I ?c ?_); (case c => walk_at "num"))))

def topS (i : Nat) : Stmt := PySem.Challenge.pw_twindice_k01_sums.main.body.getD i (.Pass ⟨0, 0, 0, 0⟩)
abbrev s_is_whole : Stmt := topS 6
abbrev s_check_die : Stmt := topS 7
abbrev s_counts_of : Stmt := topS 8
abbrev s_sums : Stmt := topS 9
abbrev s__law_number : Stmt := topS 11
abbrev s__law_whole : Stmt := topS 12
abbrev s__law_die : Stmt := topS 13
abbrev s__law_counts : Stmt := topS 14
abbrev s_law : Stmt := topS 15
/-! ### is_whole, check_die -/
theorem sc_check_die : FnScope ["die", "one"] ["die"] (defScope s_check_die) := ⟨rfl, rfl, rfl, by decide +kernel, rfl, by decide +kernel, by decide +kernel⟩
theorem wh_eq (x : V) : (intV x && !blV x) = whV x := by cases x <;> rfl
section
variable {P : Program} {w : World} {K : PySem.W.Frag} {mg : Str → Option Value} {base : Heap}
def spIsWhole (K : PySem.W.Frag) : Sp := fun vs H Q _ => ∃ x, vs = [x] ∧ Kn K H x ∧ Q (.bl (whV x)) H
end
theorem sc_is_whole : FnScope ["thing"] ["thing"] (defScope s_is_whole) := ⟨rfl, rfl, rfl, by decide +kernel, rfl, by decide +kernel, by decide +kernel⟩
section
variable {P : Program} {w : World} {K : PySem.W.Frag} {mg : Str → Option Value} {base : Heap}
theorem ok_is_whole {f : Addr} {fd : FuncData} (F : Fun K "is_whole" "is_whole" s_is_whole f fd) (B : Bn mg) : FnOk P w K mg base CX0 1 f fd ["thing"] (spIsWhole K) := by
  refine F.ok sc_is_whole (fun vs H Q E h => ?_) (fun cdv A outer s H vs Q E hr h => ?_)
  · obtain ⟨x, rfl, _⟩ := h
    rfl
  · obtain ⟨x, rfl, ⟨t, ty, e1, e2⟩, q⟩ := h
    rw [← wh_eq] at q
    refine ⟨_, (pss_one (ps_ret (pe_and (pe_callB (r := rIsi K) call_isi (by rfl) B.n_isinstance boot_isinstance (pa_cons (pv 0) (pa_cons (pe_ty B.n_int boot_int) pa_nil))) (pe_one (pe_not (pe_callB (r := rIsi K) call_isi (by rfl) B.n_isinstance boot_isinstance (pa_cons (pv 0) (pa_cons (pe_ty B.n_bool boot_bool) pa_nil)))))))), ?_⟩
    walk_at "rd"
    refine rd_isi (.ty _) ty e1 ?_
    walk_at "rd"
    cases h1 : intV x with
    | false =>
      rw [h1] at q
      exact iteF q
    | true =>
      rw [h1] at q
      refine iteT ?_
      walk_at "rd"
      refine rd_isi (.ty _) ty e2 ?_
      walk_at "rd"
      exact q
end

section
variable {P : Program} {w : World} {K : PySem.W.Frag} {mg : Str → Option Value} {base : Heap}
/-- the number in a value -/
def valI : V → Int
  | .int i => i
  | _ => 0
/-- whether a list of values is a die -/
def dieB (xs : List V) : Bool := decide (2 ≤ xs.length) && (decide (xs.length ≤ 72) && (xs.all whV && ((xs.map valI).all (fun n => decide (1 ≤ n) && decide (n ≤ 100)) && decide ((xs.map valI).Pairwise (· ≤ ·)))))
theorem whole_ints : ∀ xs : List V, xs.all whV = true → xs = (xs.map valI).map V.int
  | [], _ => rfl
  | x :: r, h => by
    simp only [List.all_cons, Bool.and_eq_true] at h
    have e := whole_ints r h.2
    cases x <;> first | (have h1 := h.1; cases h1) | skip
    · simp only [List.map_cons, valI]
      rw [← e]
def dieI (ns : List Int) : Bool := decide (2 ≤ ns.length) && (decide (ns.length ≤ 72) && (ns.all (fun n => decide (1 ≤ n) && decide (n ≤ 100)) && decide (ns.Pairwise (· ≤ ·))))
theorem dieB_int (ns : List Int) : dieB (ns.map V.int) = dieI ns := by
  have e1 : (ns.map V.int).map valI = ns := by
    rw [List.map_map]
    exact List.map_id' ns
  have e2 : (ns.map V.int).all whV = true := by
    rw [List.all_map]
    exact List.all_eq_true.mpr fun _ _ => rfl
  unfold dieB dieI
  rw [e1, e2, List.length_map, Bool.true_and]
theorem pw_unique : ∀ {l m : List Int}, l.Perm m → l.Pairwise (· ≤ ·) → m.Pairwise (· ≤ ·) → l = m := fun {l m} h a b =>
  h.eq_of_pairwise (fun x y _ _ h1 h2 => Int.le_antisymm h1 h2) a b
def NoList (K : PySem.W.Frag) (H : Hp) (x : V) : Prop := ∃ t, TyX K H x t ∧ PySem.W.kitOne K t (.type "list") = some false
def spCheckDie (K : PySem.W.Frag) (C : Addr) : Sp := fun vs H Q E => ∃ x, vs = [x] ∧ ((NoList K H x ∧ ∀ H', Same H H' → E (.ref C) none H') ∨
  ∃ a xs, x = .ref a ∧ SqL K H a xs ∧ xs.length ≤ sizeLine ∧ (∀ v ∈ xs, Kn K H v) ∧ (dieB xs = true → ∀ H', Same H H' → Q .non H') ∧ (dieB xs = false → ∀ H', Same H H' → E (.ref C) none H'))
theorem ok_check_die {f C : Addr} {fd : FuncData} (F : Fun K "check_die" "check_die" s_check_die f fd) (B : Bn mg) (x_BadDie : Exq K mg "BadDie" C) (m_MOST_SIDES : ∃ t, mg "MOST_SIDES" = some (.int 72 t)) (m_MOST_NUMBER : ∃ t, mg "MOST_NUMBER" = some (.int 100 t))
    (d_is_whole : Df P w K mg base CX0 1 "is_whole" ["thing"] (spIsWhole K)) : FnOk P w K mg base (L2.CX P w) 2 f fd ["die"] (spCheckDie K C) := by
  refine F.okX sc_check_die (fun vs H Q E h => ?_) (fun cdv A outer s H vs Q E hr h => ?_)
  · obtain ⟨x, rfl, _⟩ := h
    rfl
  · obtain ⟨x, rfl, h⟩ := h
    refine ⟨_, (pss_cons (ps_if (PW.pt (pw_or (pt_not (pt_val (pe_callB (r := rIsi K) call_isi (by rfl) B.n_isinstance boot_isinstance (pa_cons (pv 0) (pa_cons (pe_ty B.n_list boot_list) pa_nil))))) (pw_or (pt_not (pt_chain op_le op_le pe_int (pe_callB (r := rLen K) call_lenQ (by rfl) B.n_len boot_len (pa_cons (pv 0) pa_nil)) (pe_num m_MOST_SIDES))) (pw_or1 (pt_not (pt_val (pe_callB (r := rAll K) (cr_all rfl) (by rfl) B.n_all boot_all (pa_cons (pe_lc (own := [("one", 1)]) (g := gName 1) rfl sc_check_die.nd (pi_list (pv 0)) (blkOk_by (own := [("one", 1)]) (N := ["die", "one"]) (sc := defScope s_check_die) (by decide +kernel)) (fun _ _ _ _ _ => pg_name (i := 1) sc_check_die.nd rfl (Or.inl rfl)) (fun _ _ _ _ _ => pts_nil) (fun _ _ _ _ _ => (pe_df d_is_whole (hr.mono (by decide)) (by rfl) pass0 (pa_cons (pv 1) pa_nil)))) pa_nil)))))))) (pss_one (ps_raise rfl (takes_of rfl rfl rfl rfl) (pmk_own PySem.F.excBase_ValueError x_BadDie.x x_BadDie.g x_BadDie.kp (raises_own x_BadDie.b x_BadDie.t) rfl))) pss_nil)
    (pss_one (ps_if (PW.pt (pw_or (pt_not (pt_val (pe_callB (r := rAll K) (cr_all rfl) (by rfl) B.n_all boot_all (pa_cons (pe_lc (own := [("one", 1)]) (g := gName 1) rfl sc_check_die.nd (pi_list (pv 0)) (blkOk_by (own := [("one", 1)]) (N := ["die", "one"]) (sc := defScope s_check_die) (by decide +kernel)) (fun _ _ _ _ _ => pg_name (i := 1) sc_check_die.nd rfl (Or.inl rfl)) (fun _ _ _ _ _ => pts_nil) (fun _ _ _ _ _ => (pe_chain op_le op_le pe_int (pv 1) (pe_num m_MOST_NUMBER)))) pa_nil)))) (pw_or1 (pt_cmpR (op_neD hr.units) (pv 0) (pe_callB (r := rSortedI K) cr_sortedI (by rfl) B.n_sorted boot_sorted (pa_cons (pv 0) pa_nil)) (nomark _))))) (pss_one (ps_raise rfl (takes_of rfl rfl rfl rfl) (pmk_own PySem.F.excBase_ValueError x_BadDie.x x_BadDie.g x_BadDie.kp (raises_own x_BadDie.b x_BadDie.t) rfl))) pss_nil))), ?_⟩
    walk_at "ini"
    rcases h with ⟨⟨t, ty, e⟩, qe⟩ | ⟨a, xs, rfl, hS, hz, hk, q, qe⟩
    · refine rd_isi (.ty _) ty e ?_
      walk_at "rd"
      refine iteT (iteT ?_)
      exact qe _ (Same.refl _)
    · refine rd_isi (.ty _) (tyx_list hS) kit_ll ?_
      walk_at "rd"
      refine iteF ?_
      walk_at "rd"
      refine ⟨a, xs, rfl, .inl hS, ?_⟩
      walk_at "rd"
      have bad : ∀ c : Bool, dieB xs = c → c = false → ∀ H', Same H H' → E (.ref C) none H' := fun c h1 h2 => qe (h1.trans h2)
      by_cases c1 : 2 ≤ xs.length
      case neg =>
        rw [decide_eq_false (show ¬ ((2 : Int) ≤ xs.length) by omega)]
        refine iteF ?_
        walk_at "rd"
        refine iteT (iteT ?_)
        exact qe (by simp [dieB, c1]) _ (Same.refl _)
      rw [decide_eq_true (show (2 : Int) ≤ xs.length by omega)]
      refine iteT ?_
      walk_at "rd"
      by_cases c2 : xs.length ≤ 72
      case neg =>
        rw [decide_eq_false (show ¬ ((xs.length : Int) ≤ 72) by omega)]
        refine iteT (iteT ?_)
        exact qe (by simp [dieB, c2]) _ (Same.refl _)
      rw [decide_eq_true (show (xs.length : Int) ≤ 72 by omega)]
      refine iteF ?_
      walk_at "rd"
      refine ⟨a, rfl, ⟨_, hS⟩, fun R nR => ?_⟩
      refine lc_mapP (fun v : V => v) (fun v => V.bl (whV v)) xs nR (by rw [List.map_id']; exact hS) hz (fun z hz' H2 s2 Q' q' => ⟨rfl, ?_⟩) (fun H2 s2 h2 => ?_)
      · walk_at "rd"
        exact ⟨z, rfl, same_kn s2 (hk z hz'), q' _ (Same.refl _)⟩
      · walk_at "rd"
        refine rd_all (bs := xs.map whV) (.of (by rw [h2, List.map_map]; rfl)) ?_
        walk_at "rd"
        rw [List.all_map]
        cases c3 : xs.all (id ∘ whV) with
        | false =>
          refine iteT ?_
          exact qe (by
            have c3' : xs.all whV = false := c3
            simp [dieB, c3']) _ s2
        | true =>
          refine iteF ?_
          obtain ⟨ns, rfl⟩ : ∃ ns : List Int, xs = ns.map V.int := ⟨_, whole_ints xs c3⟩
          rw [dieB_int] at q qe
          rw [List.length_map] at c1 c2 hz
          have hS2 := same_l s2 hS
          walk_at "rd"
          refine ⟨a, rfl, ⟨_, hS2⟩, fun R2 nR2 => ?_⟩
          refine lc_mapP V.int (fun n : Int => V.bl (decide (1 ≤ n) && decide (n ≤ 100))) ns nR2 hS2 hz (fun z hz' H3 s3 Q' q' => ⟨rfl, ?_⟩) (fun H3 s3 h3 => ?_)
          · walk_at "rd"
            by_cases z1 : (1 : Int) ≤ z
            · rw [decide_eq_true z1] at q' ⊢
              refine iteT ?_
              walk_at "rd"
              exact q' _ (Same.refl _)
            · rw [decide_eq_false z1] at q' ⊢
              exact iteF (q' _ (Same.refl _))
          · walk_at "rd"
            refine rd_all (bs := ns.map fun n => decide (1 ≤ n) && decide (n ≤ 100)) (.of (by rw [h3, List.map_map]; rfl)) ?_
            walk_at "rd"
            rw [List.all_map]
            have s3' : Same H H3 := s2.trans s3
            cases c4 : ns.all (id ∘ fun n : Int => decide (1 ≤ n) && decide (n ≤ 100)) with
            | false =>
              refine iteT (iteT ?_)
              exact qe (by
                have c4' : ns.all (fun n : Int => decide (1 ≤ n) && decide (n ≤ 100)) = false := c4
                rw [dieI, c4']
                simp) _ s3'
            | true =>
              refine iteF ?_
              have c4' : ns.all (fun n : Int => decide (1 ≤ n) && decide (n ≤ 100)) = true := c4
              walk_at "rd"
              have hS3 := same_l s3 hS2
              refine rd_sortI hS3 (fun ns' p perm srt np => ?_)
              have s4 : Same H (upd H3 p (.lst (ns'.map V.int))) := s3'.trans (same_new np)
              refine rd_neD (dp_ints (same_l (same_new np) hS3)) (dp_ints (.of upd_same)) (shaped_of (sh_ints (n := 0) _)) (shaped_of (sh_ints (n := 0) _)) ?_
              rw [eqv_dI]
              walk_at "rd"
              by_cases c5 : ns.Pairwise (· ≤ ·)
              · have e : ns = ns' := pw_unique perm.symm c5 srt
                rw [decide_eq_true e]
                refine iteF ?_
                walk_at "rd"
                exact q (by simp [dieI, c1, c2, c4', c5]) _ s4
              · have e : ¬ ns = ns' := fun e => c5 (by rw [e]; exact srt)
                rw [decide_eq_false e]
                refine iteT ?_
                exact qe (by simp [dieI, c5]) _ s4
end
/-! ### counts_of, sums -/
theorem sc_sums : FnScope ["one", "other"] ["one", "other"] (defScope s_sums) := ⟨rfl, rfl, rfl, by decide +kernel, rfl, by decide +kernel, by decide +kernel⟩
section
variable {P : Program} {w : World} {K : PySem.W.Frag} {mg : Str → Option Value} {base : Heap}
def spCounts (K : PySem.W.Frag) : Sp := fun vs H Q _ => ∃ (a b : Addr) (one other : List Int), vs = [.ref a, .ref b] ∧ SqL K H a (one.map V.int) ∧ SqL K H b (other.map V.int) ∧ one.length ≤ 100 ∧ other.length ≤ 100 ∧
  ∀ H' d, Same H H' → H d = none → H' d = some (.dK (kvs (tally (allS one other)))) → Q (.ref d) H'
end
theorem sc_counts_of : FnScope ["one", "other", "found", "mine", "theirs"] ["one", "other"] (defScope s_counts_of) := ⟨rfl, rfl, rfl, by decide +kernel, rfl, by decide +kernel, by decide +kernel⟩
section
variable {P : Program} {w : World} {K : PySem.W.Frag} {mg : Str → Option Value} {base : Heap}
theorem ok_counts_of {f : Addr} {fd : FuncData} (F : Fun K "counts_of" "counts_of" s_counts_of f fd) : FnOk P w K mg base CX0 1 f fd ["one", "other"] (spCounts K) := by
  refine F.ok sc_counts_of (fun vs H Q E h => ?_) (fun cdv A outer s H vs Q E hr h => ?_)
  · obtain ⟨a, b, one, other, rfl, _⟩ := h
    rfl
  · obtain ⟨a, b, one, other, rfl, h1, h2, l1, l2, q⟩ := h
    refine ⟨_, (pss_cons (ps_set (i := 2) sc_counts_of.nd rfl (Or.inl rfl) pe_dnewK)
    (pss_cons (ps_for PassesOwn.never rfl (pi_list (pv 0)) (pg_name (i := 3) sc_counts_of.nd rfl (Or.inl rfl))
      (pss_one (ps_for PassesOwn.never rfl (pi_list (pv 1)) (pg_name (i := 4) sc_counts_of.nd rfl (Or.inl rfl))
      (pss_one (ps_dput (hu_of hr) (pv 2) (pe_op op_add (pv 3) (pv 4)) (pe_op op_add (pe_dget2 (hu_of hr) (pv 2) (pe_op op_add (pv 3) (pv 4)) pe_int ⟨rfl, rfl, rfl, rfl⟩) pe_int) rfl)))))
    (pss_one (ps_ret (pv 2))))), ?_⟩
    walk_at "ini"
    refine rd_dnew fun d nd => ?_
    walk_at "rd"
    have s0 : Same H (upd H d (.dK [])) := same_new nd
    refine ⟨a, rfl, ⟨_, same_l s0 h1⟩, ?_⟩
    refine for_listP V.int one (fun dn σ H1 => ∃ y3 y4, σ = [some (.ref a), some (.ref b), some (.ref d), y3, y4] ∧ Same H H1 ∧ dn.length ≤ one.length ∧ H1 d = some (.dK (kvs (tally (allS dn other)))))
      ⟨none, none, rfl, s0, Nat.zero_le _, upd_same⟩ (fun dn σ H1 ⟨_, _, _, s1, _⟩ => same_l s1 h1) (fun dn m rs σ H1 e ⟨y3, y4, eσ, s1, hl, hd⟩ => ?_) (fun σ H1 ⟨y3, y4, eσ, s1, _, hd⟩ => ?_)
    · subst eσ
      have hl' : (dn ++ [m]).length ≤ one.length := by
        rw [e]
        simp
      walk_at "rd"
      refine ⟨b, rfl, ⟨_, same_l s1 h2⟩, ?_⟩
      refine for_listP V.int other (fun dn2 σ H2 => ∃ y4, σ = [some (.ref a), some (.ref b), some (.ref d), some (.int m), y4] ∧ Same H H2 ∧ dn2.length ≤ other.length ∧ H2 d = some (.dK (kvs (tallyF (tally (allS dn other)) (dn2.map fun t => m + t)))))
        ⟨y4, rfl, s1, Nat.zero_le _, hd⟩ (fun dn2 σ H2 ⟨_, _, s2, _⟩ => same_l s2 h2) (fun dn2 t rs2 σ H2 e2 ⟨y4, eσ, s2, hl2, hd2⟩ => ?_) (fun σ H2 ⟨y4, eσ, s2, _, hd2⟩ => ?_)
      · subst eσ
        walk_at "rd"
        refine ⟨d, rfl, .inl ⟨_, .inl hd2⟩, ?_⟩
        walk_at "rd"
        refine ⟨_, DGet.k (k := Sum.inl (m + t)) hd2, ?_⟩
        rw [getD_kvs]
        walk_at "rd"
        refine ⟨d, _, rfl, DPut.k (k := Sum.inl (m + t)) hd2 ?_, ?_⟩
        · have z1 := tallyF_len (dn2.map fun t => m + t) (tally (allS dn other))
          have z2 := tallyF_len (allS dn other) []
          rw [allS_len] at z2
          have z3 : dn.length * other.length ≤ 100 * 100 := Nat.mul_le_mul (by omega) l2
          have z4 : (tally (allS dn other)).length ≤ 0 + dn.length * other.length := z2
          rw [List.length_map] at z1
          have z5 : sizeLine = 16777216 := sizeLine_eq
          unfold kvs
          rw [List.length_map, z5]
          omega
        · refine ⟨some (.int t), rfl, same_mut s2 nd, ?_, ?_⟩
          · rw [e2]
            simp
          · rw [upd_same, put_kvs, List.map_append, tallyF_app]
            rfl
      · subst eσ
        refine ⟨some (.int m), y4, rfl, s2, hl', ?_⟩
        rw [hd2, allS_app, allS_one]
        unfold tally
        rw [tallyF_app]
    · subst eσ
      walk_at "rd"
      exact q H1 d s1 nd hd
end

/-! ### sums -/
def IsDie (K : PySem.W.Frag) (H : Hp) (x : V) (a : Addr) (ns : List Int) : Prop := x = .ref a ∧ SqL K H a (ns.map V.int) ∧ dieI ns = true
def NoDie (K : PySem.W.Frag) (H : Hp) (x : V) : Prop := NoList K H x ∨ ∃ a xs, x = .ref a ∧ SqL K H a xs ∧ xs.length ≤ sizeLine ∧ (∀ v ∈ xs, Kn K H v) ∧ dieB xs = false
theorem same_die {K : PySem.W.Frag} {H H' : Hp} {x : V} {a : Addr} {ns : List Int} (s : Same H H') (h : IsDie K H x a ns) : IsDie K H' x a ns := ⟨h.1, same_l s h.2.1, h.2.2⟩
theorem same_nodie {K : PySem.W.Frag} {H H' : Hp} {x : V} (s : Same H H') (h : NoDie K H x) : NoDie K H' x := by
  rcases h with ⟨t, a, b⟩ | ⟨a, xs, e, hS, hz, hk, hb⟩
  · exact .inl ⟨t, same_ty s a, b⟩
  · exact .inr ⟨a, xs, e, same_l s hS, hz, fun v hv => same_kn s (hk v hv), hb⟩
def spDie (K : PySem.W.Frag) (C : Addr) : Sp := fun vs H Q E => ∃ x, vs = [x] ∧ ((NoDie K H x ∧ ∀ H', Same H H' → E (.ref C) none H') ∨ ∃ a ns, IsDie K H x a ns ∧ ∀ H', Same H H' → Q .non H')
theorem dieI_len {ns : List Int} (h : dieI ns = true) : 2 ≤ ns.length ∧ ns.length ≤ 72 := by
  unfold dieI at h
  simp only [Bool.and_eq_true, decide_eq_true_eq] at h
  exact ⟨h.1, h.2.1⟩
theorem die_of_sp {K : PySem.W.Frag} {C : Addr} {vs : List V} {H : Hp} {Q : VK} {E : XK} (h : spDie K C vs H Q E) : spCheckDie K C vs H Q E := by
  obtain ⟨x, rfl, h⟩ := h
  refine ⟨x, rfl, ?_⟩
  rcases h with ⟨h | ⟨a, xs, e, hS, hz, hk, hb⟩, qe⟩ | ⟨a, ns, ⟨e, hS, hb⟩, q⟩
  · exact .inl ⟨h, qe⟩
  · refine .inr ⟨a, xs, e, hS, hz, hk, fun z => ?_, fun _ => qe⟩
    rw [hb] at z
    cases z
  · refine .inr ⟨a, _, e, hS, ?_, fun v hv => ?_, fun _ => q, fun z => ?_⟩
    · have := dieI_len hb
      rw [List.length_map, sizeLine_eq]
      omega
    · obtain ⟨i, _, rfl⟩ := List.mem_map.mp hv
      exact kn_int
    · rw [dieB_int, hb] at z
      cases z
def PairT (H : Hp) (z : V × (Int × Int)) : Prop := ∃ t, z.1 = .ref t ∧ H t = some (.tup [.int z.2.1, .int z.2.2])
theorem pairT_dp {K : PySem.W.Frag} {H : Hp} {z : V × (Int × Int)} (h : PairT H z) : Dp K H z.1 (dP z.2) := by
  obtain ⟨t, e, h⟩ := h
  rw [e]
  exact .tup (.of h) (.cons (.int _) (.cons (.int _) .nil))
theorem dps_zs {K : PySem.W.Frag} {H : Hp} : ∀ {zs : List (V × (Int × Int))}, (∀ z ∈ zs, PairT H z) → DpAll K H (zs.map (·.1)) ((zs.map (·.2)).map dP)
  | [], _ => .nil
  | z :: r, h => .cons (pairT_dp (h z List.mem_cons_self)) (dps_zs fun y hy => h y (List.mem_cons_of_mem _ hy))
theorem dp_zs {K : PySem.W.Frag} {H : Hp} {p : Addr} {zs : List (V × (Int × Int))} (h : SqL K H p (zs.map (·.1))) (hz : ∀ z ∈ zs, PairT H z) : Dp K H (.ref p) (dPs (zs.map (·.2))) := .lst h (dps_zs hz)
theorem same_pairT {H H' : Hp} {z : V × (Int × Int)} (s : Same H H') (h : PairT H z) : PairT H' z := let ⟨t, e, h⟩ := h; ⟨t, e, s _ _ h⟩
theorem items_zs {H : Hp} : ∀ {ts : List Addr} {c : List (Int × Int)}, Paired (fun (t : Addr) (q : L2.Key × V) => H t = some (.tup [kV q.1, q.2])) ts (kvs c) →
    ∃ zs : List (V × (Int × Int)), zs.map (·.1) = ts.map V.ref ∧ zs.map (·.2) = c ∧ ∀ z ∈ zs, PairT H z
  | [], [], .nil => ⟨[], rfl, rfl, fun _ h => nomatch h⟩
  | t :: ts, q :: c, .cons h r => by
    obtain ⟨zs, e1, e2, h2⟩ := items_zs r
    refine ⟨(.ref t, q) :: zs, by rw [List.map_cons, e1]; rfl, by rw [List.map_cons, e2], fun z hz => ?_⟩
    rcases List.mem_cons.mp hz with rfl | hz
    · exact ⟨t, rfl, h⟩
    · exact h2 z hz
section
variable {P : Program} {w : World} {K : PySem.W.Frag} {mg : Str → Option Value} {base : Heap}
def spSums (K : PySem.W.Frag) (C : Addr) : Sp := fun vs H Q E => ∃ x y, vs = [x, y] ∧ ((NoDie K H x ∧ ∀ H', Same H H' → E (.ref C) none H') ∨ ∃ a one, IsDie K H x a one ∧
  ((NoDie K H y ∧ ∀ H', Same H H' → E (.ref C) none H') ∨ ∃ b other, IsDie K H y b other ∧
    ∀ (H' : Hp) (p : Addr) (zs : List (V × (Int × Int))), Same H H' → H p = none → H' p = some (.lst (zs.map (·.1))) → zs.map (·.2) = sumsM one other → (∀ z ∈ zs, PairT H' z) → Q (.ref p) H'))
theorem ok_sums {f C : Addr} {fd : FuncData} (F : Fun K "sums" "sums" s_sums f fd) (B : Bn mg) (d_check_die : Df P w K mg base (L2.CX P w) 2 "check_die" ["die"] (spDie K C)) (d_counts_of : Df P w K mg base CX0 1 "counts_of" ["one", "other"] (spCounts K)) :
    FnOk P w K mg base (L2.CX P w) 3 f fd ["one", "other"] (spSums K C) := by
  refine F.okX sc_sums (fun vs H Q E h => ?_) (fun cdv A outer s H vs Q E hr h => ?_)
  · obtain ⟨x, y, rfl, _⟩ := h
    rfl
  · obtain ⟨x, y, rfl, h⟩ := h
    refine ⟨_, (pss_cons (ps_expr (pe_df d_check_die (hr.mono (by decide)) (by rfl) (passes_call (takes_of rfl rfl rfl rfl) (fun _ _ _ _ h => h)) (pa_cons (pv 0) pa_nil)))
    (pss_cons (ps_expr (pe_df d_check_die (hr.mono (by decide)) (by rfl) (passes_call (takes_of rfl rfl rfl rfl) (fun _ _ _ _ h => h)) (pa_cons (pv 1) pa_nil)))
    (pss_one (ps_ret (pe_callB (r := rSortD K) (cr_sortD hr.units) (by rfl) B.n_sorted boot_sorted (pa_cons (LiI.pe_listItems rfl (pe_df d_counts_of (hr.mono (by decide)) (by rfl) pass0 (pa_cons (pv 0) (pa_cons (pv 1) pa_nil))) (by rfl) B.n_list boot_list) pa_nil)))))), ?_⟩
    walk_at "ini"
    rcases h with ⟨h, qe⟩ | ⟨a, one, h1, h⟩
    · exact ⟨x, rfl, .inl ⟨h, qe⟩⟩
    refine ⟨x, rfl, .inr ⟨a, one, h1, fun H1 s1 => ?_⟩⟩
    walk_at "rd"
    rcases h with ⟨h, qe⟩ | ⟨b, other, h2, q⟩
    · exact ⟨y, rfl, .inl ⟨same_nodie s1 h, fun H' s' => qe H' (s1.trans s')⟩⟩
    refine ⟨y, rfl, .inr ⟨b, other, same_die s1 h2, fun H2 s2 => ?_⟩⟩
    have s12 := s1.trans s2
    obtain ⟨rfl, hA, dA⟩ := h1
    obtain ⟨rfl, hB, dB⟩ := h2
    have lA := dieI_len dA
    have lB := dieI_len dB
    walk_at "rd"
    refine ⟨a, b, one, other, rfl, same_l s12 hA, same_l s12 hB, by omega, by omega, fun H3 d s3 nd hd => ?_⟩
    refine ⟨d, _, rfl, hd, fun H4 l ts s4 nl nts nlts hl hp => ?_⟩
    obtain ⟨zs, e1, e2, hz⟩ := items_zs hp
    walk_at "rd"
    refine rd_sortT srt_dP zs (.of (by rw [e1]; exact hl)) (fun z hz' => pairT_dp (hz z hz')) (fun p zs' np perm e3 => ?_)
    have s14 : Same H H4 := s12.trans (s3.trans s4)
    refine q _ p zs' (s14.trans (same_new np)) (s14.free np) upd_same (by rw [e3, e2]; rfl) (fun z hz' => same_pairT (same_new np) (hz z (perm.mem_iff.mp hz')))
end
end Tw

set_option Elab.async false
set_option linter.all false
set_option maxRecDepth 100000
set_option maxHeartbeats 4000000
namespace Tw
open PySem PySem.Spec PyProof.Rows L2
local macro_rules | `(tactic| walk_at "rd0") => `(tactic| first
  | with_reducible refine Tw.rd_seq ?_
  | with_reducible refine Tw.rd_asg ?_
  | with_reducible refine Tw.rd_drop ?_
  | with_reducible refine Tw.rd_ret ?_
  | with_reducible refine Tw.rd_retN ?_
  | with_reducible refine Tw.rd_next ?_
  | ((with_reducible refine Tw.rd_var (v := ?vv) ?hv ?_); (case hv => exact rfl))
  | with_reducible refine Tw.rd_c ?_
  | with_reducible refine Tw.rd_op ?_
  | with_reducible refine Tw.rd_un ?_
  | with_reducible refine Tw.rd_I0 ?_
  | with_reducible refine Tw.rd_U ?_
  | with_reducible refine Tw.rd_test ?_
  | with_reducible refine Tw.rd_tB ?_
  | with_reducible refine Tw.rd_bl ?_
  | with_reducible refine Tw.rd_not ?_
  | with_reducible refine Tw.rd_and ?_
  | with_reducible refine Tw.rd_or ?_
  | with_reducible refine Tw.rd_andV ?_
  | with_reducible refine Tw.rd_orV ?_
  | with_reducible refine Tw.rd_notV ?_
  | with_reducible refine Tw.rd_tIf ?_
  | with_reducible refine Tw.rd_cb ?_
  | with_reducible refine Tw.rd_cons ?_
  | with_reducible refine Tw.rd_nil ?_
  | with_reducible refine Tw.rd_call ?_
  | with_reducible refine Tw.rd_tup ?_
  | with_reducible refine Tw.rd_lst ?_
  | with_reducible refine Tw.rd_gname ?_
  | with_reducible refine Tw.rd_chain ?_
  | with_reducible refine Tw.rd_lc ?_
  | with_reducible refine Tw.rd_il ?_
  | with_reducible refine Tw.rd_it ?_
  | with_reducible refine Tw.rd_ie ?_
  | with_reducible refine Tw.rd_ir ?_
  | with_reducible refine Tw.rd_ir2 ?_
  | with_reducible refine Tw.rd_dput ?_
  | with_reducible refine Tw.rd_dget2 ?_
  | with_reducible refine Tw.rd_items ?_
  | with_reducible refine Tw.rd_sl ?_
  | with_reducible refine Tw.rd_nopart ?_
  | with_reducible refine Tw.rd_part ?_
  | with_reducible refine Tw.rd_int ?_
  | with_reducible refine Tw.rd_revL ?_
  | with_reducible refine Tw.rd_bm ?_
  | with_reducible refine Tw.rd_bm0 ?_
  | with_reducible refine Tw.rd_lrg ?_
  | with_reducible refine Tw.rd_rg2 ?_
  | with_reducible refine Tw.rd_rg1 ?_
  | with_reducible refine Tw.rd_int2 ?_
  | with_reducible refine Tw.rd_augS ?_
  | with_reducible refine Tw.rd_ipI ?_
  | with_reducible refine Tw.rd_gsub ?_
  | with_reducible refine Tw.rd_gcons ?_
  | with_reducible refine Tw.rd_gnil ?_
  | with_reducible refine Tw.rd_par ?_
  | with_reducible refine Tw.rd_par2 ?_)
local macro_rules | `(tactic| walk_at "rd1") => `(tactic| first
  | walk_at "rd0"
  | with_reducible refine Tw.rd_if ?_
  | with_reducible refine Tw.rd_for ?_)
local macro_rules | `(tactic| walk_at "rs") => `(tactic| repeat walk_at "rd0")
local macro_rules | `(tactic| walk_at "rd") => `(tactic| repeat walk_at "rd1")
local macro_rules | `(tactic| walk_at "ini") => `(tactic| (dsimp only [L2.cxOf, L2.start, L2.Cx.wish, L2.Cx.nox, List.map, List.length_cons, List.length_nil, Nat.reduceAdd, Nat.reduceSub, List.replicate, List.cons_append, List.nil_append]; walk_at "rd"))
local macro_rules | `(tactic| walk_at "num") => `(tactic| first
  | exact (show (0 : Int) < _ from by decide)
  | exact (show (0 : Int) < _ ∧ _ < (1073741824 : Int) from by decide)
  | exact (show (0 : Int) ≤ _ ∧ _ ≤ (1000000 : Int) ∧ _ < 2 ^ 64 from by decide))
local macro_rules | `(tactic| walk_at "rn") => `(tactic| repeat (first | walk_at "rd1" | ((with_reducible refine Tw.rd_I ?c ?_); (case c => walk_at "num"))))

/-! ### the laws' own: numbers by the cells -/
theorem sc__law_number : FnScope ["_law_cell", "_law_at", "_law_whole_here", "_law_mixed", "_law_more"] ["_law_cell", "_law_at", "_law_whole_here"] (defScope s__law_number) := ⟨rfl, rfl, rfl, by decide +kernel, rfl, by decide +kernel, by decide +kernel⟩
section
variable {P : Program} {w : World} {K : PySem.W.Frag} {mg : Str → Option Value} {base : Heap}
theorem bd_lit {n : Nat} {x : Int} (h : x.natAbs < 2 ^ 64) (l : 64 ≤ n) : Bd n x := Bd.mono (n := 64) h l
def spNum : Sp := fun vs H Q _ => ∃ c a w : Int, vs = [.int c, .int a, .int w] ∧ Bd 1048576 c ∧ (0 ≤ a ∧ a ≤ 1000) ∧ Bd 1048700 w ∧ ∀ n : Int, Q (.int n) H
theorem ok__law_number {f : Addr} {fd : FuncData} (F : Fun K "_law_number" "_law_number" s__law_number f fd) : FnOk P w K mg base CX0 1 f fd ["_law_cell", "_law_at", "_law_whole_here"] spNum := by
  refine F.ok sc__law_number (fun vs H Q E h => ?_) (fun cdv A outer s H vs Q E hr h => ?_)
  · obtain ⟨c, a, w, rfl, _⟩ := h
    rfl
  · obtain ⟨c, a, w, rfl, hc, ha, hw, q⟩ := h
    refine ⟨_, (pss_cons (ps_if (pt_cmpR op_ge (pv 0) (pe_op op_pow pe_int pe_int) (nomark _)) (pss_one (ps_ret (pv 0))) pss_nil)
    (pss_cons (ps_set (i := 3) sc__law_number.nd rfl (Or.inl rfl) (pe_op op_mod (pe_op op_add (pe_op op_mulX (pe_op op_add (pv 0) (pe_op op_mulX pe_int (pv 1))) pe_int) (pv 2)) pe_int))
    (pss_cons (ps_set (i := 4) sc__law_number.nd rfl (Or.inl rfl) (pe_op op_mulX (pe_op op_mulX (pv 3) (pe_op op_add (pe_op op_add (pv 3) (pe_op op_mulX pe_int (pv 1))) pe_int)) (pe_op op_add (pe_op op_add (pv 3) (pv 0)) pe_int)))
    (pss_one (ps_ret (pe_op op_fdiv (pe_op op_mulX (pv 4) (pe_op op_add (pv 4) pe_int)) pe_int)))))), ?_⟩
    walk_at "ini"
    refine rd_I (show (0 : Int) ≤ 18 ∧ (18 : Int) ≤ 1000000 ∧ (10 : Int).natAbs < 2 ^ 64 by decide) ?_
    walk_at "rd"
    refine ite2 (fun _ => ?_) (fun _ => ?_)
    · walk_at "rd"
      exact q _
    have h64 : ∀ x : Int, -100000 ≤ x → x ≤ 10000000000 → Bd 64 x := fun x h1 h2 => by
      unfold Bd
      omega
    have ba : Bd 64 a := h64 a (by omega) (by omega)
    walk_at "rd"
    refine rd_I (Bd.mulx (h64 977 (by decide) (by decide)) ba (by decide)) ?_
    walk_at "rd"
    have b1 : Bd 1048577 (c + 977 * a) := Bd.add hc ((h64 (977 * a) (by omega) (by omega)).mono (by decide))
    refine rd_I (b1.mulx (h64 48271 (by decide) (by decide)) (by decide)) ?_
    walk_at "rd"
    refine rd_I (show (0 : Int) < 2147483647 by decide) ?_
    generalize hm : ((c + 977 * a) * 48271 + w) % 2147483647 = m
    have m0 : 0 ≤ m := by
      rw [← hm]
      exact Int.emod_nonneg _ (by decide)
    have m1 : m < 2147483647 := by
      rw [← hm]
      exact Int.emod_lt_of_pos _ (by decide)
    have bm : Bd 64 m := h64 m (by omega) (by omega)
    walk_at "rd"
    refine rd_I (Bd.mulx (h64 31 (by decide) (by decide)) ba (by decide)) ?_
    walk_at "rd"
    have b2 : Bd 64 (m + 31 * a + 7) := h64 _ (by omega) (by omega)
    refine rd_I (bm.mulx b2 (by decide)) ?_
    walk_at "rd"
    have b3 : Bd 1048578 (m + c + 5) := Bd.add (Bd.add (bm.mono (by decide)) hc) ((h64 5 (by decide) (by decide)).mono (by decide))
    refine rd_I ((bm.mul b2).mulx b3 (by decide)) ?_
    have b4 : Bd (64 + 64 + 1048578) (m * (m + 31 * a + 7) * (m + c + 5)) := (bm.mul b2).mul b3
    generalize m * (m + 31 * a + 7) * (m + c + 5) = r at b4
    walk_at "rd"
    refine rd_I (b4.mulx (Bd.add b4 ((h64 48271 (by decide) (by decide)).mono (by decide))) (by decide)) ?_
    refine rd_I (show (0 : Int) < 1009 ∧ (1009 : Int) < 1073741824 by decide) ?_
    exact q _
end
theorem sc__law_die : FnScope ["_law_script", "_law_by", "_law_most", "_law_cells", "_law_whole_here", "_law_many", "_law_wide", "_law_found", "_law_at", "_law_number_here"] ["_law_script", "_law_by", "_law_most"] (defScope s__law_die) := ⟨rfl, rfl, rfl, by decide +kernel, rfl, by decide +kernel, by decide +kernel⟩
section
variable {P : Program} {w : World} {K : PySem.W.Frag} {mg : Str → Option Value} {base : Heap}
theorem sz63 : (63 : Nat) ≤ sizeLine := by
  rw [sizeLine_eq]
  decide
theorem cut_63 (xs : List V) : cutV xs none (some 63) = xs.take 63 := cut_to xs 63
def spLDie (K : PySem.W.Frag) : Sp := fun vs H Q _ => ∃ (a : Addr) (ns : List Int) (by' most : Int), vs = [.ref a, .int by', .int most] ∧ SqL K H a (ns.map V.int) ∧ ns.length ≤ 63 ∧ (∀ z ∈ ns, Bd 1048576 z) ∧ 0 ≤ by' ∧ by' ≤ 100 ∧ 3 ≤ most ∧ most ≤ 20 ∧
  ∀ (H' : Hp) (p : Addr) (D : List Int), Same H H' → H p = none → H' p = some (.lst (D.map V.int)) → dieI D = true → (D.length : Int) ≤ most → Q (.ref p) H'
theorem atI_mod {α : Type} (xs : List α) (i : Int) (h0 : 0 ≤ i) (h : i < xs.length) : ∃ x, atI xs i = some x ∧ x ∈ xs := by
  obtain ⟨k, rfl⟩ : ∃ k : Nat, i = k := ⟨i.toNat, by omega⟩
  have hk : k < xs.length := by omega
  exact ⟨xs[k], atI_nat (List.getElem?_eq_getElem hk), List.getElem_mem hk⟩
theorem ok__law_die {f : Addr} {fd : FuncData} (F : Fun K "_law_die" "_law_die" s__law_die f fd) (B : Bn mg) (d__law_number : Df P w K mg base CX0 1 "_law_number" ["_law_cell", "_law_at", "_law_whole_here"] spNum) : FnOk P w K mg base CX0 2 f fd ["_law_script", "_law_by", "_law_most"] (spLDie K) := by
  refine F.ok sc__law_die (fun vs H Q E h => ?_) (fun cdv A outer s H vs Q E hr h => ?_)
  · obtain ⟨a, ns, b, m, rfl, _⟩ := h
    rfl
  · obtain ⟨a, ns, b, m, rfl, hS, hl, hb, b0, b1, m0, m1, q⟩ := h
    refine ⟨_, (pss_cons (ps_set (i := 3) sc__law_die.nd rfl (Or.inl rfl) (pe_ifExp (pt_cmpR (op_neD hr.units) (pv 0) (pe_lst pa_nil) (nomark _)) (pe_slice (r := rSlL K) sl_list (pv 0) po_none (po_some pe_int)) (pe_lst (pa_cons pe_int pa_nil))))
    (pss_cons (ps_set (i := 4) sc__law_die.nd rfl (Or.inl rfl) (pe_op op_add (pe_callB (r := rSum K) (cr_sum rfl) (by rfl) B.n_sum boot_sum (pa_cons (pv 3) pa_nil)) (pv 1)))
    (pss_cons (ps_set (i := 5) sc__law_die.nd rfl (Or.inl rfl) (pe_op op_add pe_int (pe_op op_mod (pv 4) (pe_op op_sub (pv 2) pe_int))))
    (pss_cons (ps_set (i := 6) sc__law_die.nd rfl (Or.inl rfl) (pe_ix (r := rIxT K) ix_tup (pe_tup (pa_cons pe_int (pa_cons pe_int (pa_cons pe_int (pa_cons pe_int pa_nil))))) (pe_op op_mod (pe_op op_fdiv (pv 4) pe_int) pe_int) (fun _ _ => rfl)))
    (pss_cons (ps_set (i := 7) sc__law_die.nd rfl (Or.inl rfl) (pe_lst pa_nil))
    (pss_cons (ps_for PassesOwn.never rfl (pi_range1 (by rfl) B.n_range (pa_cons (pv 5) pa_nil)) (pg_name (i := 8) sc__law_die.nd rfl (Or.inl rfl))
      (pss_cons (ps_set (i := 9) sc__law_die.nd rfl (Or.inl rfl) (pe_df d__law_number (hr.mono (by decide)) (by rfl) pass0 (pa_cons (pe_ix (r := rIxL K) ix_list (pv 3) (pe_op op_mod (pe_op op_add (pv 8) (pv 1)) (pe_callB (r := rLen K) call_lenQ (by rfl) B.n_len boot_len (pa_cons (pv 3) pa_nil))) (fun _ _ => rfl)) (pa_cons (pe_op op_add (pv 8) (pv 1)) (pa_cons (pv 4) pa_nil)))))
    (pss_one (ps_expr (pe_bm PySem.F.plainAttrs_list PySem.F.slot_list_append PySem.F.type_list_append mt_append (pv 7) (pa_cons (pe_op op_add pe_int (pe_op op_mod (pe_op op_fdiv (pv 9) pe_int) (pv 6))) pa_nil))))))
    (pss_one (ps_ret (pe_callB (r := rSortedI K) cr_sortedI (by rfl) B.n_sorted boot_sorted (pa_cons (pv 7) pa_nil)))))))))), ?_⟩
    dsimp only [L2.cxOf, L2.start, L2.Cx.wish, L2.Cx.nox, List.map, List.length_cons, List.length_nil, Nat.reduceAdd, Nat.reduceSub, List.replicate, List.cons_append, List.nil_append]
    refine rd_seq (rd_asg (cutE (fun v H1 => ∃ c cs, v = .ref c ∧ Same H H1 ∧ H1 c = some (.lst (cs.map V.int)) ∧ cs ≠ [] ∧ cs.length ≤ 63 ∧ ∀ z ∈ cs, Bd 1048576 z) (fun Q' q' => ?_) (fun v H1 h1 => ?_)))
    · walk_at "rd"
      refine ⟨Nat.zero_le _, fun e ne => ?_⟩
      have s1 : Same H (upd H e (.lst [])) := same_new ne
      refine rd_neD (dp_ints (same_l s1 hS)) (dp_ints (ns := []) (.of upd_same)) (shaped_of (sh_ints (n := 0) _)) (shaped_of (sh_ints (n := 0) _)) ?_
      rw [eqv_dI]
      walk_at "rd"
      by_cases c : ns = []
      · rw [decide_eq_true c]
        refine iteF ?_
        walk_at "rd"
        refine ⟨by rw [sizeLine_eq]; decide, fun p np => q' _ _ ⟨p, [7], rfl, s1.trans (same_new np), upd_same, by decide, by decide, fun z hz => ?_⟩⟩
        rw [List.mem_singleton.mp hz]
        exact bd_lit (by decide) (by decide)
      · rw [decide_eq_false c]
        refine iteT ?_
        walk_at "rd"
        refine rd_slL (same_l s1 hS) (fun p np => q' _ _ ⟨p, ns, rfl, s1.trans (same_new np), ?_, c, hl, hb⟩)
        rw [upd_same, cut_63, List.take_of_length_le (by rw [List.length_map]; exact hl)]
    · obtain ⟨c, cs, rfl, s1, hc, cne, cl, cb⟩ := h1
      have bs : Bd 1048700 (cs.sum + b) := Bd.mono (Bd.add ((bd_sum cs cb).mono (Nat.add_le_add_left cl _)) ((show Bd 64 b by unfold Bd; omega).mono (by decide))) (by decide)
      have cpos : 0 < cs.length := List.length_pos_iff.mpr cne
      walk_at "rd"
      refine rd_sum (.of hc) ?_
      walk_at "rd"
      generalize hw : cs.sum + b = wh at bs
      refine rd_I (show (0 : Int) < m - 1 by omega) ?_
      walk_at "rd"
      have k0 : 0 ≤ wh % (m - 1) := Int.emod_nonneg _ (by omega)
      have k1 : wh % (m - 1) < m - 1 := Int.emod_lt_of_pos _ (by omega)
      generalize wh % (m - 1) = k at k0 k1
      refine ⟨by show 4 ≤ sizeLine; rw [sizeLine_eq]; decide, fun t nt => ?_⟩
      walk_at "rn"
      have i0 : 0 ≤ wh / 3 % 4 := Int.emod_nonneg _ (by decide)
      have i1 : wh / 3 % 4 < 4 := Int.emod_lt_of_pos _ (by decide)
      obtain ⟨wv, ew, mw⟩ := atI_mod [V.int 3, V.int 8, V.int 25, V.int 100] (wh / 3 % 4) i0 i1
      obtain ⟨wd, rfl, w0, w1⟩ : ∃ wd : Int, wv = .int wd ∧ 1 ≤ wd ∧ wd ≤ 100 := by
        simp only [List.mem_cons, List.not_mem_nil, or_false] at mw
        rcases mw with rfl | rfl | rfl | rfl
        · exact ⟨3, rfl, by decide, by decide⟩
        · exact ⟨8, rfl, by decide, by decide⟩
        · exact ⟨25, rfl, by decide, by decide⟩
        · exact ⟨100, rfl, by decide, by decide⟩
      refine rd_ixT (.of upd_same) ew ?_
      have s2 := s1.trans (same_new (o := .tup [V.int 3, V.int 8, V.int 25, V.int 100]) nt)
      have hc2 := keep_new (o := .tup [V.int 3, V.int 8, V.int 25, V.int 100]) nt hc
      revert s2 hc2
      generalize upd H1 t (.tup [V.int 3, V.int 8, V.int 25, V.int 100]) = H2
      intro s2 hc2
      walk_at "rd"
      refine ⟨Nat.zero_le _, fun l nl => ?_⟩
      walk_at "rd"
      refine ⟨2 + k, rfl, by omega, by omega, ?_⟩
      have ncl : c ≠ l := ne_of_none hc2 nl
      refine for_range (lo := 0) (n := (2 + k).toNat) (fun i σ H3 => ∃ (L : List Int) (y8 y9 : Option V), σ = [some (.ref a), some (.int b), some (.int m), some (.ref c), some (.int wh), some (.int (2 + k)), some (.int wd), some (.ref l), y8, y9] ∧ Same H H3 ∧ H3 c = some (.lst (cs.map V.int)) ∧ H3 l = some (.lst (L.map V.int)) ∧ L.length = i ∧ ∀ z ∈ L, 1 ≤ z ∧ z ≤ 100)
        ⟨[], none, none, rfl, s2.trans (same_new nl), keep_new nl hc2, upd_same, rfl, fun z hz => nomatch hz⟩ (fun i σ H3 hi ⟨L, y8, y9, eσ, s3, hc3, hl3, len, hL⟩ => ?_) (fun σ H3 ⟨L, y8, y9, eσ, s3, hc3, hl3, len, hL⟩ => ?_)
      · subst eσ
        walk_at "rd"
        refine ⟨c, _, rfl, .inl (.of hc3), ?_⟩
        refine rd_I (show (0 : Int) < ((cs.map V.int).length : Int) by rw [List.length_map]; omega) ?_
        have j0 : 0 ≤ (0 + (i : Int) + b) % ((cs.map V.int).length : Int) := Int.emod_nonneg _ (by rw [List.length_map]; omega)
        have j1 : (0 + (i : Int) + b) % ((cs.map V.int).length : Int) < ((cs.map V.int).length : Int) := Int.emod_lt_of_pos _ (by rw [List.length_map]; omega)
        obtain ⟨cv, ec, mc⟩ := atI_mod (cs.map V.int) _ j0 j1
        obtain ⟨z, hz, rfl⟩ := List.mem_map.mp mc
        refine rd_ixL (.of hc3) ec ?_
        walk_at "rd"
        refine ⟨z, 0 + (i : Int) + b, wh, rfl, cb z hz, ⟨by omega, by omega⟩, bs, fun n => ?_⟩
        walk_at "rd"
        refine rd_tyl (.of hl3) ?_
        walk_at "rn"
        refine rd_I (show (0 : Int) < wd by omega) ?_
        walk_at "rd"
        have v0 : 0 ≤ n / 3 % wd := Int.emod_nonneg _ (by omega)
        have v1 : n / 3 % wd < wd := Int.emod_lt_of_pos _ (by omega)
        refine rd_append hl3 (by rw [List.length_map, sizeLine_eq]; omega) ?_
        refine ⟨L ++ [1 + n / 3 % wd], _, _, rfl, same_mut s3 (s2.free nl), keep_ne ncl hc3, ?_, by rw [List.length_append, len]; rfl, fun x hx => ?_⟩
        · rw [upd_same, List.map_append]
          rfl
        · rcases List.mem_append.mp hx with hx | hx
          · exact hL x hx
          · rw [List.mem_singleton.mp hx]
            omega
      · subst eσ
        walk_at "rd"
        refine rd_sortI (.of hl3) (fun L' p perm srt np => q _ p L' (s3.trans (same_new np)) (s3.free np) upd_same ?_ ?_)
        · have e := perm.length_eq
          unfold dieI
          simp only [Bool.and_eq_true, decide_eq_true_eq, List.all_eq_true]
          refine ⟨by omega, by omega, fun x hx => hL x (perm.mem_iff.mp hx), srt⟩
        · rw [perm.length_eq]
          omega
end
end Tw

set_option Elab.async false
set_option linter.all false
set_option maxRecDepth 100000
set_option maxHeartbeats 4000000
namespace Tw
open PySem PySem.Spec PyProof.Rows L2
local macro_rules | `(tactic| walk_at "rd0") => `(tactic| first
  | with_reducible refine Tw.rd_seq ?_
  | with_reducible refine Tw.rd_asg ?_
  | with_reducible refine Tw.rd_drop ?_
  | with_reducible refine Tw.rd_ret ?_
  | with_reducible refine Tw.rd_retN ?_
  | with_reducible refine Tw.rd_next ?_
  | ((with_reducible refine Tw.rd_var (v := ?vv) ?hv ?_); (case hv => exact rfl))
  | with_reducible refine Tw.rd_c ?_
  | with_reducible refine Tw.rd_op ?_
  | with_reducible refine Tw.rd_un ?_
  | with_reducible refine Tw.rd_I0 ?_
  | with_reducible refine Tw.rd_U ?_
  | with_reducible refine Tw.rd_test ?_
  | with_reducible refine Tw.rd_tB ?_
  | with_reducible refine Tw.rd_bl ?_
  | with_reducible refine Tw.rd_not ?_
  | with_reducible refine Tw.rd_and ?_
  | with_reducible refine Tw.rd_or ?_
  | with_reducible refine Tw.rd_andV ?_
  | with_reducible refine Tw.rd_orV ?_
  | with_reducible refine Tw.rd_notV ?_
  | with_reducible refine Tw.rd_tIf ?_
  | with_reducible refine Tw.rd_cb ?_
  | with_reducible refine Tw.rd_cons ?_
  | with_reducible refine Tw.rd_nil ?_
  | with_reducible refine Tw.rd_call ?_
  | with_reducible refine Tw.rd_tup ?_
  | with_reducible refine Tw.rd_lst ?_
  | with_reducible refine Tw.rd_gname ?_
  | with_reducible refine Tw.rd_chain ?_
  | with_reducible refine Tw.rd_lc ?_
  | with_reducible refine Tw.rd_il ?_
  | with_reducible refine Tw.rd_it ?_
  | with_reducible refine Tw.rd_ie ?_
  | with_reducible refine Tw.rd_ir ?_
  | with_reducible refine Tw.rd_ir2 ?_
  | with_reducible refine Tw.rd_dput ?_
  | with_reducible refine Tw.rd_dget2 ?_
  | with_reducible refine Tw.rd_items ?_
  | with_reducible refine Tw.rd_sl ?_
  | with_reducible refine Tw.rd_nopart ?_
  | with_reducible refine Tw.rd_part ?_
  | with_reducible refine Tw.rd_int ?_
  | with_reducible refine Tw.rd_revL ?_
  | with_reducible refine Tw.rd_bm ?_
  | with_reducible refine Tw.rd_bm0 ?_
  | with_reducible refine Tw.rd_lrg ?_
  | with_reducible refine Tw.rd_rg2 ?_
  | with_reducible refine Tw.rd_rg1 ?_
  | with_reducible refine Tw.rd_int2 ?_
  | with_reducible refine Tw.rd_augS ?_
  | with_reducible refine Tw.rd_ipI ?_
  | with_reducible refine Tw.rd_gsub ?_
  | with_reducible refine Tw.rd_gcons ?_
  | with_reducible refine Tw.rd_gnil ?_
  | with_reducible refine Tw.rd_par ?_
  | with_reducible refine Tw.rd_par2 ?_)
local macro_rules | `(tactic| walk_at "rd1") => `(tactic| first
  | walk_at "rd0"
  | with_reducible refine Tw.rd_if ?_
  | with_reducible refine Tw.rd_for ?_)
local macro_rules | `(tactic| walk_at "rs") => `(tactic| repeat walk_at "rd0")
local macro_rules | `(tactic| walk_at "rd") => `(tactic| repeat walk_at "rd1")
local macro_rules | `(tactic| walk_at "ini") => `(tactic| (dsimp only [L2.cxOf, L2.start, L2.Cx.wish, L2.Cx.nox, List.map, List.length_cons, List.length_nil, Nat.reduceAdd, Nat.reduceSub, List.replicate, List.cons_append, List.nil_append]; walk_at "rd"))
local macro_rules | `(tactic| walk_at "num") => `(tactic| first
  | exact (show (0 : Int) < _ from by decide)
  | exact (show (0 : Int) < _ ∧ _ < (1073741824 : Int) from by decide)
  | exact (show (0 : Int) ≤ _ ∧ _ ≤ (1000000 : Int) ∧ _ < 2 ^ 64 from by decide))
local macro_rules | `(tactic| walk_at "rn") => `(tactic| repeat (first | walk_at "rd1" | ((with_reducible refine Tw.rd_I ?c ?_); (case c => walk_at "num"))))

theorem sc__law_counts : FnScope ["_law_one", "_law_other", "_law_found", "_law_mine", "_law_theirs"] ["_law_one", "_law_other"] (defScope s__law_counts) := ⟨rfl, rfl, rfl, by decide +kernel, rfl, by decide +kernel, by decide +kernel⟩
section
variable {P : Program} {w : World} {K : PySem.W.Frag} {mg : Str → Option Value} {base : Heap}
theorem ok__law_counts {f : Addr} {fd : FuncData} (F : Fun K "_law_counts" "_law_counts" s__law_counts f fd) : FnOk P w K mg base CX0 1 f fd ["_law_one", "_law_other"] (spCounts K) := by
  refine F.ok sc__law_counts (fun vs H Q E h => ?_) (fun cdv A outer s H vs Q E hr h => ?_)
  · obtain ⟨a, b, one, other, rfl, _⟩ := h
    rfl
  · obtain ⟨a, b, one, other, rfl, h1, h2, l1, l2, q⟩ := h
    refine ⟨_, (pss_cons (ps_set (i := 2) sc__law_counts.nd rfl (Or.inl rfl) pe_dnewK)
    (pss_cons (ps_for PassesOwn.never rfl (pi_list (pv 0)) (pg_name (i := 3) sc__law_counts.nd rfl (Or.inl rfl))
      (pss_one (ps_for PassesOwn.never rfl (pi_list (pv 1)) (pg_name (i := 4) sc__law_counts.nd rfl (Or.inl rfl))
      (pss_one (ps_dput (hu_of hr) (pv 2) (pe_op op_add (pv 3) (pv 4)) (pe_op op_add (pe_dget2 (hu_of hr) (pv 2) (pe_op op_add (pv 3) (pv 4)) pe_int ⟨rfl, rfl, rfl, rfl⟩) pe_int) rfl)))))
    (pss_one (ps_ret (pv 2))))), ?_⟩
    walk_at "ini"
    refine rd_dnew fun d nd => ?_
    walk_at "rd"
    have s0 : Same H (upd H d (.dK [])) := same_new nd
    refine ⟨a, rfl, ⟨_, same_l s0 h1⟩, ?_⟩
    refine for_listP V.int one (fun dn σ H1 => ∃ y3 y4, σ = [some (.ref a), some (.ref b), some (.ref d), y3, y4] ∧ Same H H1 ∧ dn.length ≤ one.length ∧ H1 d = some (.dK (kvs (tally (allS dn other)))))
      ⟨none, none, rfl, s0, Nat.zero_le _, upd_same⟩ (fun dn σ H1 ⟨_, _, _, s1, _⟩ => same_l s1 h1) (fun dn m rs σ H1 e ⟨y3, y4, eσ, s1, hl, hd⟩ => ?_) (fun σ H1 ⟨y3, y4, eσ, s1, _, hd⟩ => ?_)
    · subst eσ
      have hl' : (dn ++ [m]).length ≤ one.length := by
        rw [e]
        simp
      walk_at "rd"
      refine ⟨b, rfl, ⟨_, same_l s1 h2⟩, ?_⟩
      refine for_listP V.int other (fun dn2 σ H2 => ∃ y4, σ = [some (.ref a), some (.ref b), some (.ref d), some (.int m), y4] ∧ Same H H2 ∧ dn2.length ≤ other.length ∧ H2 d = some (.dK (kvs (tallyF (tally (allS dn other)) (dn2.map fun t => m + t)))))
        ⟨y4, rfl, s1, Nat.zero_le _, hd⟩ (fun dn2 σ H2 ⟨_, _, s2, _⟩ => same_l s2 h2) (fun dn2 t rs2 σ H2 e2 ⟨y4, eσ, s2, hl2, hd2⟩ => ?_) (fun σ H2 ⟨y4, eσ, s2, _, hd2⟩ => ?_)
      · subst eσ
        walk_at "rd"
        refine ⟨d, rfl, .inl ⟨_, .inl hd2⟩, ?_⟩
        walk_at "rd"
        refine ⟨_, DGet.k (k := Sum.inl (m + t)) hd2, ?_⟩
        rw [getD_kvs]
        walk_at "rd"
        refine ⟨d, _, rfl, DPut.k (k := Sum.inl (m + t)) hd2 ?_, ?_⟩
        · have z1 := tallyF_len (dn2.map fun t => m + t) (tally (allS dn other))
          have z2 := tallyF_len (allS dn other) []
          rw [allS_len] at z2
          have z3 : dn.length * other.length ≤ 100 * 100 := Nat.mul_le_mul (by omega) l2
          have z4 : (tally (allS dn other)).length ≤ 0 + dn.length * other.length := z2
          rw [List.length_map] at z1
          have z5 : sizeLine = 16777216 := sizeLine_eq
          unfold kvs
          rw [List.length_map, z5]
          omega
        · refine ⟨some (.int t), rfl, same_mut s2 nd, ?_, ?_⟩
          · rw [e2]
            simp
          · rw [upd_same, put_kvs, List.map_append, tallyF_app]
            rfl
      · subst eσ
        refine ⟨some (.int m), y4, rfl, s2, hl', ?_⟩
        rw [hd2, allS_app, allS_one]
        unfold tally
        rw [tallyF_app]
    · subst eσ
      walk_at "rd"
      exact q H1 d s1 nd hd
end

theorem sc__law_whole : FnScope ["_law_found"] ["_law_found"] (defScope s__law_whole) := ⟨rfl, rfl, rfl, by decide +kernel, rfl, by decide +kernel, by decide +kernel⟩
section
variable {P : Program} {w : World} {K : PySem.W.Frag} {mg : Str → Option Value} {base : Heap}
theorem ok__law_whole {f : Addr} {fd : FuncData} (F : Fun K "_law_whole" "_law_whole" s__law_whole f fd) (B : Bn mg) : FnOk P w K mg base CX0 1 f fd ["_law_found"] (spIsWhole K) := by
  refine F.ok sc__law_whole (fun vs H Q E h => ?_) (fun cdv A outer s H vs Q E hr h => ?_)
  · obtain ⟨x, rfl, _⟩ := h
    rfl
  · obtain ⟨x, rfl, ⟨t, ty, e1, e2⟩, q⟩ := h
    rw [← wh_eq] at q
    refine ⟨_, (pss_one (ps_ret (pe_and (pe_callB (r := rIsi K) call_isi (by rfl) B.n_isinstance boot_isinstance (pa_cons (pv 0) (pa_cons (pe_ty B.n_int boot_int) pa_nil))) (pe_one (pe_not (pe_callB (r := rIsi K) call_isi (by rfl) B.n_isinstance boot_isinstance (pa_cons (pv 0) (pa_cons (pe_ty B.n_bool boot_bool) pa_nil)))))))), ?_⟩
    walk_at "rd"
    refine rd_isi (.ty _) ty e1 ?_
    walk_at "rd"
    cases h1 : intV x with
    | false =>
      rw [h1] at q
      exact iteF q
    | true =>
      rw [h1] at q
      refine iteT ?_
      walk_at "rd"
      refine rd_isi (.ty _) ty e2 ?_
      walk_at "rd"
      exact q
end

/-! ### the law -/
theorem sc_law : FnScope ["_law_script", "_law_whole_here", "_law_by", "_law_one", "_law_other", "_law_handed", "_law_due", "_law_again", "_law_found", "_law_pair", "_law_total", "_law_often"] ["_law_script"] (defScope s_law) := ⟨rfl, rfl, rfl, by decide +kernel, rfl, by decide +kernel, by decide +kernel⟩
theorem sh_two (a b : List Int) : Sh 2 (.list [dI a, dI b]) := sh_list fun d hd => by
  simp only [List.mem_cons, List.not_mem_nil, or_false] at hd
  rcases hd with rfl | rfl <;> exact sh_ints _
theorem sums_len {one other : List Int} (h1 : dieI one = true) (h2 : dieI other = true) : (sumsM one other).length < sizeLine := by
  have l1 := dieI_len h1
  have l2 := dieI_len h2
  have z1 := tallyF_len (allS one other) []
  rw [allS_len] at z1
  have z2 : one.length * other.length ≤ 72 * 72 := Nat.mul_le_mul (by omega) (by omega)
  have z4 : (sumsM one other).length = (tally (allS one other)).length := (isort_perm leP _).length_eq
  have z5 : (tally (allS one other)).length ≤ 0 + one.length * other.length := z1
  rw [sizeLine_eq]
  omega
section
variable {P : Program} {w : World} {K : PySem.W.Frag} {mg : Str → Option Value} {base : Heap}
def spLaw (K : PySem.W.Frag) : Sp := fun vs H Q _ => ∃ (a : Addr) (ns : List Int), vs = [.ref a] ∧ SqL K H a (ns.map V.int) ∧ ns.length ≤ 63 ∧ (∀ z ∈ ns, Bd 1048576 z) ∧ ∀ H', Q (.bl true) H'
theorem ok_law {f C : Addr} {fd : FuncData} (F : Fun K "law" "law" s_law f fd) (B : Bn mg) (d_sums : Df P w K mg base (L2.CX P w) 3 "sums" ["one", "other"] (spSums K C)) (d__law_die : Df P w K mg base CX0 2 "_law_die" ["_law_script", "_law_by", "_law_most"] (spLDie K))
    (d__law_whole : Df P w K mg base CX0 1 "_law_whole" ["_law_found"] (spIsWhole K)) (d__law_counts : Df P w K mg base CX0 1 "_law_counts" ["_law_one", "_law_other"] (spCounts K)) : FnOk P w K mg base CX0 4 f fd ["_law_script"] (spLaw K) := by
  refine F.ok sc_law (fun vs H Q E h => ?_) (fun cdv A outer s H vs Q E hr h => ?_)
  · obtain ⟨a, ns, rfl, _⟩ := h
    rfl
  · obtain ⟨a, ns, rfl, hS, hl, hb, q⟩ := h
    refine ⟨_, (pss_cons (ps_set (i := 1) sc_law.nd rfl (Or.inl rfl) (pe_callB (r := rSum K) (cr_sum rfl) (by rfl) B.n_sum boot_sum (pa_cons (pe_slice (r := rSlL K) sl_list (pv 0) po_none (po_some pe_int)) pa_nil)))
    (pss_cons (ps_for PassesOwn.never rfl (pi_range1 (by rfl) B.n_range (pa_cons pe_int pa_nil)) (pg_name (i := 2) sc_law.nd rfl (Or.inl rfl))
      (pss_cons (ps_par (i := 3) (j := 4) (by rfl) sc_law.nd rfl rfl (by decide) rfl rfl (pa_cons (pe_df d__law_die (hr.mono (by decide)) (by rfl) pass0 (pa_cons (pv 0) (pa_cons (pv 2) (pa_cons pe_int pa_nil)))) (pa_cons (pe_df d__law_die (hr.mono (by decide)) (by rfl) pass0 (pa_cons (pv 0) (pa_cons (pe_op op_add (pv 2) pe_int) (pa_cons pe_int pa_nil)))) pa_nil)) (by rfl))
    (pss_cons (ps_if (pt_cmpR op_eq (pe_op op_mod (pv 1) pe_int) pe_int (nomark _)) (pss_one (ps_set (i := 3) sc_law.nd rfl (Or.inl rfl) (pe_callB (r := rSortedI K) cr_sortedI (by rfl) B.n_sorted boot_sorted (pa_cons (pe_slice (r := rSlL K) sl_list (pe_op op_rep (pv 3) pe_int) po_none (po_some pe_int)) pa_nil)))) pss_nil)
    (pss_cons (ps_set (i := 5) sc_law.nd rfl (Or.inl rfl) (pe_lst (pa_cons (pe_callTy (r := rListOf K) call_listQ (by rfl) B.n_list boot_list (pa_cons (pv 3) pa_nil)) (pa_cons (pe_callTy (r := rListOf K) call_listQ (by rfl) B.n_list boot_list (pa_cons (pv 4) pa_nil)) pa_nil))))
    (pss_cons (ps_set (i := 6) sc_law.nd rfl (Or.inl rfl) (pe_callB (r := rSortD K) (cr_sortD hr.units) (by rfl) B.n_sorted boot_sorted (pa_cons (LiI.pe_listItems rfl (pe_df d__law_counts (hr.mono (by decide)) (by rfl) pass0 (pa_cons (pv 3) (pa_cons (pv 4) pa_nil))) (by rfl) B.n_list boot_list) pa_nil)))
    (pss_one (ps_for PassesOwn.never rfl (pi_range1 (by rfl) B.n_range (pa_cons pe_int pa_nil)) (pg_name (i := 7) sc_law.nd rfl (Or.inl rfl))
      (pss_cons (ps_set (i := 8) sc_law.nd rfl (Or.inl rfl) (pe_df d_sums (hr.mono (by decide)) (by rfl) passL (pa_cons (pe_ix (r := rIxL K) ix_list (pv 5) pe_int (fun _ _ => rfl)) (pa_cons (pe_ix (r := rIxL K) ix_list (pv 5) pe_int (fun _ _ => rfl)) pa_nil))))
    (pss_cons (ps_if (PW.pt (pw_or (pt_not (pt_val (pe_callB (r := rIsi K) call_isi (by rfl) B.n_isinstance boot_isinstance (pa_cons (pv 8) (pa_cons (pe_ty B.n_list boot_list) pa_nil))))) (pw_or (pt_cmpR (op_neD hr.units) (pv 8) (pv 6) (nomark _)) (pw_or1 (pt_cmpR (op_neD hr.units) (pv 5) (pe_lst (pa_cons (pv 3) (pa_cons (pv 4) pa_nil))) (nomark _)))))) (pss_one (ps_ret pe_bl)) pss_nil)
    (pss_cons (ps_if (pt_not (pt_val (pe_callB (r := rAll K) (cr_all rfl) (by rfl) B.n_all boot_all (pa_cons (pe_lc (own := [("_law_pair", 9)]) (g := gName 9) rfl sc_law.nd (pi_list (pv 8)) (blkOk_by (own := [("_law_pair", 9)]) (N := ["_law_script", "_law_whole_here", "_law_by", "_law_one", "_law_other", "_law_handed", "_law_due", "_law_again", "_law_found", "_law_pair", "_law_total", "_law_often"]) (sc := defScope s_law) (by decide +kernel)) (fun _ _ _ _ _ => pg_name (i := 9) sc_law.nd rfl (Or.inl rfl)) (fun _ _ _ _ _ => pts_nil) (fun _ _ _ _ _ => (pe_and (pe_callB (r := rIsi K) call_isi (by rfl) B.n_isinstance boot_isinstance (pa_cons (pv 9) (pa_cons (pe_ty B.n_tuple boot_tuple) pa_nil))) (pe_and (pe_df d__law_whole (hr.mono (by decide)) (by rfl) pass0 (pa_cons (pe_ix (r := rIxT K) ix_tup (pv 9) pe_int (fun _ _ => rfl)) pa_nil)) (pe_one (pe_df d__law_whole (hr.mono (by decide)) (by rfl) pass0 (pa_cons (pe_ix (r := rIxT K) ix_tup (pv 9) pe_int (fun _ _ => rfl)) pa_nil))))))) pa_nil)))) (pss_one (ps_ret pe_bl)) pss_nil)
    (pss_cons (ps_if (PW.pt (pw_or (pt_cmpR op_ne (pe_callB (r := rSum K) (cr_sum rfl) (by rfl) B.n_sum boot_sum (pa_cons (pe_lc (own := [("_law_total", 10), ("_law_often", 11)]) (g := gTup K 2 (gCons (gName 10) (gCons (gName 11) gNil))) rfl sc_law.nd (pi_list (pv 8)) (blkOk_by (own := [("_law_total", 10), ("_law_often", 11)]) (N := ["_law_script", "_law_whole_here", "_law_by", "_law_one", "_law_other", "_law_handed", "_law_due", "_law_again", "_law_found", "_law_pair", "_law_total", "_law_often"]) (sc := defScope s_law) (by decide +kernel)) (fun _ _ _ _ _ => (pg_tup rfl (pgs_cons (pg_name (i := 10) sc_law.nd rfl (Or.inl rfl)) (pgs_cons (pg_name (i := 11) sc_law.nd rfl (Or.inl rfl)) pgs_nil)))) (fun _ _ _ _ _ => pts_nil) (fun _ _ _ _ _ => (pv 11))) pa_nil)) (pe_op op_mul (pe_callB (r := rLen K) call_lenQ (by rfl) B.n_len boot_len (pa_cons (pv 3) pa_nil)) (pe_callB (r := rLen K) call_lenQ (by rfl) B.n_len boot_len (pa_cons (pv 4) pa_nil))) (nomark _)) (pw_or1 (pt_cmpR (op_neD hr.units) (pe_df d_sums (hr.mono (by decide)) (by rfl) passL (pa_cons (pv 4) (pa_cons (pv 3) pa_nil))) (pv 8) (nomark _))))) (pss_one (ps_ret pe_bl)) pss_nil)
    (pss_one (ps_expr (pe_bm PySem.F.plainAttrs_list PySem.F.slot_list_append PySem.F.type_list_append mt_append (pv 8) (pa_cons (pe_tup (pa_cons pe_int (pa_cons pe_int pa_nil))) pa_nil)))))))))))))))
    (pss_one (ps_ret (pe_cmpR (op_eqD hr.units) (pe_df d_sums (hr.mono (by decide)) (by rfl) passL (pa_cons (pe_lst (pa_cons pe_int (pa_cons pe_int pa_nil))) (pa_cons (pe_lst (pa_cons pe_int (pa_cons pe_int (pa_cons pe_int pa_nil)))) pa_nil))) (pe_lst (pa_cons (pe_tup (pa_cons pe_int (pa_cons pe_int pa_nil))) (pa_cons (pe_tup (pa_cons pe_int (pa_cons pe_int pa_nil))) (pa_cons (pe_tup (pa_cons pe_int (pa_cons pe_int pa_nil))) (pa_cons (pe_tup (pa_cons pe_int (pa_cons pe_int pa_nil))) pa_nil))))) (nomark _)))))), ?_⟩
    walk_at "ini"
    refine rd_slL hS (fun p np => ?_)
    walk_at "rd"
    refine rd_sum (ns := ns.take 63) (.of (by rw [upd_same, cut_63, List.map_take])) ?_
    walk_at "rd"
    refine ⟨2, rfl, by decide, by decide, ?_⟩
    have s0 : Same H (upd H p (.lst (cutV (ns.map V.int) none (some 63)))) := same_new np
    generalize hW : (ns.take 63).sum = W
    refine for_range (lo := 0) (n := 2) (fun i σ H1 => ∃ y2 y3 y4 y5 y6 y7 y8 y9 y10 y11, σ = [some (.ref a), some (.int W), y2, y3, y4, y5, y6, y7, y8, y9, y10, y11] ∧ Same H H1)
      ⟨none, none, none, none, none, none, none, none, none, none, rfl, s0⟩ (fun i σ H1 hi ⟨y2, y3, y4, y5, y6, y7, y8, y9, y10, y11, eσ, s1⟩ => ?_) (fun σ H1 ⟨y2, y3, y4, y5, y6, y7, y8, y9, y10, y11, eσ, s1⟩ => ?_)
    · subst eσ
      walk_at "rd"
      refine ⟨a, ns, 0 + (i : Int), 14, rfl, same_l s1 hS, hl, hb, by omega, by omega, by decide, by decide, fun H2 p3 one s2 np3 h3 d3 l3 => ?_⟩
      walk_at "rd"
      refine ⟨a, ns, 0 + (i : Int) + 4, 14, rfl, same_l (s1.trans s2) hS, hl, hb, by omega, by omega, by decide, by decide, fun H3 p4 other s3 np4 h4 d4 l4 => ?_⟩
      walk_at "rs"
      refine cutS (fun σ H4 => ∃ p3 one, σ = [some (.ref a), some (.int W), some (.int (0 + (i : Int))), some (.ref p3), some (.ref p4), y5, y6, y7, y8, y9, y10, y11] ∧ Same H H4 ∧ H4 p3 = some (.lst (one.map V.int)) ∧ H4 p4 = some (.lst (other.map V.int)) ∧ dieI one = true) (fun N hN => ?_) (fun σ H4 h => ?_)
      · have s13 := (s1.trans s2).trans s3
        have h3' := s3 _ _ h3
        walk_at "rn"
        refine ⟨rfl, ?_⟩
        walk_at "rd"
        refine ite2 (fun _ => ?_) (fun _ => hN _ _ ⟨p3, one, rfl, s13, h3', h4, d3⟩)
        walk_at "rd"
        have l1 := dieI_len d3
        refine rd_rep h3' (by decide) (by decide) (by rw [List.length_map, sizeLine_eq]; show one.length * 36 ≤ _; omega) (fun q1 nq1 => ?_)
        walk_at "rd"
        refine rd_slL (.of upd_same) (fun q2 nq2 => ?_)
        walk_at "rd"
        have eF : cutV (List.replicate (36 : Int).toNat (one.map V.int)).flatten none (some 72) = ((List.replicate 36 one).flatten.take 72).map V.int := by
          show cutV _ none (some ((72 : Nat) : Int)) = _
          rw [cut_to, List.map_take, List.map_flatten, List.map_replicate]
          rfl
        rw [eF]
        refine rd_sortI (.of upd_same) (fun L q3 perm srt nq3 => ?_)
        refine hN _ _ ⟨q3, L, rfl, s13.trans ((same_new nq1).trans ((same_new nq2).trans (same_new nq3))), upd_same, keep_new nq3 (keep_new nq2 (keep_new nq1 h4)), ?_⟩
        have e := perm.length_eq
        have eL : ((List.replicate 36 one).flatten.take 72).length = 72 := by
          rw [List.length_take, List.length_flatten, List.map_replicate, List.sum_replicate_nat]
          omega
        have dd := d3
        unfold dieI at dd ⊢
        simp only [Bool.and_eq_true, decide_eq_true_eq, List.all_eq_true] at dd ⊢
        refine ⟨by omega, by omega, fun x hx => dd.2.2.1 x ?_, srt⟩
        have hx2 := List.mem_of_mem_take (perm.mem_iff.mp hx)
        obtain ⟨l, hl1, hl2⟩ := List.mem_flatten.mp hx2
        rw [(List.mem_replicate.mp hl1).2] at hl2
        exact hl2
      · clear h3 d3 l3 np3
        obtain ⟨p3, one, rfl, s4, h3, h4, d3⟩ := h
        have l3 := dieI_len d3
        have l4' := dieI_len d4
        walk_at "rd"
        refine ⟨p3, _, rfl, .inl (.of h3), fun a1 na1 => ?_⟩
        walk_at "rd"
        refine ⟨p4, _, rfl, .inl (.of (keep_new na1 h4)), fun a2 na2 => ?_⟩
        walk_at "rd"
        refine ⟨by show 2 ≤ sizeLine; rw [sizeLine_eq]; decide, fun hd nhd => ?_⟩
        have s5 : Same H4 (upd (upd (upd H4 a1 (.lst (one.map V.int))) a2 (.lst (other.map V.int))) hd (.lst [.ref a1, .ref a2])) := (same_new na1).trans ((same_new na2).trans (same_new nhd))
        have ha1 := keep_new (o := .lst [V.ref a1, V.ref a2]) nhd (keep_new (o := .lst (other.map V.int)) na2 (upd_same (H := H4) (a := a1) (o := .lst (one.map V.int))))
        have ha2 := keep_new (o := .lst [V.ref a1, V.ref a2]) nhd (upd_same (H := upd H4 a1 (.lst (one.map V.int))) (a := a2) (o := .lst (other.map V.int)))
        have hhd := upd_same (H := upd (upd H4 a1 (.lst (one.map V.int))) a2 (.lst (other.map V.int))) (a := hd) (o := .lst [V.ref a1, V.ref a2])
        revert s5 ha1 ha2 hhd
        generalize upd (upd (upd H4 a1 (.lst (one.map V.int))) a2 (.lst (other.map V.int))) hd (.lst [.ref a1, .ref a2]) = H5
        intro s5 ha1 ha2 hhd
        have h3' := s5 _ _ h3
        have h4' := s5 _ _ h4
        walk_at "rd"
        refine ⟨p3, p4, one, other, rfl, .of h3', .of h4', by omega, by omega, fun H6 d s6 nd hd6 => ?_⟩
        refine ⟨d, _, rfl, hd6, fun H7 l ts s7 nl nts nlts hl7 hp7 => ?_⟩
        obtain ⟨zs, e1, e2, hz⟩ := items_zs hp7
        walk_at "rd"
        refine rd_sortT srt_dP zs (.of (by rw [e1]; exact hl7)) (fun z hz' => pairT_dp (hz z hz')) (fun du zs' ndu perm e3 => ?_)
        have s8 : Same H5 (upd H7 du (.lst (zs'.map (·.1)))) := (s6.trans s7).trans (same_new ndu)
        have hdu := upd_same (H := H7) (a := du) (o := .lst (zs'.map (·.1)))
        have hz8 : ∀ z ∈ zs', PairT (upd H7 du (.lst (zs'.map (·.1)))) z := fun z hz' => same_pairT (same_new ndu) (hz z (perm.mem_iff.mp hz'))
        revert s8 hdu hz8
        generalize upd H7 du (.lst (zs'.map (·.1))) = H8
        intro s8 hdu hz8
        rw [e2] at e3
        have e3' : zs'.map (·.2) = sumsM one other := e3
        walk_at "rd"
        refine ⟨2, rfl, by decide, by decide, ?_⟩
        refine for_range (lo := 0) (n := 2) (fun j σ H9 => ∃ y7 y8 y9 y10 y11, σ = [some (.ref a), some (.int W), some (.int (0 + (i : Int))), some (.ref p3), some (.ref p4), some (.ref hd), some (.ref du), y7, y8, y9, y10, y11] ∧ Same H8 H9)
          ⟨y7, y8, y9, y10, y11, rfl, Same.refl _⟩ (fun j σ H9 hj ⟨y7, y8, y9, y10, y11, eσ, s9⟩ => ?_) (fun σ H9 ⟨y7, y8, y9, y10, y11, eσ, s9⟩ => ?_)
        · subst eσ
          have s59 := s8.trans s9
          have hh9 := s59 _ _ hhd
          have ha19 := s59 _ _ ha1
          have ha29 := s59 _ _ ha2
          walk_at "rd"
          refine rd_ixL (.of hh9) (atI_nat (j := 0) rfl) ?_
          walk_at "rd"
          refine rd_ixL (.of hh9) (atI_nat (j := 1) rfl) ?_
          walk_at "rd"
          refine ⟨.ref a1, .ref a2, rfl, .inr ⟨a1, one, ⟨rfl, .of ha19, d3⟩, .inr ⟨a2, other, ⟨rfl, .of ha29, d4⟩, fun H10 fo zf s10 nfo hfo ezf hzf => ?_⟩⟩⟩
          have s510 := s59.trans s10
          have s810 := s9.trans s10
          walk_at "rd"
          refine rd_isi (.ty _) (tyx_list (.of hfo)) kit_ll ?_
          walk_at "rd"
          refine iteF ?_
          walk_at "rd"
          refine rd_neD (dp_zs (.of hfo) hzf) (dp_zs (.of (s810 _ _ hdu)) fun z hz' => same_pairT s810 (hz8 z hz')) (shaped_of (sh_dPs _)) (shaped_of (sh_dPs _)) ?_
          rw [ezf, e3', eqv_self (sh_dPs _)]
          walk_at "rd"
          refine iteF ?_
          walk_at "rd"
          refine ⟨by show 2 ≤ sizeLine; rw [sizeLine_eq]; decide, fun dp ndp => ?_⟩
          have s11 : Same H10 (upd H10 dp (.lst [.ref p3, .ref p4])) := same_new ndp
          have s511 := s510.trans s11
          refine rd_neD (d := .list [dI one, dI other]) (e := .list [dI one, dI other])
            (.lst (.of (s511 _ _ hhd)) (.cons (dp_ints (.of (s511 _ _ ha1))) (.cons (dp_ints (.of (s511 _ _ ha2))) .nil)))
            (.lst (.of upd_same) (.cons (dp_ints (.of (s511 _ _ h3'))) (.cons (dp_ints (.of (s511 _ _ h4'))) .nil))) (shaped_of (sh_two _ _)) (shaped_of (sh_two _ _)) ?_
          rw [eqv_self (sh_two _ _)]
          walk_at "rd"
          refine iteF ?_
          have hfo11 := s11 _ _ hfo
          have hzf11 : ∀ z ∈ zf, PairT (upd H10 dp (.lst [.ref p3, .ref p4])) z := fun z hz' => same_pairT s11 (hzf z hz')
          revert s11 s511 hfo11 hzf11
          generalize upd H10 dp (.lst [.ref p3, .ref p4]) = H11
          intro s11 s511 hfo11 hzf11
          have zlen : zf.length ≤ sizeLine := by
            have z3 : zf.length = (sumsM one other).length := by rw [← ezf, List.length_map]
            rw [z3]
            exact Nat.le_of_lt (sums_len d3 d4)
          walk_at "rd"
          refine ⟨fo, rfl, ⟨_, .of hfo11⟩, fun R nR => ?_⟩
          refine lc_mapP (fun z : V × (Int × Int) => z.1) (fun _ => V.bl true) zf nR (.of hfo11) zlen (fun z hz' H12 s12 Q' q' => ⟨rfl, ?_⟩) (fun H12 s12 h12 => ?_)
          · obtain ⟨t, et, ht⟩ := same_pairT s12 (hzf11 z hz')
            walk_at "rd"
            rw [et]
            refine rd_isi (.ty _) (tyx_tuple (.of ht)) kit_tt ?_
            walk_at "rd"
            refine iteT ?_
            walk_at "rd"
            refine rd_ixT (.of ht) (atI_nat (j := 0) rfl) ?_
            walk_at "rd"
            refine ⟨_, rfl, kn_int, ?_⟩
            walk_at "rd"
            refine iteT ?_
            walk_at "rd"
            refine rd_ixT (.of ht) (atI_nat (j := 1) rfl) ?_
            walk_at "rd"
            exact ⟨_, rfl, kn_int, q' _ (Same.refl _)⟩
          · walk_at "rd"
            refine rd_all (bs := zf.map fun _ => true) (.of (by rw [h12, List.map_map]; rfl)) ?_
            rw [List.all_map, show zf.all (id ∘ fun _ => true) = true from List.all_eq_true.mpr fun _ _ => rfl]
            walk_at "rd"
            refine iteF ?_
            have hfo12 := s12 _ _ hfo11
            have s512 := s511.trans s12
            walk_at "rd"
            refine ⟨fo, rfl, ⟨_, .of hfo12⟩, fun R2 nR2 => ?_⟩
            refine lc_mapP (fun z : V × (Int × Int) => z.1) (fun z => V.int z.2.2) zf nR2 (.of hfo12) zlen (fun z hz' H13 s13 Q' q' => ?_) (fun H13 s13 h13 => ?_)
            · obtain ⟨t, et, ht⟩ := same_pairT (s12.trans s13) (hzf11 z hz')
              rw [et]
              refine rd_gtup (.of ht) rfl ?_
              walk_at "rd"
              refine ⟨rfl, ?_⟩
              walk_at "rd"
              exact q' _ (Same.refl _)
            · walk_at "rd"
              refine rd_sum (ns := zf.map fun z => z.2.2) (.of (by rw [h13, List.map_map]; rfl)) ?_
              have es : (zf.map fun z => z.2.2).sum = (one.length : Int) * other.length := by
                rw [← sumsM_sum, ← ezf, List.map_map]
                rfl
              rw [es]
              have s513 := s512.trans s13
              walk_at "rd"
              refine ⟨p3, _, rfl, .inl (.of (s513 _ _ h3')), ?_⟩
              walk_at "rd"
              refine ⟨p4, _, rfl, .inl (.of (s513 _ _ h4')), ?_⟩
              rw [List.length_map, List.length_map]
              refine rd_I (.inl ⟨by omega, by omega⟩) ?_
              refine ⟨rfl, ?_⟩
              rw [decide_eq_true rfl]
              walk_at "rd"
              refine iteF ?_
              walk_at "rd"
              refine ⟨.ref p4, .ref p3, rfl, .inr ⟨p4, other, ⟨rfl, .of (s513 _ _ h4'), d4⟩, .inr ⟨p3, one, ⟨rfl, .of (s513 _ _ h3'), d3⟩, fun H14 fo2 zf2 s14 nfo2 hfo2 ezf2 hzf2 => ?_⟩⟩⟩
              walk_at "rd"
              have s1114 := (s12.trans s13).trans s14
              have hfo14 := s1114 _ _ hfo11
              refine rd_neD (dp_zs (.of hfo2) hzf2) (dp_zs (.of hfo14) fun z hz' => same_pairT s1114 (hzf11 z hz')) (shaped_of (sh_dPs _)) (shaped_of (sh_dPs _)) ?_
              rw [ezf, ezf2, sumsM_comm other one, eqv_self (sh_dPs _)]
              walk_at "rd"
              refine iteF ?_
              walk_at "rd"
              refine rd_tyl (.of hfo14) ?_
              walk_at "rd"
              refine ⟨by show 2 ≤ sizeLine; rw [sizeLine_eq]; decide, fun tz ntz => ?_⟩
              walk_at "rd"
              refine rd_append (keep_new ntz hfo14) ?_ ?_
              · rw [List.length_map]
                exact Nat.lt_of_le_of_lt (Nat.le_of_eq (by rw [← List.length_map (f := fun z : V × (Int × Int) => z.2), ezf])) (sums_len d3 d4)
              · refine ⟨_, _, _, _, _, rfl, ?_⟩
                have s914 : Same H9 H14 := s10.trans (s11.trans s1114)
                exact s9.trans (same_mut (s914.trans (same_new ntz)) nfo)
        · subst eσ
          exact ⟨_, _, _, _, _, _, _, _, _, _, rfl, s4.trans (s5.trans (s8.trans s9))⟩
    · subst eσ
      walk_at "rd"
      refine ⟨by show 2 ≤ sizeLine; rw [sizeLine_eq]; decide, fun b1 nb1 => ?_⟩
      walk_at "rd"
      refine ⟨by show 3 ≤ sizeLine; rw [sizeLine_eq]; decide, fun b2 nb2 => ?_⟩
      walk_at "rd"
      refine ⟨.ref b1, .ref b2, rfl, .inr ⟨b1, [1, 2], ⟨rfl, .of (keep_new nb2 upd_same), by decide⟩, .inr ⟨b2, [1, 1, 3], ⟨rfl, .of upd_same, by decide⟩, fun H2 fo zf s2 nfo hfo ezf hzf => ?_⟩⟩⟩
      walk_at "rd"
      refine ⟨by show 2 ≤ sizeLine; rw [sizeLine_eq]; decide, fun t1 nt1 => ?_⟩
      walk_at "rd"
      refine ⟨by show 2 ≤ sizeLine; rw [sizeLine_eq]; decide, fun t2 nt2 => ?_⟩
      walk_at "rd"
      refine ⟨by show 2 ≤ sizeLine; rw [sizeLine_eq]; decide, fun t3 nt3 => ?_⟩
      walk_at "rd"
      refine ⟨by show 2 ≤ sizeLine; rw [sizeLine_eq]; decide, fun t4 nt4 => ?_⟩
      walk_at "rd"
      refine ⟨by show 4 ≤ sizeLine; rw [sizeLine_eq]; decide, fun t5 nt5 => ?_⟩
      have s7 := (same_new (o := .tup [.int 2, .int 2]) nt1).trans ((same_new (o := .tup [.int 3, .int 2]) nt2).trans ((same_new (o := .tup [.int 4, .int 1]) nt3).trans ((same_new (o := .tup [.int 5, .int 1]) nt4).trans (same_new (o := .lst [V.ref t1, V.ref t2, V.ref t3, V.ref t4]) nt5))))
      refine rd_eqD (e := dPs [(2, 2), (3, 2), (4, 1), (5, 1)]) (dp_zs (.of (s7 _ _ hfo)) fun z hz' => same_pairT s7 (hzf z hz')) ?_ (shaped_of (sh_dPs _)) (shaped_of (sh_dPs _)) ?_
      · refine .lst (.of upd_same) (.cons (.tup (.of (keep_new nt5 (keep_new nt4 (keep_new nt3 (keep_new nt2 upd_same))))) (.cons (.int _) (.cons (.int _) .nil)))
          (.cons (.tup (.of (keep_new nt5 (keep_new nt4 (keep_new nt3 upd_same)))) (.cons (.int _) (.cons (.int _) .nil)))
          (.cons (.tup (.of (keep_new nt5 (keep_new nt4 upd_same))) (.cons (.int _) (.cons (.int _) .nil)))
          (.cons (.tup (.of (keep_new nt5 upd_same)) (.cons (.int _) (.cons (.int _) .nil))) .nil))))
      · rw [ezf, show sumsM [1, 2] [1, 1, 3] = [(2, 2), (3, 2), (4, 1), (5, 1)] by decide +kernel, eqv_self (sh_dPs _)]
        exact q _
end
end Tw

set_option Elab.async false
set_option linter.all false
set_option maxRecDepth 100000
set_option maxHeartbeats 4000000
namespace Tw
open PySem PySem.Spec PyProof.Rows L2
/-! ### what the top has left -/
theorem all_mk {l : PySem.W.OpenLaw} {w : World} {K : PySem.W.Frag} {h : Heap} {mg : Str → Option Value} {fa f_is_whole f_check_die f_counts_of f_sums f__law_number f__law_whole f__law_die f__law_counts f_law C_BadDie : Addr} (X : K.In h) (G : h.Ns mainGlobals mg) (hfa : mg "law" = some (.ref fa))
    (G_is_whole : PySem.W.nsIn K mainGlobals "is_whole" = some (some (.ref f_is_whole))) (D_is_whole : DefIn K "is_whole" "is_whole" s_is_whole f_is_whole)
    (G_check_die : PySem.W.nsIn K mainGlobals "check_die" = some (some (.ref f_check_die))) (D_check_die : DefIn K "check_die" "check_die" s_check_die f_check_die)
    (G_counts_of : PySem.W.nsIn K mainGlobals "counts_of" = some (some (.ref f_counts_of))) (D_counts_of : DefIn K "counts_of" "counts_of" s_counts_of f_counts_of)
    (G_sums : PySem.W.nsIn K mainGlobals "sums" = some (some (.ref f_sums))) (D_sums : DefIn K "sums" "sums" s_sums f_sums)
    (G__law_number : PySem.W.nsIn K mainGlobals "_law_number" = some (some (.ref f__law_number))) (D__law_number : DefIn K "_law_number" "_law_number" s__law_number f__law_number)
    (G__law_whole : PySem.W.nsIn K mainGlobals "_law_whole" = some (some (.ref f__law_whole))) (D__law_whole : DefIn K "_law_whole" "_law_whole" s__law_whole f__law_whole)
    (G__law_die : PySem.W.nsIn K mainGlobals "_law_die" = some (some (.ref f__law_die))) (D__law_die : DefIn K "_law_die" "_law_die" s__law_die f__law_die)
    (G__law_counts : PySem.W.nsIn K mainGlobals "_law_counts" = some (some (.ref f__law_counts))) (D__law_counts : DefIn K "_law_counts" "_law_counts" s__law_counts f__law_counts)
    (G_law : PySem.W.nsIn K mainGlobals "law" = some (some (.ref f_law))) (D_law : DefIn K "law" "law" s_law f_law)
    (g_BadDie : PySem.W.nsIn K mainGlobals "BadDie" = some (some (.ref C_BadDie))) (x_BadDie : PySem.W.excIn K C_BadDie [.type "ValueError", .type "Exception", .type "BaseException", .type "object"] "ValueError.__new__" = true) (k_BadDie : PySem.W.keepIn K (.ref C_BadDie) = true) (b_BadDie : PySem.W.subIn K (.ref C_BadDie) (.type "BaseException") = some true) (t_BadDie : PySem.W.typeIn K (.ref C_BadDie) = some (.type "type"))
    (m_MOST_SIDES : ∃ t, PySem.W.nsIn K mainGlobals "MOST_SIDES" = some (some (.int 72 t)))
    (m_MOST_NUMBER : ∃ t, PySem.W.nsIn K mainGlobals "MOST_NUMBER" = some (some (.int 100 t)))
    (z_isinstance : PySem.W.nsIn K mainGlobals "isinstance" = some none)
    (z_int : PySem.W.nsIn K mainGlobals "int" = some none)
    (z_bool : PySem.W.nsIn K mainGlobals "bool" = some none)
    (z_list : PySem.W.nsIn K mainGlobals "list" = some none)
    (z_tuple : PySem.W.nsIn K mainGlobals "tuple" = some none)
    (z_len : PySem.W.nsIn K mainGlobals "len" = some none)
    (z_all : PySem.W.nsIn K mainGlobals "all" = some none)
    (z_any : PySem.W.nsIn K mainGlobals "any" = some none)
    (z_sum : PySem.W.nsIn K mainGlobals "sum" = some none)
    (z_sorted : PySem.W.nsIn K mainGlobals "sorted" = some none)
    (z_range : PySem.W.nsIn K mainGlobals "range" = some none)
    (z_enumerate : PySem.W.nsIn K mainGlobals "enumerate" = some none)
    (z_max : PySem.W.nsIn K mainGlobals "max" = some none)
    (z_min : PySem.W.nsIn K mainGlobals "min" = some none)
    (z_abs : PySem.W.nsIn K mainGlobals "abs" = some none)
    (z_dict : PySem.W.nsIn K mainGlobals "dict" = some none)
    (z_str : PySem.W.nsIn K mainGlobals "str" = some none)
    (z_set : PySem.W.nsIn K mainGlobals "set" = some none)
    : ∃ fd : FuncData, (∀ (s : Shared) (v : Value), BindsTo s fd ⟨[v], []⟩ [("_law_script", v)]) ∧ ∀ base : Heap, K.In base → base.Ns mainGlobals mg → FnOk l.prog w K mg base CX0 4 fa fd ["_law_script"] (spLaw K) := by
  have e := hfa.symm.trans (PySem.W.mg_of X G G_law)
  cases e
  have B : Bn mg := ⟨PySem.W.mg_none_of X G z_isinstance, PySem.W.mg_none_of X G z_int, PySem.W.mg_none_of X G z_bool, PySem.W.mg_none_of X G z_list, PySem.W.mg_none_of X G z_tuple, PySem.W.mg_none_of X G z_len, PySem.W.mg_none_of X G z_all, PySem.W.mg_none_of X G z_any, PySem.W.mg_none_of X G z_sum, PySem.W.mg_none_of X G z_sorted, PySem.W.mg_none_of X G z_range, PySem.W.mg_none_of X G z_enumerate, PySem.W.mg_none_of X G z_max, PySem.W.mg_none_of X G z_min, PySem.W.mg_none_of X G z_abs, PySem.W.mg_none_of X G z_dict, PySem.W.mg_none_of X G z_str, PySem.W.mg_none_of X G z_set⟩
  have x_BadDie : Exq K mg "BadDie" C_BadDie := ⟨x_BadDie, PySem.W.mg_of X G g_BadDie, k_BadDie, b_BadDie, t_BadDie⟩
  have m_MOST_SIDES : ∃ t, mg "MOST_SIDES" = some (.int 72 t) := m_MOST_SIDES.imp fun _ z => PySem.W.mg_of X G z
  have m_MOST_NUMBER : ∃ t, mg "MOST_NUMBER" = some (.int 100 t) := m_MOST_NUMBER.imp fun _ z => PySem.W.mg_of X G z
  obtain ⟨oc, od, kV, dc, pm, an, cd, ct, sl, h1, h2, h3⟩ := D_law
  refine ⟨PySem.W.fnOf "law" "law" (defArgs s_law) (defBody s_law) (defScope s_law) .none kV dc pm an cd ct, fun s v => .of_eq rfl, fun base kb gb => ?_⟩
  have d_is_whole : Df l.prog w K mg base CX0 1 "is_whole" ["thing"] (spIsWhole K) := df_mk D_is_whole (PySem.W.mg_of X G G_is_whole) (fun _ _ _ _ _ _ us hl => match us, hl with | [_], _ => rfl) (fun fd F => ok_is_whole F B)
  have d_check_die : Df l.prog w K mg base (L2.CX l.prog w) 2 "check_die" ["die"] (spDie K C_BadDie) := df_mk D_check_die (PySem.W.mg_of X G G_check_die) (fun _ _ _ _ _ _ us hl => match us, hl with | [_], _ => rfl) (fun fd F => (ok_check_die F B x_BadDie m_MOST_SIDES m_MOST_NUMBER d_is_whole).imp (fun _ _ _ _ => die_of_sp))
  have d_counts_of : Df l.prog w K mg base CX0 1 "counts_of" ["one", "other"] (spCounts K) := df_mk D_counts_of (PySem.W.mg_of X G G_counts_of) (fun _ _ _ _ _ _ us hl => match us, hl with | [_, _], _ => rfl) (fun fd F => ok_counts_of F )
  have d_sums : Df l.prog w K mg base (L2.CX l.prog w) 3 "sums" ["one", "other"] (spSums K C_BadDie) := df_mk D_sums (PySem.W.mg_of X G G_sums) (fun _ _ _ _ _ _ us hl => match us, hl with | [_, _], _ => rfl) (fun fd F => ok_sums F B d_check_die d_counts_of)
  have d__law_number : Df l.prog w K mg base CX0 1 "_law_number" ["_law_cell", "_law_at", "_law_whole_here"] (spNum) := df_mk D__law_number (PySem.W.mg_of X G G__law_number) (fun _ _ _ _ _ _ us hl => match us, hl with | [_, _, _], _ => rfl) (fun fd F => ok__law_number F )
  have d__law_whole : Df l.prog w K mg base CX0 1 "_law_whole" ["_law_found"] (spIsWhole K) := df_mk D__law_whole (PySem.W.mg_of X G G__law_whole) (fun _ _ _ _ _ _ us hl => match us, hl with | [_], _ => rfl) (fun fd F => ok__law_whole F B)
  have d__law_die : Df l.prog w K mg base CX0 2 "_law_die" ["_law_script", "_law_by", "_law_most"] (spLDie K) := df_mk D__law_die (PySem.W.mg_of X G G__law_die) (fun _ _ _ _ _ _ us hl => match us, hl with | [_, _, _], _ => rfl) (fun fd F => ok__law_die F B d__law_number)
  have d__law_counts : Df l.prog w K mg base CX0 1 "_law_counts" ["_law_one", "_law_other"] (spCounts K) := df_mk D__law_counts (PySem.W.mg_of X G G__law_counts) (fun _ _ _ _ _ _ us hl => match us, hl with | [_, _], _ => rfl) (fun fd F => ok__law_counts F )
  exact ok_law (fun_mk (st := s_law) h1 h2 h3) B d_sums d__law_die d__law_whole d__law_counts
end Tw
open PySem PySem.W PyProof.Rows
set_option maxRecDepth 100000 in
set_option maxHeartbeats 0 in
theorem PySem.Challenge.cw_twindice_k01_sums_holds : PySem.Challenge.rw_twindice_k01_sums.Holds := by
  w_on; o_law; k_head; (case hw => w_witness2)
  k_fill
  refine L2.walk_ofB (l := PySem.Challenge.rw_twindice_k01_sums) (n := 63) (k := 4) (x := "_law_script") (CX := fun _ => L2.CX0) (sp := fun w => Tw.spLaw _) rfl (by decide) rfl ⟨rfl, by decide, by decide⟩ (fun w h Y => PySem.W.kIn_of Y) ?F (fun _ _ a ns hl hb _ hS => ⟨a, ns, rfl, hS, hl, fun z hz => Tw.Bd.of_bits (hb z hz), fun _ => rfl⟩) (fun _ _ _ _ _ h => h)
  case F =>
    intro w mg fa h KX G hmg
    have hmg2 : mg "law" = some (.ref fa) := hmg
    clear hmg
    refine' Tw.all_mk KX G hmg2 ?G_is_whole ?D_is_whole ?G_check_die ?D_check_die ?G_counts_of ?D_counts_of ?G_sums ?D_sums ?G__law_number ?D__law_number ?G__law_whole ?D__law_whole ?G__law_die ?D__law_die ?G__law_counts ?D__law_counts ?G_law ?D_law ?g_BadDie ?x_BadDie ?k_BadDie ?b_BadDie ?t_BadDie ?m_MOST_SIDES ?m_MOST_NUMBER ?z_isinstance ?z_int ?z_bool ?z_list ?z_tuple ?z_len ?z_all ?z_any ?z_sum ?z_sorted ?z_range ?z_enumerate ?z_max ?z_min ?z_abs ?z_dict ?z_str ?z_set
    (case G_is_whole => k_is)
    (case D_is_whole => (refine' Tw.defIn_of ?l ?c ?k; (case l => k_is); (case c => k_is); (case k => k_is)))
    (case G_check_die => k_is)
    (case D_check_die => (refine' Tw.defIn_of ?l ?c ?k; (case l => k_is); (case c => k_is); (case k => k_is)))
    (case G_counts_of => k_is)
    (case D_counts_of => (refine' Tw.defIn_of ?l ?c ?k; (case l => k_is); (case c => k_is); (case k => k_is)))
    (case G_sums => k_is)
    (case D_sums => (refine' Tw.defIn_of ?l ?c ?k; (case l => k_is); (case c => k_is); (case k => k_is)))
    (case G__law_number => k_is)
    (case D__law_number => (refine' Tw.defIn_of ?l ?c ?k; (case l => k_is); (case c => k_is); (case k => k_is)))
    (case G__law_whole => k_is)
    (case D__law_whole => (refine' Tw.defIn_of ?l ?c ?k; (case l => k_is); (case c => k_is); (case k => k_is)))
    (case G__law_die => k_is)
    (case D__law_die => (refine' Tw.defIn_of ?l ?c ?k; (case l => k_is); (case c => k_is); (case k => k_is)))
    (case G__law_counts => k_is)
    (case D__law_counts => (refine' Tw.defIn_of ?l ?c ?k; (case l => k_is); (case c => k_is); (case k => k_is)))
    (case G_law => k_is)
    (case D_law => (refine' Tw.defIn_of ?l ?c ?k; (case l => k_is); (case c => k_is); (case k => k_is)))
    (case g_BadDie => k_is)
    (case x_BadDie => k_exc)
    (case k_BadDie => k_is)
    (case b_BadDie => k_is)
    (case t_BadDie => k_is)
    (case m_MOST_SIDES => (refine' Tw.const_of ?u; (case u => k_is)))
    (case m_MOST_NUMBER => (refine' Tw.const_of ?u; (case u => k_is)))
    (case z_isinstance => k_is)
    (case z_int => k_is)
    (case z_bool => k_is)
    (case z_list => k_is)
    (case z_tuple => k_is)
    (case z_len => k_is)
    (case z_all => k_is)
    (case z_any => k_is)
    (case z_sum => k_is)
    (case z_sorted => k_is)
    (case z_range => k_is)
    (case z_enumerate => k_is)
    (case z_max => k_is)
    (case z_min => k_is)
    (case z_abs => k_is)
    (case z_dict => k_is)
    (case z_str => k_is)
    (case z_set => k_is)

