import PyProof.Rows.All
import Wide.All
import OpenK.AllK
import Wide.FinOn
import HandS.ForMost
import HandS.ForExc
import HandS.IsInst
import HandS.SortInts
import HandS.ListItems
import HandS.EndBits
import HandS.Wide
import HandS.WideBits
import HandS.Conv
import HandS.Style
import HandS.Deep
import HandS.More
import KE.SortKeyed
import KE.DataCmp
import PyProof.MaxThree
import HandS.CallRecv
import HandS.DictComp
import HandS.Walk
import PySem.Challenge.RW_twindice_k04_whole_judged
set_option Elab.async false
set_option linter.all false
set_option maxRecDepth 100000
set_option maxHeartbeats 4000000
/-! Twindice: the toolkit (heaps, readings step by step, calls, loops by what is done) -/
namespace Tw
open PySem PySem.Spec PyProof.Rows L2
abbrev St := L2.St
/-! ### heaps -/
section
variable {H H' H0 : Hp} {p a b : Addr} {o x : HO} {K : PySem.W.Frag}
theorem same_new (h : H p = none) : Same H (upd H p o) := fun b x e => (upd_ne (ne_of_none e h)).trans e
theorem keep_new (h : H p = none) (e : H a = some x) : upd H p o a = some x := same_new h a x e
theorem keep_ne (n : a ≠ p) (e : H a = some x) : upd H p o a = some x := (upd_ne n).trans e
theorem same_mut (s : Same H0 H) (h : H0 p = none) : Same H0 (upd H p o) := fun b x e => (upd_ne (ne_of_none e h)).trans (s b x e)
theorem ne_fresh (h' : H b = none) (h : H a = some o) : a ≠ b := ne_of_none h h'
theorem same_rd (s : Same H H') (h : Rd H a o) : Rd H' a o := h.imp (s a _) fun ⟨u, q⟩ => ⟨u, s a _ q⟩
theorem same_l {xs : List V} (s : Same H H') (h : SqL K H a xs) : SqL K H' a xs := h.imp (same_rd s) id
theorem same_t {xs : List V} (s : Same H H') (h : SqT K H a xs) : SqT K H' a xs := h.imp (same_rd s) id
end
mutual
theorem same_dp {K : PySem.W.Frag} {H H' : Hp} (s : Same H H') : ∀ (d : PyData) (v : V), Dp K H v d → Dp K H' v d
  | .none, _, .non => .non
  | .bool b, _, .bl _ => .bl b
  | .int i, _, .int _ => .int i
  | .str x, _, .str _ => .str x
  | .list ds, _, .lst h hs => .lst (same_l s h) (same_dps s ds _ hs)
  | .tuple ds, _, .tup h hs => .tup (same_t s h) (same_dps s ds _ hs)
theorem same_dps {K : PySem.W.Frag} {H H' : Hp} (s : Same H H') : ∀ (ds : List PyData) (vs : List V), DpAll K H vs ds → DpAll K H' vs ds
  | [], _, .nil => .nil
  | d :: ds, _, .cons h hs => .cons (same_dp s d _ h) (same_dps s ds _ hs)
end
theorem dps_ints {K : PySem.W.Frag} {H : Hp} : ∀ ns : List Int, DpAll K H (ns.map V.int) (ns.map PyData.int)
  | [] => .nil
  | n :: r => .cons (.int n) (dps_ints r)
/-- a list of ints, as data -/
def dI (ns : List Int) : PyData := .list (ns.map PyData.int)
theorem dp_ints {K : PySem.W.Frag} {H : Hp} {a : Addr} {ns : List Int} (h : SqL K H a (ns.map V.int)) : Dp K H (.ref a) (dI ns) := .lst h (dps_ints ns)
/-! ### readings, one step -/
section
variable {D : Ends} {σ : St} {H : Hp} {Q : VK} {v : V}
theorem rd_seq {t u : TS} (h : t { D with nx := u D } σ H) : tSeq t u D σ H := h
theorem rd_next (h : D.nx σ H) : tNext D σ H := h
theorem rd_asg {te : TE} {g : TG} (h : te σ H fun x H1 => g x σ H1 D.nx) : tAsg te g D σ H := h
theorem rd_drop {te : TE} (h : te σ H fun _ H1 => D.nx σ H1) : tDrop te D σ H := h
theorem rd_ret {te : TE} (h : te σ H D.rt) : tRet te D σ H := h
theorem rd_retN (h : D.rt .non H) : tRetN D σ H := h
theorem rd_if {c : TT} {t u : TS} (h : c σ H fun b H1 => if b = true then t D σ H1 else u D σ H1) : tIfS c t u D σ H := h
theorem rd_par {i j : Nat} {ta : TA} (h : ta σ H fun vs H1 => ∃ v w, vs = [v, w] ∧ D.nx ((σ.set i (some v)).set j (some w)) H1) : tPar i j ta D σ H := h
theorem rd_var {i : Nat} (e : σ[i]? = some (some v)) (h : Q v H) : tVar i σ H Q := ⟨v, e, h⟩
theorem rd_c (h : Q v H) : tC v σ H Q := h
theorem rd_op {r : R2} {ta tb : TE} (h : ta σ H fun x H1 => tb σ H1 fun y H2 => r x y H2 Q) : tOp r ta tb σ H Q := h
theorem rd_un {r : V → Hp → VK → Prop} {ta : TE} (h : ta σ H fun x H1 => r x H1 Q) : tUn r ta σ H Q := h
theorem rd_I0 {g : Int → Int → V} {i j : Int} (h : Q (g i j) H) : rI0 g (.int i) (.int j) H Q := ⟨i, j, rfl, rfl, h⟩
theorem rd_I {C : Int → Int → Prop} {g : Int → Int → V} {i j : Int} (c : C i j) (h : Q (g i j) H) : rI C g (.int i) (.int j) H Q := ⟨i, j, rfl, rfl, c, h⟩
theorem rd_U {g : Int → V} {i : Int} (h : Q (g i) H) : rU g (.int i) H Q := ⟨i, rfl, h⟩
theorem rd_test {te : TE} {R : Bool → Hp → Prop} (h : te σ H fun x H1 => ∃ k, x = .bl k ∧ R k H1) : tTest te σ H R := h
theorem rd_tB {te : TE} {R : Bool → Hp → Prop} (h : te σ H fun x H1 => ∃ k, x = .bl k ∧ R k H1) : tB te σ H R := h
theorem rd_bl {b : Bool} {R : Bool → Prop} (h : R b) : ∃ k, V.bl b = .bl k ∧ R k := ⟨b, rfl, h⟩
theorem rd_not {t : TT} {R : Bool → Hp → Prop} (h : t σ H fun c H1 => R (!c) H1) : tNot t σ H R := h
theorem rd_and {t u : TT} {R : Bool → Hp → Prop} (h : t σ H fun c H1 => if c = true then u σ H1 R else R false H1) : tAnd t u σ H R := h
theorem rd_or {t u : TT} {R : Bool → Hp → Prop} (h : t σ H fun c H1 => if c = true then R true H1 else u σ H1 R) : tOr t u σ H R := h
theorem rd_andV {ta tb : TE} (h : ta σ H fun x H1 => ∃ c, x = .bl c ∧ if c = true then tb σ H1 Q else Q (.bl false) H1) : tAndV ta tb σ H Q := h
theorem rd_orV {ta tb : TE} (h : ta σ H fun x H1 => ∃ c, x = .bl c ∧ if c = true then Q (.bl true) H1 else tb σ H1 Q) : tOrV ta tb σ H Q := h
theorem rd_notV {ta : TE} (h : ta σ H fun x H1 => ∃ c, x = .bl c ∧ Q (.bl (!c)) H1) : tNotV ta σ H Q := h
theorem rd_tIf {t : TT} {ta tb : TE} (h : t σ H fun c H1 => if c = true then ta σ H1 Q else tb σ H1 Q) : tIf t ta tb σ H Q := h
theorem rd_cb {r : List V → Hp → VK → Prop} {t : TA} (h : t σ H fun vs H1 => r vs H1 Q) : tCB r t σ H Q := h
theorem rd_cons {ta : TE} {tr : TA} {R : List V → Hp → Prop} (h : ta σ H fun x H1 => tr σ H1 fun xs H2 => R (x :: xs) H2) : tCons ta tr σ H R := h
theorem rd_nil {R : List V → Hp → Prop} (h : R [] H) : tNil σ H R := h
theorem rd_isi {K : PySem.W.Frag} {x c : V} {t u : Value} {b : Bool} (k : ClsV c u) (ty : TyX K H x t) (e : PySem.W.kitOne K t u = some b) (h : Q (.bl b) H) : rIsi K [x, c] H Q := ⟨x, c, t, u, b, rfl, k, ty, e, h⟩
theorem rd_all {K : PySem.W.Frag} {a : Addr} {bs : List Bool} (s : SqL K H a (bs.map V.bl)) (h : Q (.bl (bs.all id)) H) : rAll K [.ref a] H Q := ⟨a, bs, rfl, s, h⟩
theorem rd_any {K : PySem.W.Frag} {a : Addr} {bs : List Bool} (s : SqL K H a (bs.map V.bl)) (h : Q (.bl (bs.any id)) H) : rAny K [.ref a] H Q := ⟨a, bs, rfl, s, h⟩
theorem rd_sortI {K : PySem.W.Frag} {a : Addr} {ns : List Int} (s : SqL K H a (ns.map V.int)) (h : ∀ (ns' : List Int) (p : Addr), ns'.Perm ns → ns'.Pairwise (· ≤ ·) → H p = none → Q (.ref p) (upd H p (.lst (ns'.map V.int)))) : rSortedI K [.ref a] H Q := ⟨a, ns, rfl, s, h⟩
theorem rd_neD {K : PySem.W.Frag} {x y : V} {d e : PyData} (hd : Dp K H x d) (he : Dp K H y e) (sd : SeqAt.shaped d = true) (se : SeqAt.shaped e = true) (h : Q (.bl (!PyData.eqv d e)) H) : rNeD K x y H Q := ⟨d, e, hd, he, sd, se, h⟩
theorem rd_eqD {K : PySem.W.Frag} {x y : V} {d e : PyData} (hd : Dp K H x d) (he : Dp K H y e) (sd : SeqAt.shaped d = true) (se : SeqAt.shaped e = true) (h : Q (.bl (PyData.eqv d e)) H) : rEqD K x y H Q := ⟨d, e, hd, he, sd, se, h⟩
theorem rd_call {sp : Sp} {E : XK} {t : TA} (h : t σ H fun vs H1 => sp (vs ++ []) H1 Q E) : tCall sp [] E t σ H Q := h
theorem rd_tup {t : TA} (h : t σ H fun xs H1 => xs.length ≤ sizeLine ∧ ∀ p, H1 p = none → Q (.ref p) (upd H1 p (.tup xs))) : tTup t σ H Q := h
theorem rd_lst {t : TA} (h : t σ H fun xs H1 => xs.length ≤ sizeLine ∧ ∀ p, H1 p = none → Q (.ref p) (upd H1 p (.lst xs))) : tLst t σ H Q := h
theorem rd_gname {i : Nat} {R : St → Hp → Prop} (h : R (σ.set i (some v)) H) : gName i v σ H R := h
theorem rd_chain {r r' : R2} {ta tb tc : TE} (h : ta σ H fun x H1 => tb σ H1 fun y H2 => r x y H2 fun z H3 => ∃ k, z = .bl k ∧ (if k = true then tc σ H3 fun w' H4 => r' y w' H4 Q else Q (.bl false) H3)) : tChain r r' ta tb tc σ H Q := h
theorem rd_lc {wi : TI} {g : TG} {tt : TT} {te : TE} {vs : List Nat} (h : wi σ H fun J H1 => ∀ D, H1 D = none → ∃ W : Nat → Nat → Hp → Prop, (∃ m, W 0 m (upd H1 D (.lst []))) ∧ ∀ i m H, W i m H →
    (J.stop i H ∧ Q (.ref D) H) ∨ (J.go i H ∧ ∃ Nx : Hp → Prop, (∀ H', Nx H' → ∃ m', m' < m ∧ W (i + 1) m' H') ∧ ∀ x H', J.yld i H x H' → g x (wipe σ vs) H' fun σ2 H2 => wipe σ2 vs = wipe σ vs ∧ tt σ2 H2 fun b H3 =>
      if b = true then te σ2 H3 fun y H4 => ∃ acc, H4 D = some (.lst acc) ∧ acc.length < sizeLine ∧ Nx (upd H4 D (.lst (acc ++ [y]))) else Nx H3)) : tLc wi g tt te vs σ H Q := h
theorem rd_dnew (h : ∀ p, H p = none → Q (.ref p) (upd H p (.dK []))) : tDNewK σ H Q := h
theorem rd_dput {td ty tv : TE} (h : tv σ H fun v H1 => td σ H1 fun x H2 => ty σ H2 fun y H3 => ∃ a H4, x = .ref a ∧ DPut H3 a y v H4 ∧ D.nx σ H4) : sDPut td ty tv D σ H := h
theorem rd_dget2 {td ty tx : TE} (h : td σ H fun x H1 => ∃ a, x = .ref a ∧ IsD H1 a ∧ ty σ H1 fun y H2 => tx σ H2 fun z H3 => ∃ o, DGet H3 a y o ∧ Q (o.getD z) H3) : tDGet2 td ty tx σ H Q := h
theorem rd_items {te : TE} (h : te σ H fun x H1 => LiI.rItemsL x H1 Q) : LiI.tListItems te σ H Q := h
theorem rd_sl {r : V → Option Int → Option Int → Hp → VK → Prop} {te : TE} {tl th : TO} (h : te σ H fun x H1 => tl σ H1 fun l H2 => th σ H2 fun u H3 => r x l u H3 Q) : L2.tSl r te tl th σ H Q := h
theorem rd_nopart {R : Option Int → Hp → Prop} (h : R none H) : tNoPart σ H R := h
theorem rd_part {te : TE} {R : Option Int → Hp → Prop} (h : te σ H fun x H1 => ∃ i, x = .int i ∧ R (some i) H1) : tPart te σ H R := h
theorem rd_int {i : Int} {R : Int → Prop} (h : R i) : ∃ j, V.int i = .int j ∧ R j := ⟨i, rfl, h⟩
theorem rd_revL {K : PySem.W.Frag} {te : TE} (h : te σ H fun x H1 => ∃ a xs, x = .ref a ∧ SqL K H1 a xs ∧ ∀ p, H1 p = none → Q (.ref p) (upd H1 p (.lst xs.reverse))) : tRevL K te σ H Q := h
theorem rd_bm {K : PySem.W.Frag} {T : String} {r : V → List V → Hp → VK → Prop} {to : TE} {t : TA} (h : to σ H fun x H1 => tyV K T x H1 ∧ t σ H1 fun xs H2 => r x xs H2 Q) : tBM K T r to t σ H Q := h
theorem rd_bm0 {K : PySem.W.Frag} {T : String} {r : V → List V → Hp → VK → Prop} {to : TE} (h : to σ H fun x H1 => tyV K T x H1 ∧ r x [] H1 Q) : tBM0 K T r to σ H Q := h
theorem rd_tyl {K : PySem.W.Frag} {a : Addr} {xs : List V} {R : Prop} (s : SqL K H a xs) (h : R) : tyV K "list" (.ref a) H ∧ R := ⟨.inl ⟨rfl, xs, s⟩, h⟩
theorem rd_lrg {te : St → Hp → (Int → Int → Hp → Prop) → Prop} (h : te σ H fun a b H1 => RgOk a b ∧ ∀ q, H1 q = none → Q (.ref q) (upd H1 q (.lst (rgV a b)))) : tLstRg te σ H Q := h
theorem rd_rg2 {ta tb : TE} {R : Int → Int → Hp → Prop} (h : ta σ H fun x H1 => tb σ H1 fun y H2 => ∃ i j, x = .int i ∧ y = .int j ∧ R i j H2) : tRg2 ta tb σ H R := h
theorem rd_rg1 {ta : TE} {R : Int → Int → Hp → Prop} (h : ta σ H fun x H1 => ∃ n, x = .int n ∧ R 0 n H1) : tRg1 ta σ H R := h
theorem rd_int2 {i j : Int} {R : Int → Int → Prop} (h : R i j) : ∃ i' j', V.int i = .int i' ∧ V.int j = .int j' ∧ R i' j' := ⟨i, j, rfl, rfl, h⟩
theorem rd_augS {to ti te : TE} {tget : V → V → Hp → VK → Prop} {tip : TIp} {tset : TSet} (h : to σ H fun o H1 => ti σ H1 fun i H2 => tget o i H2 fun x H3 => te σ H3 fun y H4 => tip x y H4 fun z H5 => tset o i z H5 fun H6 => D.nx σ H6) : tAugS to ti te tget tip tset D σ H := h
theorem rd_aug {i : Nat} {te : TE} {ti : TIp} (h : ∃ x, σ[i]? = some (some x) ∧ te σ H fun y H1 => ti x y H1 fun z H2 => D.nx (σ.set i (some z)) H2) : tAug i te ti D σ H := h
theorem rd_ipI {f : Int → Int → Int} {i j : Int} (h : Q (.int (f i j)) H) : ipI f (.int i) (.int j) H Q := ⟨i, j, rfl, rfl, h⟩
theorem rd_sum {K : PySem.W.Frag} {a : Addr} {ns : List Int} (s : SqL K H a (ns.map V.int)) (h : Q (.int ns.sum) H) : rSum K [.ref a] H Q := ⟨a, ns, rfl, s, h⟩
theorem rd_gsub {to ti : TE} {tset : TSet} {R : St → Hp → Prop} (h : to σ H fun o H1 => ti σ H1 fun i H2 => tset o i v H2 fun H3 => R σ H3) : gSub to ti tset v σ H R := h
theorem rd_gtup {K : PySem.W.Frag} {n : Nat} {t : TGs} {a : Addr} {xs : List V} {R : St → Hp → Prop} (s : SqT K H a xs) (l : xs.length = n) (h : t xs σ H R) : gTup K n t (.ref a) σ H R := ⟨a, xs, rfl, s, l, h⟩
theorem rd_gcons {t : TG} {u : TGs} {vs : List V} {R : St → Hp → Prop} (h : t v σ H fun σ' H' => u vs σ' H' R) : gCons t u (v :: vs) σ H R := ⟨v, vs, rfl, h⟩
theorem rd_gnil {R : St → Hp → Prop} (h : R σ H) : gNil [] σ H R := ⟨rfl, h⟩
theorem rd_par2 {v u : V} {R : V → V → Prop} (h : R v u) : ∃ x y, [v, u] = [x, y] ∧ R x y := ⟨v, u, rfl, h⟩
/-- a cut behind an expression, behind a statement -/
theorem cutE {te : TE} (R : VK) (main : ∀ Q' : VK, (∀ v H1, R v H1 → Q' v H1) → te σ H Q') (rest : ∀ v H1, R v H1 → Q v H1) : te σ H Q := main Q rest
theorem cutS {t : TS} (R : St → Hp → Prop) (main : ∀ N : St → Hp → Prop, (∀ σ H, R σ H → N σ H) → t { D with nx := N } σ H) (rest : ∀ σ H, R σ H → D.nx σ H) : t D σ H := main D.nx rest
theorem rd_append {l : Addr} {xs : List V} {y : V} (h : H l = some (.lst xs)) (hz : xs.length < sizeLine) (q : Q .non (upd H l (.lst (xs ++ [y])))) : rAppend (.ref l) [y] H Q := ⟨l, xs, y, rfl, rfl, h, hz, q⟩
theorem rd_ixL {K : PySem.W.Frag} {p : Addr} {xs : List V} {i : Int} {v : V} (s : SqL K H p xs) (e : atI xs i = some v) (h : Q v H) : rIxL K (.ref p) (.int i) H Q := ⟨p, xs, i, v, rfl, rfl, s, e, h⟩
theorem rd_ixT {K : PySem.W.Frag} {p : Addr} {xs : List V} {i : Int} {v : V} (s : SqT K H p xs) (e : atI xs i = some v) (h : Q v H) : rIxT K (.ref p) (.int i) H Q := ⟨p, xs, i, v, rfl, rfl, s, e, h⟩
theorem rd_slL {K : PySem.W.Frag} {p : Addr} {xs : List V} {lo hi : Option Int} (s : SqL K H p xs) (h : ∀ q, H q = none → Q (.ref q) (upd H q (.lst (cutV xs lo hi)))) : rSlL K (.ref p) lo hi H Q := ⟨p, xs, rfl, s, h⟩
theorem rd_rep {l : Addr} {k : Int} {xs : List V} (h : H l = some (.lst xs)) (h1 : -(2 ^ 63) ≤ k) (h2 : k < 2 ^ 63) (h3 : xs.length * k.toNat ≤ sizeLine) (q : ∀ p, H p = none → Q (.ref p) (upd H p (.lst (List.replicate k.toNat xs).flatten))) : rRep (.ref l) (.int k) H Q := ⟨l, k, xs, rfl, rfl, h, h1, h2, h3, q⟩
theorem rd_cat {l b : Addr} {xs zs : List V} (h : H l = some (.lst xs)) (h' : H b = some (.lst zs)) (hz : xs.length + zs.length ≤ sizeLine) (q : ∀ p, H p = none → Q (.ref p) (upd H p (.lst (xs ++ zs)))) : rCat (.ref l) (.ref b) H Q := ⟨l, b, xs, zs, rfl, rfl, h, h', hz, q⟩
theorem rd_for {wi : TI} {g : TG} {tb : TS} (h : wi σ H fun J H1 => ∃ W : Nat → Nat → St → Hp → Prop, (∃ m, W 0 m σ H1) ∧ ∀ i m σ H, W i m σ H →
    (J.stop i H ∧ D.nx σ H) ∨ (J.go i H ∧ ∃ N : St → Hp → Prop, (∀ σ' H', N σ' H' → ∃ m', m' < m ∧ W (i + 1) m' σ' H') ∧ ∀ x H', J.yld i H x H' → g x σ H' fun σ2 H2 => tb { D with nx := N, ct := N, bk := D.nx } σ2 H2)) : tFor wi g tb D σ H := h
end
/-! ### names that stand for built-in classes, for written numbers, for own classes -/
section
variable {X : Cx} {x : Str} {pos : Pos}
theorem pe_ty {T : String} (hm : X.mg x = none) (hv : bootBuiltins x = some (.type T)) (hg : Gl X x := by rfl) (hn : x ≠ "__name__" := by decide) (hd : (x == ("__debug__" : Str)) = false := by decide) : PE X (.Name x pos) (tC (.ty T)) := pe_bltn (v := .ty T) hg hm hv rfl hn hd
theorem pe_num {n : Int} (hm : ∃ t, X.mg x = some (.int n t)) (hg : Gl X x := by rfl) (hd : (x == ("__debug__" : Str)) = false := by decide) : PE X (.Name x pos) (tC (.int n)) := by
  obtain ⟨t, e⟩ := hm
  exact pe_glob (v := .int n) hg e ⟨t, rfl⟩ hd
theorem pe_ref {C : Addr} (hm : X.mg x = some (.ref C)) (hg : Gl X x := by rfl) (hd : (x == ("__debug__" : Str)) = false := by decide) : PE X (.Name x pos) (tC (.ref C)) := pe_glob (v := .ref C) hg hm rfl hd
end
/-! ### a def that keeps its promise, by its name -/
structure Df (P : Program) (w : World) (K : PySem.W.Frag) (mg : Str → Option Value) (base : Heap) (CX : CXT) (k : Nat) (x : Str) (ps : List Str) (sp : Sp) : Prop where
  ex : ∃ f fd, FnOk P w K mg base CX k f fd ps sp ∧ mg x = some (.ref f) ∧ PySem.W.keepIn K (.ref f) = true ∧ Binds K fd ps []
section
variable {X : Cx} {CX : CXT} {k : Nat} {x : Str} {ps : List Str} {sp : Sp} {E : XK} {p pos : Pos} {e : Expr} {es : List Expr} {t : TA}
theorem pe_df (d : Df X.prog X.w X.K X.mg X.base CX k x ps sp) (hr : Room k X.A) (hg : Gl X x) (hx : Passes CX X E) (ha : PA X (e :: es) t)
    (hdb : (x == ("__debug__" : Str)) = false := by decide) (he : starEach (e :: es) X.env = (false, eval e X.env) :: starEach es X.env := by rfl) (hpl : (backTo pos (starEach es X.env)).any (·.1) = false := by rfl) :
    PE X (.Call (.Name x p) (e :: es) [] pos) (tCall sp [] E t) := by
  obtain ⟨f, fd, F, hm, hk, hb⟩ := d.ex
  exact pe_call F hr hg hm hk hb .nil hx ha hdb he hpl
theorem pe_df0 (d : Df X.prog X.w X.K X.mg X.base CX k x ps sp) (hr : Room k X.A) (hg : Gl X x) (hx : Passes CX X E)
    (hdb : (x == ("__debug__" : Str)) = false := by decide) : PE X (.Call (.Name x p) [] [] pos) (tCall sp [] E tNil) := by
  obtain ⟨f, fd, F, hm, hk, hb⟩ := d.ex
  exact pe_call0 F hr hg hm hk hb .nil hx hdb
end
theorem units65 {k : Nat} {A : Around} (r : Room k A) : A.units + 65 < cLine := by have := r.un; omega
/-! ### lists read and written by place: xs[i] op= e -/
section
variable {X : Cx}
def rGetL (K : PySem.W.Frag) : R2 := fun x y H Q => ∃ p xs i v, x = .ref p ∧ y = .int i ∧ SqL K H p xs ∧ 0 ≤ i ∧ atI xs i = some v ∧ Q v H
theorem get_list : PGet X (rGetL X.K) := by
  intro pins s σ H o i ov iv Q I ro ri h
  obtain ⟨p, xs, k, z, rfl, rfl, hq, h0, he, q⟩ := h
  cases ro
  obtain ⟨t, rfl⟩ := ri
  obtain ⟨its, r, pl, hz⟩ := I.list hq
  obtain ⟨j, h1, h2, h3, h4, h5⟩ := atI_get he
  obtain ⟨w, ew, rw'⟩ := r.get h2
  have hl := r.length
  have hn := line63
  have hj : k.toNat = j := by
    rw [seqIndex_of h0 h5] at h1
    exact Option.some.inj h1
  exact wpAny_getItem_list pl.isList h0 (by omega) (by rw [hj]; simpa using ew) ⟨z, H, I, rw', q⟩
def rLen (K : PySem.W.Frag) : List V → Hp → VK → Prop := fun xs H Q => ∃ p ys, xs = [.ref p] ∧ (SqL K H p ys ∨ SqT K H p ys) ∧ Q (.int ys.length) H
theorem call_lenQ : CallR X (.builtin "len") (rLen X.K) := call_len_seq
def rListOf (K : PySem.W.Frag) : List V → Hp → VK → Prop := fun xs H Q => ∃ p ys, xs = [.ref p] ∧ (SqL K H p ys ∨ SqT K H p ys) ∧ ∀ l, H l = none → Q (.ref l) (upd H l (.lst ys))
theorem call_listQ : CallR X (.type "list") (rListOf X.K) := call_list_of
/-! ### order and equality of data -/
def rCmpD (K : PySem.W.Frag) (f : PyData → PyData → Bool) : R2 := fun x y H Q => ∃ d e, Dp K H x d ∧ Dp K H y e ∧ PySem.W.alike d e = true ∧ d ≠ .none ∧ min d.depth e.depth ≤ 60 ∧ Q (.bl (f d e)) H
theorem op_ltD (hu : X.A.units + 64 < cLine) : OpR X (compareOp .Lt) (rCmpD X.K fun d e => PySem.W.dataLt d e) := by
  intro pins s σ H x y v u Q I rx ry h
  obtain ⟨d, e, hd, he, al, nn, dp, q⟩ := h
  obtain ⟨as, r1⟩ := Dp.reads I d x v hd rx
  obtain ⟨bs, r2⟩ := Dp.reads I e y u he ry
  exact PySem.W.lt_data r1 r2 al nn (by omega) ⟨.bl _, H, I, rfl, q⟩
theorem op_gtD (hu : X.A.units + 64 < cLine) : OpR X (compareOp .Gt) (rCmpD X.K fun d e => PySem.W.dataLt e d) := by
  intro pins s σ H x y v u Q I rx ry h
  obtain ⟨d, e, hd, he, al, nn, dp, q⟩ := h
  obtain ⟨as, r1⟩ := Dp.reads I d x v hd rx
  obtain ⟨bs, r2⟩ := Dp.reads I e y u he ry
  exact PySem.W.gt_data r1 r2 al nn (by omega) ⟨.bl _, H, I, rfl, q⟩
theorem op_leD (hu : X.A.units + 64 < cLine) : OpR X (compareOp .LtE) (rCmpD X.K fun d e => !PySem.W.dataLt e d) := by
  intro pins s σ H x y v u Q I rx ry h
  obtain ⟨d, e, hd, he, al, nn, dp, q⟩ := h
  obtain ⟨as, r1⟩ := Dp.reads I d x v hd rx
  obtain ⟨bs, r2⟩ := Dp.reads I e y u he ry
  exact PySem.W.le_data r1 r2 al nn (by omega) ⟨.bl _, H, I, rfl, q⟩
/-! ### sorted -/
def rSortD (K : PySem.W.Frag) : List V → Hp → VK → Prop := fun vs H Q => ∃ (a : Addr) (bs : List (V × PyData)), vs = [.ref a] ∧ SqL K H a (bs.map (·.1)) ∧ (∀ b ∈ bs, Dp K H b.1 b.2) ∧
  PySem.W.AllAlike (bs.map (·.2)) ∧ PySem.W.Sortable (bs.map (·.2)) ∧ (∀ b ∈ bs, b.2.depth ≤ 60) ∧ ∀ p, H p = none → Q (.ref p) (upd H p (.lst ((bs.mergeSort (PySem.W.dataLe false (·.2))).map (·.1))))
theorem each_vals : ∀ {us : List Value} {bs : List (V × PyData)}, PySem.W.EachIs (fun (u : Value) (b : V × PyData) => L2.RelV b.1 u) us bs → Vals (bs.map (·.1)) us
  | _, _, .nil => .nil
  | _, _, .cons r t => .cons r (each_vals t)
theorem vals_each : ∀ {us : List Value} {bs : List (V × PyData)}, Vals (bs.map (·.1)) us → PySem.W.EachIs (fun (u : Value) (b : V × PyData) => L2.RelV b.1 u) us bs
  | _, [], .nil => .nil
  | _, _ :: _, .cons r t => .cons r (vals_each t)
theorem each_reads {R : Value → PyData → Prop} : ∀ {us : List Value} {bs : List (V × PyData)}, PySem.W.EachIs (fun (u : Value) (b : V × PyData) => L2.RelV b.1 u) us bs → (∀ b ∈ bs, ∀ u, L2.RelV b.1 u → R u b.2) → PySem.W.EachIs R us (bs.map (·.2))
  | _, _, .nil, _ => .nil
  | _, _, .cons r t, h => .cons (h _ List.mem_cons_self _ r) (each_reads t fun b hb => h b (List.mem_cons_of_mem _ hb))
theorem cr_sortD (hu : X.A.units + 64 < cLine) : CallR X (.builtin "sorted") (rSortD X.K) := by
  intro pins s σ H xs us Q I r h
  obtain ⟨a, bs, rfl, ha, hd, hal, hsk, hdep, q⟩ := h
  obtain ⟨u, rfl, ru⟩ := vals1 r
  obtain rfl : u = Value.ref a := ru
  obtain ⟨its, rv, ⟨o, n, e1, e2, e3, e4⟩, hz⟩ := I.list ha
  have hL : its.length ≤ sizeLine := by
    rw [← rv.length]
    exact hz
  have hE := vals_each rv
  have hR : PySem.W.EachIs (fun v d => ∃ as, Reads (PySem.W.sortingHeap (PySem.W.copyHeap s.heap its) (s.heap.objs.size + 1) its) v d as) its (bs.map (·.2)) :=
    each_reads hE fun b hb u ru => by
      obtain ⟨as, q1⟩ := Dp.reads I b.2 b.1 u (hd b hb) ru
      exact ⟨as, Reads.keeps (fun _ _ => PySem.W.sorting_copy_old) q1⟩
  have S := PySem.W.SortsAt.data (prog := X.prog) (w := X.w) (A := X.A.in1.in1) (s := { s with heap := PySem.W.sortingHeap (PySem.W.copyHeap s.heap its) (s.heap.objs.size + 1) its }) hR hal hsk (fun d hd' => by
    obtain ⟨b, hb, rfl⟩ := List.mem_map.mp hd'
    have := hdep b hb
    have e : X.A.in1.in1.units = X.A.units + 2 := rfl
    omega)
  have out := PySem.W.keyedOut_each (rev := false) (R := fun (u : Value) (b : V × PyData) => L2.RelV b.1 u) (bs := bs) (vs := its) (fun b => b.2) ⟨_, its, hal, rfl, hR⟩ hE
  refine PySem.W.sorted_vals ⟨o, e1, e2, n, e4⟩ S hL ?_
  obtain ⟨ep, he'⟩ := PyProof.Rows.sortedAll_at s.heap its (PySem.W.sortVals _ false its its).toArray
  have rv' := each_vals out
  have hlen : ((bs.mergeSort (PySem.W.dataLe false (·.2))).map (·.1)).length ≤ sizeLine := by
    rw [List.length_map, List.length_mergeSort]
    rw [List.length_map] at hz
    exact hz
  exact ⟨.ref _, upd H (s.heap.objs.size + 1) (.lst _), I.laid (t' := s.toks) (fun _ _ => PyProof.Rows.sortedAll_old) (Nat.le_succ _) ⟨hlen, _, ep, rv', he'⟩, rfl, q _ (I.hok.fresh (Nat.le_succ _))⟩
end
/-! ### loops by what is done -/
theorem take_succ_of {α : Type} {l : List α} {i : Nat} {z : α} (h : l[i]? = some z) : l.take (i + 1) = l.take i ++ [z] ∧ l = l.take i ++ z :: l.drop (i + 1) := by
  obtain ⟨hi, e⟩ := List.getElem?_eq_some_iff.mp h
  subst e
  refine ⟨by simp, ?_⟩
  rw [List.getElem_cons_drop, List.take_append_drop]
section
variable {α : Type} {K : PySem.W.Frag} {a : Addr} {g : TG} {tb : TS} {D : Ends} {σ : St} {H : Hp}
theorem rd_il {tl : TE} {R : It → Hp → Prop} (h : tl σ H fun x H1 => ∃ a, x = .ref a ∧ (∃ xs, SqL K H1 a xs) ∧ R (Itl K a) H1) : iList K tl σ H R := h
theorem rd_it {tl : TE} {R : It → Hp → Prop} (h : tl σ H fun x H1 => ∃ a, x = .ref a ∧ (∃ xs, SqT K H1 a xs) ∧ R (Itt K a) H1) : iTup K tl σ H R := h
theorem rd_ie {ta : TA} {R : It → Hp → Prop} (h : ta σ H fun vs H1 => ∃ a xs, vs = [.ref a] ∧ SqL K H1 a xs ∧ R (Ite K a) H1) : iEnum K ta σ H R := h
theorem rd_ir {ta : TA} {R : It → Hp → Prop} (h : ta σ H fun vs H1 => ∃ j : Int, vs = [.int j] ∧ -(2 ^ 62) ≤ j ∧ j < 2 ^ 62 ∧ R (Itr 0 j.toNat) H1) : iRng1 ta σ H R := h
theorem rd_ir2 {ta : TA} {R : It → Hp → Prop} (h : ta σ H fun vs H1 => ∃ i j : Int, vs = [.int i, .int j] ∧ (-(2 ^ 62) ≤ i ∧ i < 2 ^ 62 ∧ -(2 ^ 62) ≤ j ∧ j < 2 ^ 62) ∧ R (Itr i (j - i).toNat) H1) : iRng2 ta σ H R := h
theorem il_of {xs : List V} {R : It → Hp → Prop} (h : SqL K H a xs) (q : R (Itl K a) H) : ∃ b, V.ref a = V.ref b ∧ (∃ xs, SqL K H b xs) ∧ R (Itl K b) H := ⟨a, rfl, ⟨xs, h⟩, q⟩
theorem it_of {xs : List V} {R : It → Hp → Prop} (h : SqT K H a xs) (q : R (Itt K a) H) : ∃ b, V.ref a = V.ref b ∧ (∃ xs, SqT K H b xs) ∧ R (Itt K b) H := ⟨a, rfl, ⟨xs, h⟩, q⟩
theorem ie_of {xs : List V} {R : It → Hp → Prop} (h : SqL K H a xs) (q : R (Ite K a) H) : ∃ b ys, [V.ref a] = [V.ref b] ∧ SqL K H b ys ∧ R (Ite K b) H := ⟨a, xs, rfl, h, q⟩
theorem ir_of {j : Int} {R : It → Hp → Prop} (h1 : -(2 ^ 62) ≤ j) (h2 : j < 2 ^ 62) (q : R (Itr 0 j.toNat) H) : ∃ i : Int, [V.int j] = [V.int i] ∧ -(2 ^ 62) ≤ i ∧ i < 2 ^ 62 ∧ R (Itr 0 i.toNat) H := ⟨j, rfl, h1, h2, q⟩
theorem ir2_of {i j : Int} {R : It → Hp → Prop} (h : -(2 ^ 62) ≤ i ∧ i < 2 ^ 62 ∧ -(2 ^ 62) ≤ j ∧ j < 2 ^ 62) (q : R (Itr i (j - i).toNat) H) : ∃ i' j' : Int, [V.int i, V.int j] = [V.int i', V.int j'] ∧ (-(2 ^ 62) ≤ i' ∧ i' < 2 ^ 62 ∧ -(2 ^ 62) ≤ j' ∧ j' < 2 ^ 62) ∧ R (Itr i' (j' - i').toNat) H := ⟨i, j, rfl, h, q⟩
/-- over a list that the body leaves as it is: what is done, and what is left -/
theorem for_listP (f : α → V) (l : List α) (Pv : List α → St → Hp → Prop) (h0 : Pv [] σ H) (hl : ∀ dn σ H, Pv dn σ H → SqL K H a (l.map f))
    (hs : ∀ dn z rs σ H, l = dn ++ z :: rs → Pv dn σ H → g (f z) σ H fun σ2 H2 => tb { D with nx := Pv (dn ++ [z]), ct := Pv (dn ++ [z]), bk := D.nx } σ2 H2) (hd : ∀ σ H, Pv l σ H → D.nx σ H) :
    ∃ W : Nat → Nat → St → Hp → Prop, (∃ m, W 0 m σ H) ∧ ∀ i m σ H, W i m σ H →
      ((Itl K a).stop i H ∧ D.nx σ H) ∨ ((Itl K a).go i H ∧ ∃ N : St → Hp → Prop, (∀ σ' H', N σ' H' → ∃ m', m' < m ∧ W (i + 1) m' σ' H') ∧ ∀ x H', (Itl K a).yld i H x H' → g x σ H' fun σ2 H2 => tb { D with nx := N, ct := N, bk := D.nx } σ2 H2) := by
  refine for_list (xs := l.map f) (fun i σ H => Pv (l.take i) σ H) h0 (fun i σ H _ p => hl _ σ H p) (fun i x σ H hx p => ?_) (fun σ H p => hd σ H ?_)
  · rw [List.getElem?_map] at hx
    cases e : l[i]? with
    | none =>
      rw [e] at hx
      cases hx
    | some z =>
      rw [e] at hx
      obtain ⟨e1, e2⟩ := take_succ_of e
      have ex : x = f z := (Option.some.inj hx).symm
      subst ex
      have q := hs (l.take i) z (l.drop (i + 1)) σ H e2 p
      rw [← e1] at q
      exact q
  · rw [List.length_map, List.take_length] at p
    exact p
/-- [e for x in l], each item read by itself -/
theorem lc_mapP (f h : α → V) (l : List α) {te : TE} {vs : List Nat} {H1 : Hp} {R : Addr} {Qd : Hp → Prop} (nR : H1 R = none) (hl : SqL K H1 a (l.map f)) (hz : l.length ≤ sizeLine)
    (hs : ∀ z, z ∈ l → ∀ H, Same H1 H → ∀ Q' : VK, (∀ H3, Same H H3 → Q' (h z) H3) → g (f z) (wipe σ vs) H fun σ2 H2 => wipe σ2 vs = wipe σ vs ∧ te σ2 H2 Q')
    (hd : ∀ H, Same H1 H → H R = some (.lst (l.map h)) → Qd H) :
    ∃ W : Nat → Nat → Hp → Prop, (∃ m, W 0 m (upd H1 R (.lst []))) ∧ ∀ i m H, W i m H →
      ((Itl K a).stop i H ∧ Qd H) ∨ ((Itl K a).go i H ∧ ∃ Nx : Hp → Prop, (∀ H', Nx H' → ∃ m', m' < m ∧ W (i + 1) m' H') ∧ ∀ x H', (Itl K a).yld i H x H' → g x (wipe σ vs) H' fun σ2 H2 => wipe σ2 vs = wipe σ vs ∧ tYes σ2 H2 fun b H3 =>
        if b = true then te σ2 H3 fun y H4 => ∃ acc, H4 R = some (.lst acc) ∧ acc.length < sizeLine ∧ Nx (upd H4 R (.lst (acc ++ [y]))) else Nx H3) := by
  refine lc_list (xs := l.map f) (fun i H => Same H1 H ∧ H R = some (.lst ((l.take i).map h))) ⟨same_new nR, upd_same⟩ (fun i H _ p => same_l p.1 hl) (fun i x H hx p => ?_) (fun H p => hd H p.1 ?_)
  · obtain ⟨p1, p2⟩ := p
    rw [List.getElem?_map] at hx
    cases e : l[i]? with
    | none =>
      rw [e] at hx
      cases hx
    | some z =>
      rw [e] at hx
      obtain ⟨e1, e2⟩ := take_succ_of e
      have ex : x = f z := (Option.some.inj hx).symm
      subst ex
      have hm : z ∈ l := List.mem_of_getElem? e
      refine hs z hm H p1 _ fun H3 s3 => ?_
      refine ⟨_, s3 _ _ p2, ?_, ?_, ?_⟩
      · have hi := (List.getElem?_eq_some_iff.mp e).1
        rw [List.length_map, List.length_take]
        omega
      · exact same_mut (p1.trans s3) nR
      · rw [upd_same, e1, List.map_append]
        rfl
  · have q := p.2
    rw [List.length_map, List.take_length] at q
    exact q
end
/-! ### the shape of data -/
def Sh (n : Nat) (d : PyData) : Prop := d.canLay0 = true ∧ d.depth ≤ n
theorem lay_all : ∀ {ds : List PyData}, (∀ d ∈ ds, d.canLay0 = true) → PyData.canLayAll0 ds = true
  | [], _ => by simp only [PyData.canLayAll0]
  | d :: r, h => by
    simp only [PyData.canLayAll0, Bool.and_eq_true]
    exact ⟨h d List.mem_cons_self, lay_all fun x hx => h x (List.mem_cons_of_mem _ hx)⟩
theorem depth_all {n : Nat} : ∀ {ds : List PyData}, (∀ d ∈ ds, d.depth ≤ n) → PyData.depthAll ds ≤ n
  | [], _ => by simp only [PyData.depthAll]; exact Nat.zero_le _
  | d :: r, h => by
    simp only [PyData.depthAll]
    exact Nat.max_le.mpr ⟨h d List.mem_cons_self, depth_all fun x hx => h x (List.mem_cons_of_mem _ hx)⟩
theorem sh_int {n : Nat} {i : Int} : Sh n (.int i) := ⟨by simp only [PyData.canLay0], by simp only [PyData.depth]; exact Nat.zero_le _⟩
theorem sh_bool {n : Nat} {i : Bool} : Sh n (.bool i) := ⟨by simp only [PyData.canLay0], by simp only [PyData.depth]; exact Nat.zero_le _⟩
theorem sh_none {n : Nat} : Sh n .none := ⟨by simp only [PyData.canLay0], by simp only [PyData.depth]; exact Nat.zero_le _⟩
theorem sh_list {n : Nat} {ds : List PyData} (h : ∀ d ∈ ds, Sh n d) : Sh (n + 1) (.list ds) := ⟨by simp only [PyData.canLay0]; exact lay_all fun d hd => (h d hd).1, by simp only [PyData.depth]; exact Nat.succ_le_succ (depth_all fun d hd => (h d hd).2)⟩
theorem sh_tuple {n : Nat} {ds : List PyData} (h : ∀ d ∈ ds, Sh n d) : Sh (n + 1) (.tuple ds) := ⟨by simp only [PyData.canLay0]; exact lay_all fun d hd => (h d hd).1, by simp only [PyData.depth]; exact Nat.succ_le_succ (depth_all fun d hd => (h d hd).2)⟩
theorem sh_ints {n : Nat} (ns : List Int) : Sh (n + 1) (dI ns) := sh_list fun d hd => by
  obtain ⟨i, _, rfl⟩ := List.mem_map.mp hd
  exact sh_int
theorem shaped_of {n : Nat} {d : PyData} (h : Sh n d) (hn : n ≤ 64 := by decide) : SeqAt.shaped d = true := by
  unfold SeqAt.shaped
  simp only [Bool.and_eq_true, decide_eq_true_eq]
  exact ⟨h.1, Nat.le_trans h.2 hn⟩
theorem eqv_ints : ∀ ns ms : List Int, PyData.eqvAll (ns.map .int) (ms.map .int) = decide (ns = ms)
  | [], [] => by simp [PyData.eqvAll]
  | [], _ :: _ => by simp [PyData.eqvAll]
  | _ :: _, [] => by simp [PyData.eqvAll]
  | a :: r, b :: s => by
    simp only [List.map_cons, PyData.eqvAll, PyData.eqv, eqv_ints r s]
    by_cases h : a = b <;> by_cases h' : r = s <;> simp [h, h']
theorem eqv_dI (ns ms : List Int) : PyData.eqv (dI ns) (dI ms) = decide (ns = ms) := by
  unfold dI
  simp only [PyData.eqv]
  exact eqv_ints ns ms
/-! ### types of values -/
theorem tyx_list {K : PySem.W.Frag} {H : Hp} {a : Addr} {xs : List V} (h : SqL K H a xs) : TyX K H (.ref a) (.type "list") := by
  rcases h with (h | ⟨o, h⟩) | ⟨o, its, n, hk, hc, _⟩
  · exact .base (.lst h)
  · exact .base (.frz h)
  · exact .kList hk hc
theorem tyx_tuple {K : PySem.W.Frag} {H : Hp} {a : Addr} {xs : List V} (h : SqT K H a xs) : TyX K H (.ref a) (.type "tuple") := by
  rcases h with (h | ⟨o, h⟩) | ⟨o, its, n, hk, hc, _⟩
  · exact .base (.tup h)
  · exact .fTuple h
  · exact .kTuple hk hc
theorem kit_ll {K : PySem.W.Frag} : PySem.W.kitOne K (.type "list") (.type "list") = some true := kit_ty (by decide +kernel)
theorem kit_tl {K : PySem.W.Frag} : PySem.W.kitOne K (.type "tuple") (.type "list") = some false := kit_ty (by decide +kernel)
theorem kit_tt {K : PySem.W.Frag} : PySem.W.kitOne K (.type "tuple") (.type "tuple") = some true := kit_ty (by decide +kernel)
/-- what is known of a value: whether it is an int, a bool -/
def whV : V → Bool
  | .int _ => true
  | _ => false
def intV : V → Bool
  | .int _ => true
  | .bl _ => true
  | _ => false
def blV : V → Bool
  | .bl _ => true
  | _ => false
def Kn (K : PySem.W.Frag) (H : Hp) (x : V) : Prop := ∃ t, TyX K H x t ∧ PySem.W.kitOne K t (.type "int") = some (intV x) ∧ PySem.W.kitOne K t (.type "bool") = some (blV x)
theorem kn_int {K : PySem.W.Frag} {H : Hp} {i : Int} : Kn K H (.int i) := ⟨_, .base (.int i), kit_ty (show kitB "int" "int" = some true by decide +kernel), kit_ty (show kitB "int" "bool" = some false by decide +kernel)⟩
theorem same_ty {K : PySem.W.Frag} {H H' : Hp} {x : V} {t : Value} (s : Same H H') (h : TyX K H x t) : TyX K H' x t := by
  cases h with
  | base b =>
    refine .base ?_
    cases b with
    | non => exact .non
    | bl x => exact .bl x
    | int i => exact .int i
    | str x => exact .str x
    | flt x => exact .flt x
    | lst e => exact .lst (s _ _ e)
    | frz e => exact .frz (s _ _ e)
    | tup e => exact .tup (s _ _ e)
    | dK e => exact .dK (s _ _ e)
    | dT e => exact .dT (s _ _ e)
    | ins e cl ha hn htk hm => exact .ins (s _ _ e) cl ha hn htk hm
  | byt b => exact .byt b
  | set e => exact .set (s _ _ e)
  | kList e c => exact .kList e c
  | kTuple e c => exact .kTuple e c
  | kDict e c => exact .kDict e c
  | fTuple e => exact .fTuple (s _ _ e)
  | fDict e => exact .fDict (s _ _ e)
theorem same_kn {K : PySem.W.Frag} {H H' : Hp} {x : V} (s : Same H H') (h : Kn K H x) : Kn K H' x := let ⟨t, a, b⟩ := h; ⟨t, same_ty s a, b⟩
/-- an own exception class without an own __init__ -/
structure Exq (K : PySem.W.Frag) (mg : Str → Option Value) (n : Str) (C : Addr) : Prop where
  x : PySem.W.excIn K C [.type "ValueError", .type "Exception", .type "BaseException", .type "object"] "ValueError.__new__" = true
  g : mg n = some (.ref C)
  kp : PySem.W.keepIn K (.ref C) = true
  b : PySem.W.subIn K (.ref C) (.type "BaseException") = some true
  t : PySem.W.typeIn K (.ref C) = some (.type "type")
/-- no built-in's name is bound by the text -/
structure Bn (mg : Str → Option Value) : Prop where
  n_isinstance : mg "isinstance" = none
  n_int : mg "int" = none
  n_bool : mg "bool" = none
  n_list : mg "list" = none
  n_tuple : mg "tuple" = none
  n_len : mg "len" = none
  n_all : mg "all" = none
  n_any : mg "any" = none
  n_sum : mg "sum" = none
  n_sorted : mg "sorted" = none
  n_range : mg "range" = none
  n_enumerate : mg "enumerate" = none
  n_max : mg "max" = none
  n_min : mg "min" = none
  n_abs : mg "abs" = none
  n_dict : mg "dict" = none
  n_str : mg "str" = none
  n_set : mg "set" = none
/-! ### how often each comes: a dict of ints -/
def allS (one other : List Int) : List Int := one.flatMap fun m => other.map fun t => m + t
def putN (c : List (Int × Int)) (k v : Int) : List (Int × Int) := if c.any (fun p => decide (p.1 = k)) then c.map (fun p => if p.1 = k then (p.1, v) else p) else c ++ [(k, v)]
def findN (c : List (Int × Int)) (k : Int) : Option Int := (c.find? (fun p => decide (p.1 = k))).map (·.2)
def getN (c : List (Int × Int)) (k : Int) : Int := (findN c k).getD 0
def tallyF (c : List (Int × Int)) (l : List Int) : List (Int × Int) := l.foldl (fun c k => putN c k (getN c k + 1)) c
def tally (l : List Int) : List (Int × Int) := tallyF [] l
def kvs (c : List (Int × Int)) : List (L2.Key × V) := c.map fun p => (Sum.inl p.1, V.int p.2)
theorem valV_kvs (c : List (Int × Int)) (k : Int) : valV (kvs c) (Sum.inl k) = (findN c k).map V.int := by
  induction c with
  | nil => rfl
  | cons p r ih =>
    by_cases h : p.1 = k
    · have e : valV (kvs (p :: r)) (Sum.inl k) = some (V.int p.2) := valV_pos (show (Sum.inl p.1 : L2.Key) = Sum.inl k by rw [h])
      rw [e]
      simp [findN, List.find?_cons, h]
    · have e : valV (kvs (p :: r)) (Sum.inl k) = valV (kvs r) (Sum.inl k) := valV_neg (fun z => h (Sum.inl.inj z))
      rw [e, ih]
      simp [findN, List.find?_cons, h]
theorem getD_kvs (c : List (Int × Int)) (k : Int) : (valV (kvs c) (Sum.inl k)).getD (.int 0) = .int (getN c k) := by
  rw [valV_kvs, getN]
  cases findN c k <;> rfl
theorem put_kvs (c : List (Int × Int)) (k v : Int) : putK (kvs c) (Sum.inl k) (.int v) = kvs (putN c k v) := by
  have ea : ((kvs c).any fun kv => decide (kv.1 = Sum.inl k)) = c.any fun p => decide (p.1 = k) := by
    unfold kvs
    rw [List.any_map]
    congr 1
    funext p
    simp
  unfold putK putN
  rw [ea]
  by_cases h : (c.any fun p => decide (p.1 = k)) = true
  · rw [if_pos h, if_pos h]
    unfold kvs
    rw [List.map_map, List.map_map]
    congr 1
    funext p
    simp only [Function.comp]
    by_cases e : p.1 = k
    · rw [if_pos e, if_pos (by rw [e])]
    · rw [if_neg e, if_neg (fun z => e (Sum.inl.inj z))]
  · rw [if_neg h, if_neg h]
    unfold kvs
    rw [List.map_append]
    rfl
theorem put_len (c : List (Int × Int)) (k v : Int) : (putN c k v).length ≤ c.length + 1 := by
  unfold putN
  split
  · rw [List.length_map]
    omega
  · rw [List.length_append]
    exact Nat.le_refl _
theorem tallyF_len : ∀ (l : List Int) (c : List (Int × Int)), (tallyF c l).length ≤ c.length + l.length
  | [], c => Nat.le_refl _
  | k :: r, c => by
    have h := tallyF_len r (putN c k (getN c k + 1))
    have h2 := put_len c k (getN c k + 1)
    show (tallyF (putN c k (getN c k + 1)) r).length ≤ c.length + (r.length + 1)
    omega
theorem tallyF_app (c : List (Int × Int)) (l m : List Int) : tallyF c (l ++ m) = tallyF (tallyF c l) m := List.foldl_append
theorem allS_app (l m o : List Int) : allS (l ++ m) o = allS l o ++ allS m o := List.flatMap_append
theorem allS_one (m : Int) (o : List Int) : allS [m] o = o.map fun t => m + t := by simp [allS]
theorem allS_len (l o : List Int) : (allS l o).length = l.length * o.length := by
  induction l with
  | nil => simp [allS]
  | cons m r ih =>
    have e : allS (m :: r) o = o.map (fun t => m + t) ++ allS r o := rfl
    rw [e, List.length_append, List.length_map, ih, List.length_cons, Nat.add_mul, Nat.one_mul, Nat.add_comm]
/-! ### what the top has left: defs by their names -/
def DefIn (K : PySem.W.Frag) (x q : Str) (st : Stmt) (f : Addr) : Prop := ∃ (oc : Value) (od : Option Addr) (kV dc pm : Value) (an : Option Addr) (cd ct : Value) (sl : Array (Option Value)),
  K.lookup f = some ⟨oc, od, .func (PySem.W.fnOf x q (defArgs st) (defBody st) (defScope st) .none kV dc pm an cd ct), sl⟩ ∧ PySem.W.codeIn K cd q = true ∧ PySem.W.keepIn K (.ref f) = true
theorem defIn_of {K : PySem.W.Frag} {x q : Str} {st : Stmt} {f : Addr} {oc : Value} {od : Option Addr} {kV dc pm : Value} {an : Option Addr} {cd ct : Value} {sl : Array (Option Value)}
    (l : K.lookup f = some ⟨oc, od, .func (PySem.W.fnOf x q (defArgs st) (defBody st) (defScope st) .none kV dc pm an cd ct), sl⟩) (c : PySem.W.codeIn K cd q = true) (k : PySem.W.keepIn K (.ref f) = true) : DefIn K x q st f := ⟨oc, od, kV, dc, pm, an, cd, ct, sl, l, c, k⟩
theorem const_of {K : PySem.W.Frag} {x : Str} {n : Int} {t : Tok} (h : PySem.W.nsIn K mainGlobals x = some (some (.int n t))) : ∃ t, PySem.W.nsIn K mainGlobals x = some (some (.int n t)) := ⟨t, h⟩
theorem df_mk {P : Program} {w : World} {K : PySem.W.Frag} {mg : Str → Option Value} {base : Heap} {CX : CXT} {k : Nat} {x : Str} {st : Stmt} {f : Addr} {ps : List Str} {sp : Sp} (d : DefIn K x x st f) (g : mg x = some (.ref f))
    (bd : ∀ (kV doc pm : Value) (an : Option Addr) (cdv ct : Value) (us : List Value), us.length = ps.length → bindArgs (PySem.W.fnOf x x (defArgs st) (defBody st) (defScope st) .none kV doc pm an cdv ct) ⟨us, []⟩ = pure (ps.zip us))
    (ok : ∀ fd, Fun K x x st f fd → FnOk P w K mg base CX k f fd ps sp) : Df P w K mg base CX k x ps sp := by
  obtain ⟨oc, od, kV, dc, pm, an, cd, ct, sl, h1, h2, h3⟩ := d
  have F := fun_mk (st := st) h1 h2 h3
  exact ⟨f, _, ok _ F, g, h3, F.binds bd⟩
end Tw
set_option Elab.async false
set_option linter.all false
set_option maxRecDepth 100000
set_option maxHeartbeats 4000000
/-! Twindice: order of data, sorted lists (plain) -/
namespace Tw
open PySem PySem.Spec PyProof.Rows L2
/-! ### sorting -/
section
variable {α β : Type}
def ins1 (le : α → α → Bool) (x : α) : List α → List α
  | [] => [x]
  | y :: r => if le x y = true then x :: y :: r else y :: ins1 le x r
def isort (le : α → α → Bool) : List α → List α
  | [] => []
  | x :: r => ins1 le x (isort le r)
theorem ins1_perm (le : α → α → Bool) (x : α) : ∀ l : List α, (ins1 le x l).Perm (x :: l)
  | [] => .refl _
  | y :: r => by
    unfold ins1
    split
    · exact .refl _
    · exact ((ins1_perm le x r).cons y).trans (.swap x y r)
theorem isort_perm (le : α → α → Bool) : ∀ l : List α, (isort le l).Perm l
  | [] => .refl _
  | x :: r => (ins1_perm le x _).trans ((isort_perm le r).cons x)
theorem ins1_sorted {le : α → α → Bool} (tr : ∀ a b c, le a b = true → le b c = true → le a c = true) (tot : ∀ a b, le a b = true ∨ le b a = true) (x : α) : ∀ l : List α, l.Pairwise (fun a b => le a b = true) → (ins1 le x l).Pairwise (fun a b => le a b = true)
  | [], _ => by
    unfold ins1
    exact List.pairwise_singleton _ _
  | y :: r, h => by
    unfold ins1
    have h' := List.pairwise_cons.mp h
    split
    · rename_i e
      refine List.pairwise_cons.mpr ⟨fun z hz => ?_, h⟩
      rcases List.mem_cons.mp hz with rfl | hz
      · exact e
      · exact tr _ _ _ e (h'.1 z hz)
    · rename_i e
      refine List.pairwise_cons.mpr ⟨fun z hz => ?_, ins1_sorted tr tot x r h'.2⟩
      rcases List.mem_cons.mp ((ins1_perm le x r).mem_iff.mp hz) with rfl | hz
      · exact (tot z y).resolve_left e
      · exact h'.1 z hz
theorem isort_sorted {le : α → α → Bool} (tr : ∀ a b c, le a b = true → le b c = true → le a c = true) (tot : ∀ a b, le a b = true ∨ le b a = true) : ∀ l : List α, (isort le l).Pairwise (fun a b => le a b = true)
  | [] => .nil
  | x :: r => ins1_sorted tr tot x _ (isort_sorted tr tot r)
/-- a total order -/
structure TotO (le : α → α → Bool) : Prop where
  tr : ∀ a b c, le a b = true → le b c = true → le a c = true
  tot : ∀ a b, le a b = true ∨ le b a = true
  anti : ∀ a b, le a b = true → le b a = true → a = b
theorem TotO.uniq {le : α → α → Bool} (o : TotO le) {l m : List α} (h : l.Perm m) (hs : l.Pairwise (fun a b => le a b = true)) : l = isort le m :=
  (h.trans (isort_perm le m).symm).eq_of_pairwise (fun a b _ _ h1 h2 => o.anti a b h1 h2) hs (isort_sorted o.tr o.tot m)
theorem TotO.merge {le : α → α → Bool} (o : TotO le) (l : List α) : l.mergeSort le = isort le l :=
  o.uniq (List.mergeSort_perm l le) (List.pairwise_mergeSort o.tr (fun a b => by
    rcases o.tot a b with h | h <;> simp [h]) l)
theorem TotO.perm {le : α → α → Bool} (o : TotO le) {l m : List α} (h : l.Perm m) : isort le l = isort le m := o.uniq ((isort_perm le l).trans h) (isort_sorted o.tr o.tot l)
end
/-! ### the order of data -/
theorem lt_tcons {x y : PyData} {xs ys : List PyData} (h : PySem.W.alike x y = true) : PySem.W.dataLt (.tuple (x :: xs)) (.tuple (y :: ys)) = if PyData.eqv x y = true then PySem.W.dataLt (.tuple xs) (.tuple ys) else PySem.W.dataLt x y := by
  by_cases e : PyData.eqv x y = true
  · rw [if_pos e, PySem.W.dataLt_tuple, PySem.W.dataLt_tuple, PySem.W.dataLt_all_yes h e]
  · rw [if_neg e, PySem.W.dataLt_tuple, PySem.W.dataLt_all_no h (by simpa using e)]
theorem lt_lcons {x y : PyData} {xs ys : List PyData} (h : PySem.W.alike x y = true) : PySem.W.dataLt (.list (x :: xs)) (.list (y :: ys)) = if PyData.eqv x y = true then PySem.W.dataLt (.list xs) (.list ys) else PySem.W.dataLt x y := by
  by_cases e : PyData.eqv x y = true
  · rw [if_pos e, PySem.W.dataLt_list, PySem.W.dataLt_list, PySem.W.dataLt_all_yes h e]
  · rw [if_neg e, PySem.W.dataLt_list, PySem.W.dataLt_all_no h (by simpa using e)]
theorem lt_self (d : PyData) : PySem.W.dataLt d d = false := (PyProof.Rows.listOrd PyProof.Rows.itemOrd).irrefl (PySem.W.keyToks d)
def ltL : List Int → List Int → Bool
  | [], [] => false
  | [], _ :: _ => true
  | _ :: _, [] => false
  | x :: xs, y :: ys => if x = y then ltL xs ys else decide (x < y)
theorem lt_nil_cons {y : PyData} {ys : List PyData} : PySem.W.dataLt (.list []) (.list (y :: ys)) = true := by
  rw [PySem.W.dataLt_list, PySem.W.toks_all_cons]
  simp only [PySem.W.keyToksAll]
  rw [PySem.W.lex_atom (by decide), PySem.W.lex_one]
  decide
theorem lt_cons_nil {y : PyData} {ys : List PyData} : PySem.W.dataLt (.list (y :: ys)) (.list []) = false := by
  rw [PySem.W.dataLt_list, PySem.W.toks_all_cons]
  simp only [PySem.W.keyToksAll]
  rw [PySem.W.lex_atom (by decide), PySem.W.lex_one]
  decide
theorem alike_ints : ∀ xs ys : List Int, PySem.W.alikeAll (xs.map .int) (ys.map .int) = true
  | [], _ => by simp [PySem.W.alikeAll]
  | _ :: _, [] => by simp [PySem.W.alikeAll]
  | x :: xs, y :: ys => by simp only [List.map_cons, PySem.W.alikeAll, PySem.W.alike, alike_ints xs ys, Bool.and_self]
theorem alike_dI (xs ys : List Int) : PySem.W.alike (dI xs) (dI ys) = true := by
  unfold dI
  simp only [PySem.W.alike]
  exact alike_ints xs ys
theorem eqv_int (i j : Int) : PyData.eqv (.int i) (.int j) = decide (i = j) := by
  simp only [PyData.eqv]
  by_cases h : i = j <;> simp [h]
theorem lt_dI : ∀ xs ys : List Int, PySem.W.dataLt (dI xs) (dI ys) = ltL xs ys
  | [], [] => lt_self _
  | [], _ :: _ => lt_nil_cons
  | _ :: _, [] => lt_cons_nil
  | x :: xs, y :: ys => by
    have h : PySem.W.alike (.int x) (.int y) = true := by simp only [PySem.W.alike]
    have e : PySem.W.dataLt (dI (x :: xs)) (dI (y :: ys)) = _ := lt_lcons (xs := xs.map .int) (ys := ys.map .int) h
    rw [e, eqv_int, PySem.W.dataLt_int]
    unfold ltL
    by_cases z : x = y
    · rw [decide_eq_true z, if_pos rfl, if_pos z]
      exact lt_dI xs ys
    · rw [decide_eq_false z, if_neg Bool.false_ne_true, if_neg z]
/-! pairs of ints -/
def dP (q : Int × Int) : PyData := .tuple [.int q.1, .int q.2]
def leP (a b : Int × Int) : Bool := if a.1 = b.1 then decide (a.2 ≤ b.2) else decide (a.1 < b.1)
theorem leP_tot : TotO leP where
  tr a b c h1 h2 := by
    unfold leP at *
    split at h1 <;> split at h2 <;> split <;> simp only [decide_eq_true_eq] at * <;> omega
  tot a b := by
    unfold leP
    split <;> split <;> simp only [decide_eq_true_eq] <;> omega
  anti a b h1 h2 := by
    unfold leP at *
    split at h1 <;> split at h2 <;> simp only [decide_eq_true_eq] at *
    · exact Prod.ext (by assumption) (by omega)
    all_goals omega
theorem le_dP (a b : Int × Int) : (!PySem.W.dataLt (dP b) (dP a)) = leP a b := by
  have h1 : PySem.W.alike (.int b.1) (.int a.1) = true := by simp only [PySem.W.alike]
  have h2 : PySem.W.alike (.int b.2) (.int a.2) = true := by simp only [PySem.W.alike]
  unfold dP
  rw [lt_tcons h1, lt_tcons h2, eqv_int, eqv_int, PySem.W.dataLt_int, PySem.W.dataLt_int, lt_self]
  unfold leP
  by_cases z : b.1 = a.1
  · rw [decide_eq_true z, if_pos rfl, if_pos z.symm]
    by_cases z2 : b.2 = a.2
    · simp [z2]
    · rw [decide_eq_false z2, if_neg Bool.false_ne_true]
      by_cases z3 : b.2 < a.2
      · rw [decide_eq_true z3, decide_eq_false (by omega)]
        rfl
      · rw [decide_eq_false z3, decide_eq_true (by omega)]
        rfl
  · rw [decide_eq_false z, if_neg Bool.false_ne_true, if_neg (fun e => z e.symm)]
    by_cases z3 : b.1 < a.1
    · rw [decide_eq_true z3, decide_eq_false (by omega)]
      rfl
    · rw [decide_eq_false z3, decide_eq_true (by omega)]
      rfl
/-! ### sorted, by types -/
/-- data of one kind that can be sorted: how they are written, their order -/
structure Srt {δ : Type} (enc : δ → PyData) (le : δ → δ → Bool) : Prop where
  al : ∀ x y, PySem.W.alike (enc x) (enc y) = true
  sk : (∀ x, ∃ u r, enc x = .tuple (u :: r)) ∨ ∀ x, enc x ≠ .none ∧ ∀ xs, enc x ≠ .tuple xs
  dep : ∀ x, (enc x).depth ≤ 60
  ord : ∀ x y, (!PySem.W.dataLt (enc y) (enc x)) = le x y
  o : TotO le
theorem rd_sortT {δ : Type} {enc : δ → PyData} {le : δ → δ → Bool} (S : Srt enc le) {K : PySem.W.Frag} {H : Hp} {Q : VK} {a : Addr} (zs : List (V × δ)) (hs : SqL K H a (zs.map (·.1))) (hd : ∀ z ∈ zs, Dp K H z.1 (enc z.2))
    (q : ∀ (p : Addr) (zs' : List (V × δ)), H p = none → zs'.Perm zs → zs'.map (·.2) = isort le (zs.map (·.2)) → Q (.ref p) (upd H p (.lst (zs'.map (·.1))))) : rSortD K [.ref a] H Q := by
  refine ⟨a, zs.map fun z => (z.1, enc z.2), rfl, ?_, ?_, ?_, ?_, ?_, fun p np => ?_⟩
  · rw [List.map_map]
    exact hs
  · intro b hb
    obtain ⟨z, hz, rfl⟩ := List.mem_map.mp hb
    exact hd z hz
  · intro d hd d' hd'
    rw [List.map_map] at hd hd'
    obtain ⟨z, _, rfl⟩ := List.mem_map.mp hd
    obtain ⟨z', _, rfl⟩ := List.mem_map.mp hd'
    exact S.al _ _
  · rw [List.map_map]
    rcases S.sk with h | h
    · left
      intro d hd
      obtain ⟨z, _, rfl⟩ := List.mem_map.mp hd
      exact h _
    · right
      intro d hd
      obtain ⟨z, _, rfl⟩ := List.mem_map.mp hd
      exact h _
  · intro b hb
    obtain ⟨z, hz, rfl⟩ := List.mem_map.mp hb
    exact S.dep _
  · have e : (zs.map fun z => (z.1, enc z.2)).mergeSort (PySem.W.dataLe false (·.2)) = (zs.mergeSort fun a b => le a.2 b.2).map fun z => (z.1, enc z.2) := by
      refine (List.map_mergeSort fun a _ b _ => ?_).symm
      exact (S.ord a.2 b.2).symm
    rw [e, List.map_map]
    refine q p _ np (List.mergeSort_perm _ _) ?_
    rw [← S.o.merge]
    exact List.map_mergeSort fun a _ b _ => rfl
theorem srt_dP : Srt dP leP where
  al x y := by simp only [dP, PySem.W.alike, PySem.W.alikeAll, Bool.and_self]
  sk := .inl fun x => ⟨_, _, rfl⟩
  dep x := by simp only [dP, PyData.depth, PyData.depthAll]; decide
  ord := le_dP
  o := leP_tot
theorem srt_int : Srt PyData.int (fun a b : Int => decide (a ≤ b)) where
  al x y := by simp only [PySem.W.alike]
  sk := .inr fun x => ⟨(fun h => by cases h), (fun _ h => by cases h)⟩
  dep x := by simp only [PyData.depth]; decide
  ord x y := by
    rw [PySem.W.dataLt_int]
    by_cases h : y < x
    · rw [decide_eq_true h, decide_eq_false (by omega)]
      rfl
    · rw [decide_eq_false h, decide_eq_true (by omega)]
      rfl
  o := { tr := fun a b c h1 h2 => by simp only [decide_eq_true_eq] at *; omega, tot := fun a b => by simp only [decide_eq_true_eq]; omega, anti := fun a b h1 h2 => by simp only [decide_eq_true_eq] at *; omega }
/-! ### sizes of great ints -/
def Bd (n : Nat) (x : Int) : Prop := x.natAbs < 2 ^ n
theorem Bd.mono {n m : Nat} {x : Int} (h : Bd n x) (l : n ≤ m) : Bd m x := Nat.lt_of_lt_of_le h (Nat.pow_le_pow_right (by decide) l)
theorem Bd.add {n : Nat} {x y : Int} (h : Bd n x) (h' : Bd n y) : Bd (n + 1) (x + y) := by
  unfold Bd at *
  rw [Nat.pow_succ]
  have := Int.natAbs_add_le x y
  omega
theorem Bd.mul {n m : Nat} {x y : Int} (h : Bd n x) (h' : Bd m y) : Bd (n + m) (x * y) := wide_lt h h'
theorem Bd.mulx {n m : Nat} {x y : Int} (h : Bd n x) (h' : Bd m y) (l : n + m ≤ 134217728) : CMulX x y := mulx_ok h h' l
theorem Bd.of_bits {n : Nat} {x : Int} (h : Builtin.Int.intBits x ≤ n) : Bd n x := by
  unfold Builtin.Int.intBits at h
  unfold Bd
  by_cases e : x = 0
  · subst e
    exact Nat.pow_pos (by decide)
  · have e' : (x == 0) = false := by simpa using e
    rw [e'] at h
    have h1 : x.natAbs < 2 ^ (x.natAbs.log2 + 1) := Nat.lt_log2_self
    exact Nat.lt_of_lt_of_le h1 (Nat.pow_le_pow_right (by decide) h)
theorem bd_sum {n : Nat} : ∀ l : List Int, (∀ x ∈ l, Bd n x) → Bd (n + l.length) l.sum
  | [], _ => by
    unfold Bd
    exact Nat.pow_pos (by decide)
  | x :: r, h => by
    rw [List.sum_cons]
    have h1 := bd_sum r fun y hy => h y (List.mem_cons_of_mem _ hy)
    exact Bd.add ((h x List.mem_cons_self).mono (Nat.le_add_right _ _)) h1
/-! ### slices -/
theorem cut_to (xs : List V) (k : Nat) : cutV xs none (some (k : Int)) = xs.take k := by
  unfold cutV
  rw [HT.sIx_nat, HT.sIx_none, Nat.sub_zero, List.drop_zero]
  exact (List.take_eq_take_min).symm
end Tw
set_option Elab.async false
set_option linter.all false
set_option maxRecDepth 100000
set_option maxHeartbeats 4000000
/-! Twindice: counts of sums (plain) -/
namespace Tw
open PySem L2
theorem findN_inj {c : List (Int × Int)} {k : Int} {o : Option Int} (h : valV (kvs c) (Sum.inl k) = o.map V.int) : findN c k = o := by
  rw [valV_kvs] at h
  cases e : findN c k <;> cases o <;> rw [e] at h <;> simp_all
theorem findN_put (c : List (Int × Int)) (k j v : Int) : findN (putN c k v) j = if j = k then some v else findN c j := by
  apply findN_inj
  rw [← put_kvs, valV_put, valV_kvs]
  by_cases h : j = k
  · subst h
    simp
  · rw [if_neg (fun z => h (Sum.inl.inj z)), if_neg h]
theorem any_key (c : List (Int × Int)) (k : Int) : (c.any fun p => decide (p.1 = k)) = true ↔ k ∈ c.map (·.1) := by
  rw [List.any_eq_true, List.mem_map]
  constructor
  · rintro ⟨p, hp, e⟩
    exact ⟨p, hp, of_decide_eq_true e⟩
  · rintro ⟨p, hp, e⟩
    exact ⟨p, hp, decide_eq_true e⟩
theorem keys_put (c : List (Int × Int)) (k v : Int) : (putN c k v).map (·.1) = if k ∈ c.map (·.1) then c.map (·.1) else c.map (·.1) ++ [k] := by
  unfold putN
  by_cases h : (c.any fun p => decide (p.1 = k)) = true
  · rw [if_pos h, if_pos ((any_key c k).mp h), List.map_map]
    congr 1
    funext p
    simp only [Function.comp]
    split <;> rfl
  · rw [if_neg h, if_neg (fun z => h ((any_key c k).mpr z)), List.map_append]
    rfl
theorem nodup_put {c : List (Int × Int)} (h : (c.map (·.1)).Nodup) (k v : Int) : ((putN c k v).map (·.1)).Nodup := by
  rw [keys_put]
  split
  · exact h
  · rename_i hk
    refine List.nodup_append.mpr ⟨h, List.pairwise_singleton _ _, ?_⟩
    intro a ha b hb e
    rw [List.mem_singleton] at hb
    subst hb
    subst e
    exact hk ha
theorem tally_snoc (l : List Int) (k : Int) : tally (l ++ [k]) = putN (tally l) k (getN (tally l) k + 1) := by
  unfold tally
  rw [tallyF_app]
  rfl
theorem rev_ind {α : Type} {p : List α → Prop} (h0 : p []) (hs : ∀ l x, p l → p (l ++ [x])) (l : List α) : p l := by
  have h : ∀ m : List α, p m.reverse := fun m => by
    induction m with
    | nil => exact h0
    | cons x r ih =>
      rw [List.reverse_cons]
      exact hs _ x ih
  have := h l.reverse
  rwa [List.reverse_reverse] at this
theorem tally_nodup (l : List Int) : ((tally l).map (·.1)).Nodup := by
  induction l using rev_ind with
  | h0 => exact List.nodup_nil
  | hs l x ih =>
    rw [tally_snoc]
    exact nodup_put ih x _
theorem findN_tally (l : List Int) (k : Int) : findN (tally l) k = if k ∈ l then some (l.count k : Int) else none := by
  induction l using rev_ind with
  | h0 => simp [tally, tallyF, findN]
  | hs l x ih =>
    rw [tally_snoc, findN_put]
    by_cases h : k = x
    · subst h
      rw [if_pos rfl, if_pos (by simp), getN, ih, List.count_append]
      by_cases hk : k ∈ l
      · rw [if_pos hk]
        simp
      · rw [if_neg hk, List.count_eq_zero_of_not_mem hk]
        simp
    · rw [if_neg h, ih, List.count_append]
      have e : (x == k) = false := by simpa using fun z => h z.symm
      by_cases hk : k ∈ l
      · rw [if_pos hk, if_pos (List.mem_append_left _ hk)]
        simp [List.count_singleton, e]
      · rw [if_neg hk, if_neg (by
          intro z
          rcases List.mem_append.mp z with z | z
          · exact hk z
          · exact h (List.mem_singleton.mp z))]
/-- how often a sum comes -/
theorem getN_tally (l : List Int) (k : Int) : getN (tally l) k = l.count k := by
  rw [getN, findN_tally]
  by_cases h : k ∈ l
  · rw [if_pos h]
    rfl
  · rw [if_neg h, List.count_eq_zero_of_not_mem h]
    rfl
theorem mem_find : ∀ {c : List (Int × Int)}, (c.map (·.1)).Nodup → ∀ p : Int × Int, p ∈ c ↔ findN c p.1 = some p.2
  | [], _, p => by simp [findN]
  | q :: r, h, p => by
    rw [List.map_cons, List.nodup_cons] at h
    by_cases e : q.1 = p.1
    · have e2 : findN (q :: r) p.1 = some q.2 := by simp [findN, List.find?_cons, e]
      rw [e2]
      constructor
      · intro hp
        rcases List.mem_cons.mp hp with rfl | hp
        · rfl
        · exact absurd (by rw [e]; exact List.mem_map.mpr ⟨p, hp, rfl⟩) h.1
      · intro z
        have : q = p := Prod.ext e (Option.some.inj z)
        rw [this]
        exact List.mem_cons_self
    · have e2 : findN (q :: r) p.1 = findN r p.1 := by simp [findN, List.find?_cons, e]
      rw [e2, ← mem_find h.2 p]
      constructor
      · intro hp
        rcases List.mem_cons.mp hp with rfl | hp
        · exact absurd rfl e
        · exact hp
      · exact fun hp => List.mem_cons_of_mem _ hp
theorem nodup_of_keys : ∀ {c : List (Int × Int)}, (c.map (·.1)).Nodup → c.Nodup
  | [], _ => List.nodup_nil
  | q :: r, h => by
    rw [List.map_cons, List.nodup_cons] at h
    exact List.nodup_cons.mpr ⟨fun z => h.1 (List.mem_map.mpr ⟨q, z, rfl⟩), nodup_of_keys h.2⟩
theorem tally_perm {l m : List Int} (h : l.Perm m) : (tally l).Perm (tally m) := by
  refine (List.perm_ext_iff_of_nodup (nodup_of_keys (tally_nodup l)) (nodup_of_keys (tally_nodup m))).mpr fun p => ?_
  rw [mem_find (tally_nodup l), mem_find (tally_nodup m), findN_tally, findN_tally, h.count_eq]
  simp only [h.mem_iff]
theorem sum_put : ∀ {c : List (Int × Int)}, (c.map (·.1)).Nodup → ∀ k v, ((putN c k v).map (·.2)).sum = (c.map (·.2)).sum - getN c k + v
  | [], _, k, v => by simp [putN, getN, findN]
  | q :: r, h, k, v => by
    rw [List.map_cons, List.nodup_cons] at h
    have ih := sum_put h.2 k v
    by_cases e : q.1 = k
    · have hk : ¬ k ∈ r.map (·.1) := by
        rw [← e]
        exact h.1
      have e1 : putN (q :: r) k v = (q.1, v) :: r := by
        unfold putN
        rw [if_pos (by simp [e]), List.map_cons, if_pos e]
        congr 1
        conv => rhs; rw [← List.map_id r]
        refine List.map_congr_left fun p hp => ?_
        rw [if_neg (fun z => hk (List.mem_map.mpr ⟨p, hp, z⟩))]
        rfl
      have e2 : getN (q :: r) k = q.2 := by simp [getN, findN, List.find?_cons, e]
      rw [e1, e2, List.map_cons, List.map_cons, List.sum_cons, List.sum_cons]
      omega
    · have e1 : putN (q :: r) k v = q :: putN r k v := by
        unfold putN
        have ea : ((q :: r).any fun p => decide (p.1 = k)) = r.any fun p => decide (p.1 = k) := by simp [e]
        rw [ea]
        split
        · rw [List.map_cons, if_neg e]
        · rfl
      have e2 : getN (q :: r) k = getN r k := by simp [getN, findN, List.find?_cons, e]
      rw [e1, e2, List.map_cons, List.map_cons, List.sum_cons, List.sum_cons, ih]
      omega
theorem tally_sum (l : List Int) : ((tally l).map (·.2)).sum = l.length := by
  induction l using rev_ind with
  | h0 => rfl
  | hs l x ih =>
    rw [tally_snoc, sum_put (tally_nodup l), ih, List.length_append, List.length_singleton]
    omega
theorem allS_nil : ∀ l : List Int, allS l [] = []
  | [] => rfl
  | m :: r => by
    show ([] : List Int) ++ allS r [] = []
    rw [allS_nil r]
    rfl
theorem allS_right : ∀ (l : List Int) (x : Int) (r : List Int), (allS l (x :: r)).Perm (l.map (fun m => m + x) ++ allS l r)
  | [], _, _ => .refl _
  | m :: l, x, r => by
    have ih := allS_right l x r
    have e1 : allS (m :: l) (x :: r) = (m + x) :: (r.map (fun t => m + t) ++ allS l (x :: r)) := rfl
    have e2 : allS (m :: l) r = r.map (fun t => m + t) ++ allS l r := rfl
    rw [e1, e2, List.map_cons, List.cons_append]
    refine .cons _ ?_
    refine (ih.append_left _).trans ?_
    rw [← List.append_assoc, ← List.append_assoc]
    exact (List.perm_append_comm).append_right _
theorem allS_comm : ∀ l m : List Int, (allS l m).Perm (allS m l)
  | [], m => by
    rw [allS_nil]
    exact .refl _
  | x :: r, m => by
    refine .trans ?_ (allS_right m x r).symm
    have e : allS (x :: r) m = m.map (fun t => x + t) ++ allS r m := rfl
    rw [e]
    refine .append ?_ (allS_comm r m)
    rw [show (fun t : Int => x + t) = fun m => m + x from funext fun t => Int.add_comm x t]
theorem perm_sum {l m : List Int} (h : l.Perm m) : l.sum = m.sum := by
  induction h with
  | nil => rfl
  | cons x _ ih => rw [List.sum_cons, List.sum_cons, ih]
  | swap x y l => simp only [List.sum_cons]; omega
  | trans _ _ h1 h2 => exact h1.trans h2
def sumsM (one other : List Int) : List (Int × Int) := isort leP (tally (allS one other))
theorem sumsM_comm (one other : List Int) : sumsM one other = sumsM other one := leP_tot.perm (tally_perm (allS_comm one other))
theorem sumsM_sum (one other : List Int) : ((sumsM one other).map (·.2)).sum = (one.length : Int) * other.length := by
  have h : ((sumsM one other).map (·.2)).Perm ((tally (allS one other)).map (·.2)) := (isort_perm leP _).map _
  rw [perm_sum h, tally_sum, allS_len]
  exact Int.natCast_mul _ _
/-! pairs as data -/
def dPs (ps : List (Int × Int)) : PyData := .list (ps.map dP)
theorem sh_dP {q : Int × Int} : Sh 1 (dP q) := sh_tuple fun d hd => by
  simp only [List.mem_cons, List.not_mem_nil, or_false] at hd
  rcases hd with rfl | rfl <;> exact sh_int
theorem sh_dPs (ps : List (Int × Int)) : Sh 2 (dPs ps) := sh_list fun d hd => by
  obtain ⟨q, _, rfl⟩ := List.mem_map.mp hd
  exact sh_dP
theorem eqv_self {n : Nat} {d : PyData} (h : Sh n d) : PyData.eqv d d = true := SeqAt.eqv_refl d h.1
end Tw
set_option Elab.async false
set_option linter.all false
set_option maxRecDepth 100000
set_option maxHeartbeats 4000000
/-! Twindice: min of four, == of dicts, classes -/
namespace Tw
open PySem PySem.Spec PyProof.Rows L2
section
variable {prog : Program} {w : World} {A : Around} {E : Value → Shared → Prop} {s : Shared}
theorem args_min4 (a b c d : Value) : argsOk "min" ⟨[a, b, c, d], []⟩ := by unfold argsOk; kernel_rfl
theorem call_min_four {a b c d : Value} {Q : Value → Shared → Prop}
    (h : wpAny (model prog w) A.in1 (pyIter (.ref s.heap.objs.size)) (fun it u => ∃ I fp wr n G St bt, it = .ref I ∧ Walks prog w A.in1 I fp wr n G St ∧ St 0 u.heap ∧ (∀ y ∈ fp, y < u.heap.objs.size) ∧ 0 < n ∧ CmpOf prog w A.in1 .Lt G bt ∧
      ∀ v h' tk, G (argBest bt (n - 1)) v → (∀ y o, y ∉ wr → u.heap.get? y = some o → h'.get? y = some o) → Q v { u with heap := h', toks := tk }) E
      { s with heap := s.heap.push { cls := .type "tuple", data := .seq #[a, b, c, d] } }) :
    wpAny (model prog w) A (call (.builtin "min") [a, b, c, d]) Q E s := by
  have nm : (toString "min" ++ toString ".loop" : String) = "min.loop" := by decide
  refine call_function_tree F.kind_min F.plain_min F.entry_min (args_min4 _ _ _ _) ?_
  show wpAny _ A.in1 (Builtin.Builtins.bindParams "min" ["key", "default"] 0 ⟨[], []⟩ >>= _) _ E s
  refine wpAny_bind (wpAny_of_eq (show Builtin.Builtins.bindParams "min" ["key", "default"] 0 ⟨[], []⟩ = pure ([none, none] : List (Option Value)) from rfl) ?_)
  show wpAny _ A.in1 (newTuple [a, b, c, d] >>= _) _ E s
  refine wpAny_bind (wpAny_newObj_type (wpAny_bind (wpAny_mono h (fun it u hu => ?_) fun _ _ e => e)))
  obtain ⟨I, fp, wr, n, G, St, bt, rfl, W, hst, hfp, hn, hcmp, hQ⟩ := hu
  refine wpAny_bind (wpAny_newObj_type ?_)
  rw [nm]
  refine wpAny_pure ⟨plainId_quiet F.plain_min_loop _, codeAny_min_loop_first W bt hcmp u.heap.objs.size (fun hm => Nat.lt_irrefl _ (hfp _ hm)) hn (W.frame _ _ _ hst fun y _ o e => Heap.get?_push_of_some _ e) (Heap.get?_push_size _ rfl) fun v h' tk hP hk => ?_⟩
  exact hQ v h' tk hP fun y o hy e => hk y o hy (Nat.ne_of_lt (Heap.lt_size e)) (Heap.get?_push_of_some _ e)
/-- min(a, b, c, d) of four ints -/
def min4 (a b c d : Int) : Int := min (min (min a b) c) d
theorem min_four {a b c d : Int} {t1 t2 t3 t4 : Tok} {Q : Value → Shared → Prop} (hh : A.handled = none)
    (h : ∀ h' tk t, (∀ y o, s.heap.get? y = some o → h'.get? y = some o) → Q (.int (min4 a b c d) t) { s with heap := h', toks := tk }) :
    wpAny (model prog w) A (call (.builtin "min") [.int a t1, .int b t2, .int c t3, .int d t4]) Q E s := by
  have hT : (s.heap.push { cls := .type "tuple", data := .seq #[.int a t1, .int b t2, .int c t3, .int d t4] }).IsTuple s.heap.objs.size (intItems #[(a, t1), (b, t2), (c, t3), (d, t4)]) := ⟨_, Heap.get?_push_size _ rfl, rfl, 0, by simp [intItems]⟩
  have hsz : (s.heap.push { cls := .type "tuple", data := .seq #[.int a t1, .int b t2, .int c t3, .int d t4] }).objs.size = s.heap.objs.size + 1 := Heap.size_push ..
  refine call_min_four (wpAny_pyIter_tuple hT ?_)
  refine ⟨_, [_, s.heap.objs.size], [_], _, _, _, _, rfl, Walks.tuple (A := A.in1) hh _ s.heap.objs.size (by rw [hsz]; exact Nat.ne_of_lt (Nat.lt_succ_self _)) (intItems #[(a, t1), (b, t2), (c, t3), (d, t4)]),
    ⟨⟨_, Heap.get?_push_size _ rfl, rfl, rfl⟩, hT.push _⟩, fun y hy => ?_, by simp [intItems], CmpOf.ints_lt (numAt #[(a, t1), (b, t2), (c, t3), (d, t4)]) (fun _ _ => intItems_at), fun v h' tk hP hk => ?_⟩
  · show y < ((s.heap.push _).push _).objs.size
    rw [Heap.size_push, hsz]
    simp only [List.mem_cons, List.not_mem_nil, or_false] at hy
    rcases hy with rfl | rfl
    · rw [hsz]
      exact Nat.lt_succ_self _
    · exact Nat.lt_succ_of_lt (Nat.lt_succ_self _)
  · have hold : ∀ y o, s.heap.get? y = some o → h'.get? y = some o := fun y o e => by
      refine hk y o (fun hm => ?_) (Heap.get?_push_of_some _ (Heap.get?_push_of_some _ e))
      have e1 := List.mem_singleton.mp hm
      have lt := Heap.lt_size e
      rw [e1, hsz] at lt
      exact Nat.lt_irrefl _ (Nat.lt_of_succ_lt lt)
    have hP2 : (intItems #[(a, t1), (b, t2), (c, t3), (d, t4)])[argBest (fun i j => decide (numAt #[(a, t1), (b, t2), (c, t3), (d, t4)] i < numAt #[(a, t1), (b, t2), (c, t3), (d, t4)] j)) 3]? = some v := by
      have z : (intItems #[(a, t1), (b, t2), (c, t3), (d, t4)]).size - 1 = 3 := by simp [intItems]
      rw [← z]
      exact hP
    have hv : ∃ t, v = .int (min4 a b c d) t := by
      unfold min4
      by_cases h1 : b < a
      · by_cases h2 : c < b
        · by_cases h3 : d < c
          · simp [argBest, numAt, h1, h2, h3, intItems] at hP2
            exact ⟨t4, by rw [← hP2]; congr 1; omega⟩
          · simp [argBest, numAt, h1, h2, h3, intItems] at hP2
            exact ⟨t3, by rw [← hP2]; congr 1; omega⟩
        · by_cases h3 : d < b
          · simp [argBest, numAt, h1, h2, h3, intItems] at hP2
            exact ⟨t4, by rw [← hP2]; congr 1; omega⟩
          · simp [argBest, numAt, h1, h2, h3, intItems] at hP2
            exact ⟨t2, by rw [← hP2]; congr 1; omega⟩
      · by_cases h2 : c < a
        · by_cases h3 : d < c
          · simp [argBest, numAt, h1, h2, h3, intItems] at hP2
            exact ⟨t4, by rw [← hP2]; congr 1; omega⟩
          · simp [argBest, numAt, h1, h2, h3, intItems] at hP2
            exact ⟨t3, by rw [← hP2]; congr 1; omega⟩
        · by_cases h3 : d < a
          · simp [argBest, numAt, h1, h2, h3, intItems] at hP2
            exact ⟨t4, by rw [← hP2]; congr 1; omega⟩
          · simp [argBest, numAt, h1, h2, h3, intItems] at hP2
            exact ⟨t1, by rw [← hP2]; congr 1; omega⟩
    obtain ⟨t, rfl⟩ := hv
    exact h h' tk t hold
end
section
variable {X : Cx}
def rMin4 : List V → Hp → VK → Prop := fun xs H Q => ∃ a b c d : Int, xs = [.int a, .int b, .int c, .int d] ∧ Q (.int (min4 a b c d)) H
theorem call_min4 (hc : X.calm = true) : CallR X (.builtin "min") rMin4 := by
  intro pins s σ H xs us Q I r h
  obtain ⟨a, b, c, d, rfl, q⟩ := h
  match us, r with
  | [_, _, _, _], .cons ⟨t1, e1⟩ (.cons ⟨t2, e2⟩ (.cons ⟨t3, e3⟩ (.cons ⟨t4, e4⟩ .nil))) =>
    subst e1 e2 e3 e4
    exact min_four (I.ok.hd hc) fun h' tk t k => ⟨.int (min4 a b c d), H, I.kept k, ⟨t, rfl⟩, q⟩
/-! ### == of two dicts of ints -/
def dEq (c1 c2 : List (Int × Int)) : Bool := decide (c1.length = c2.length) && c1.all fun p => decide (findN c2 p.1 = some p.2)
def rEqK : R2 := fun x y H Q => ∃ a b c1 c2, x = .ref a ∧ y = .ref b ∧ H a = some (.dK (kvs c1)) ∧ H b = some (.dK (kvs c2)) ∧ Q (.bl (dEq c1 c2)) H
theorem hits_of {A : Around} {s : Shared} {c2 : List (Int × Int)} {vb : List (L2.Key × Value)} (rb : KV (kvs c2) vb) : ∀ {c1 : List (Int × Int)} {va : List (L2.Key × Value)}, KV (kvs c1) va → PySem.W.KeqHits A s vb va (c1.all fun p => decide (findN c2 p.1 = some p.2))
  | [], _, .nil => .nil
  | p :: c1, _, .cons (b := q) h t => by
    have ih := hits_of (A := A) (s := s) rb t
    obtain ⟨k, v⟩ := q
    obtain ⟨ek, tk, ev⟩ := h
    have ek' : k = Sum.inl p.1 := ek.symm
    have ev' : v = Value.int p.2 tk := ev
    subst ek' ev'
    have hv := KV.val rb (Sum.inl p.1)
    rw [valV_kvs] at hv
    rw [List.all_cons]
    cases e : findN c2 p.1 with
    | none =>
      rw [e] at hv
      have hn : valueAt vb (Sum.inl p.1) = none := RelO.none_of hv
      have e2 : decide ((none : Option Int) = some p.2) = false := rfl
      rw [e2, Bool.false_and]
      exact .miss hn
    | some z =>
      rw [e] at hv
      obtain ⟨y, hy, ty, ey⟩ := RelO.some_of hv
      subst ey
      have e2 : decide (some z = some p.2) = PyData.eqv (.int p.2) (.int z) := by
        rw [eqv_int]
        by_cases h : p.2 = z
        · simp [h]
        · simp [h]
          exact fun w => h w.symm
      rw [e2]
      exact .hit hy (PySem.W.keq_flat (fun h => .int _ _) (fun h => .int _ _)) ih
theorem op_eqDict (hu : X.A.units < cLine) : OpR X (compareOp .Eq) rEqK := by
  intro pins s σ H x y v u Q I rx ry h
  obtain ⟨a, b, c1, c2, rfl, rfl, ea, eb, q⟩ := h
  obtain rfl : v = Value.ref a := rx
  obtain rfl : u = Value.ref b := ry
  obtain ⟨_, ya, va, ra, da⟩ := (show ObjOk X.prog X.w H s.heap a (.dK (kvs c1)) from I.hok a _ ea)
  obtain ⟨_, yb, vb, rb, db⟩ := (show ObjOk X.prog X.w H s.heap b (.dK (kvs c2)) from I.hok b _ eb)
  refine PySem.W.keq_eq (knd := mixKind X.prog X.w) ya yb da db hu (fun _ => hits_of rb ra) (fin_bl I q ?_)
  have l1 : va.length = c1.length := by
    rw [← ra.length]
    exact List.length_map ..
  have l2 : vb.length = c2.length := by
    rw [← rb.length]
    exact List.length_map ..
  rw [l1, l2]
  unfold dEq
  congr 1
/-! ### C() of a class without an own __init__ -/
structure Cl0 (K : PySem.W.Frag) (mg : Str → Option Value) (x : Str) (C : Addr) : Prop where
  g : mg x = some (.ref C)
  makes : PySem.W.makesIn K C = true
  init : PySem.W.findIn K (.ref C) "__init__" = some (some (.builtin "object.__init__"))
  kp : PySem.W.keepIn K (.ref C) = true
def tNew0 (C : Addr) : TE := fun _ H Q => ∀ x dx, H x = none → H dx = none → dx ≠ x → Q (.ref x) (upd (upd H dx (.own x)) x (.ins C dx []))
theorem run_new0 {x : Str} {C : Addr} {pins : List (Addr × Obj)} {σ : St} {H : Hp} {s : Shared} {Q : VK} (M : Cl0 X.K X.mg x C) (I : Inv X pins σ H s) (h : tNew0 C σ H Q) : wpAny (model X.prog X.w) X.A (call (.ref C) []) (EP X pins σ Q) X.xe s := by
  have hq := h (s.heap.objs.size + 1) s.heap.objs.size (I.hok.fresh (Nat.le_succ _)) (I.hok.fresh (Nat.le_refl _)) (Nat.ne_of_lt (Nat.lt_succ_self _))
  have I2 := Inv.made (C := C) I
  have Y := PySem.W.makes_of (M := model X.prog X.w) I.kIn M.makes
  refine wpAny_call (make_map0 I.kIn M.makes M.init (fun self => PySem.W.Looks.of_pure (PySem.W.oi_bind self)) ?_)
  have g1 : ((s.heap.push PySem.W.emptyDict).push (PySem.W.instObj C s.heap.objs.size)).get? (s.heap.objs.size + 1) = some (PySem.W.instObj C s.heap.objs.size) := by
    have e := Heap.get?_push_size (s.heap.push PySem.W.emptyDict) (o := PySem.W.instObj C s.heap.objs.size) rfl
    rw [Heap.size_push] at e
    exact e
  have t1 : PySem.W.Looks (model X.prog X.w) ((s.heap.push PySem.W.emptyDict).push (PySem.W.instObj C s.heap.objs.size)) (typeOf (.ref (s.heap.objs.size + 1))) (.ref C) := (PySem.W.Looks.ld g1).andThen .now
  have t2 : PySem.W.Looks (model X.prog X.w) ((s.heap.push PySem.W.emptyDict).push (PySem.W.instObj C s.heap.objs.size)) (isInstance (.ref (s.heap.objs.size + 1)) (.type "object")) true := t1.andThen (Y.top.keeps fun b o e => Heap.get?_push_of_some (PySem.W.instObj C s.heap.objs.size) (Heap.get?_push_of_some PySem.W.emptyDict e))
  refine codeAny_call_builtin PySem.W.oi_plain PySem.W.entry_oi (@PySem.W.check_slot (model X.prog X.w) _ _ _ "object.__init__" "object" "__init__" (.ref (s.heap.objs.size + 1)) [] [] _ PySem.W.oi_kind PySem.W.oi_split t2 (PySem.W.oi_args (.ref (s.heap.objs.size + 1))) ?_)
  rw [PySem.W.oi_run]
  exact wpAny_pure (And.intro rfl ⟨V.ref (s.heap.objs.size + 1), _, I2, rfl, hq⟩)
theorem pe_new0 {x : Str} {C : Addr} {p pos : Pos} (M : Cl0 X.K X.mg x C) (hg : Gl X x) (hdb : (x == ("__debug__" : Str)) = false := by decide) : PE X (.Call (.Name x p) [] [] pos) (tNew0 C) := by
  refine ⟨fun pins s σ H Q I h => ?_⟩
  refine wpAny_Call_Name_kw (ld_glob I hg M.g ?_ hdb)
  exact PySem.W.callWith_K0 I.kIn M.kp (run_new0 M I h)
/-- one of two readings -/
theorem pe_alt {e : Expr} {t u : TE} (h : PE X e t) (h' : PE X e u) : PE X e (fun σ H Q => t σ H Q ∨ u σ H Q) := ⟨fun pins s σ H Q I q => q.elim (h.run pins s σ H Q I) (h'.run pins s σ H Q I)⟩
end
/-- a class that is only named -/
structure ClG (K : PySem.W.Frag) (mg : Str → Option Value) (x : Str) (C : Addr) : Prop where
  g : mg x = some (.ref C)
/-- what isinstance asks of an own class's instances -/
structure InsT (K : PySem.W.Frag) (C : Addr) : Prop where
  c : Cls K C
  ha : PySem.W.findIn K (.ref C) "__class__" = some (some (.builtin "object.__class__"))
  hn : PySem.W.specialIn K (.builtin "object.__class__") "__get__" = some (some (.builtin "getset_descriptor.__get__"))
  htk : PySem.W.takesIn K (.builtin "object.__class__") = some true
  hm : PySem.W.mroIn K C (.type "object") = some true
theorem InsT.ty {K : PySem.W.Frag} {C a dx : Addr} {H : Hp} {fs : List (Str × V)} (i : InsT K C) (h : H a = some (.ins C dx fs)) : TyX K H (.ref a) (.ref C) := .base (.ins h i.c i.ha i.hn i.htk i.hm)
/-! ### classes with an __init__, methods, by their promises -/
structure ClM (P : Program) (w : World) (K : PySem.W.Frag) (mg : Str → Option Value) (base : Heap) (x : Str) (C : Addr) (k : Nat) (ps : List Str) (sp : Sp) : Prop where
  g : mg x = some (.ref C)
  ex : ∃ f fd, Mk K C f ∧ FnOk P w K mg base CX0 k f fd ps sp ∧ Binds K fd ps []
structure Md (P : Program) (w : World) (K : PySem.W.Frag) (mg : Str → Option Value) (base : Heap) (C : Addr) (m : Str) (k : Nat) (ps : List Str) (sp : Sp) : Prop where
  c : Cls K C
  ex : ∃ f fd, Meth K C m f ∧ FnOk P w K mg base CX0 k f fd ps sp ∧ Binds K fd ps []
section
variable {X : Cx} {k : Nat} {x m : Str} {C : Addr} {ps : List Str} {sp : Sp} {p pos apos : Pos} {o e : Expr} {es : List Expr} {ta : TE} {t : TA}
theorem pe_mk (M : ClM X.prog X.w X.K X.mg X.base x C k ps sp) (hr : Room (k + 1) X.A) (hg : Gl X x) (ha : PA X (e :: es) t)
    (hdb : (x == ("__debug__" : Str)) = false := by decide) (he : starEach (e :: es) X.env = (false, eval e X.env) :: starEach es X.env := by rfl) (hpl : (backTo pos (starEach es X.env)).any (·.1) = false := by rfl) :
    PE X (.Call (.Name x p) (e :: es) [] pos) (tMake C sp [] E0 t) := by
  obtain ⟨f, fd, mk, F, hb⟩ := M.ex
  exact pe_make mk F hr hg M.g hb .nil pass0 ha hdb he hpl
theorem pe_md {pl : Sem Bool} (he : PE X o ta) (M : Md X.prog X.w X.K X.mg X.base C m k ps sp) (hr : Room k X.A) (ha : PA X (e :: es) t)
    (hst : starEach (e :: es) X.env = (false, eval e X.env) :: starEach es X.env := by rfl) (hpl : (backTo pos (starEach es X.env)).any (·.1) = false := by rfl)
    (ht : eval (.Call (.Attribute o m apos) (e :: es) [] pos) X.env = (do
      let ov ← eval o X.env
      standAt apos.atName
      let (f, first) ← holding [ov] (getMethod ov m pl)
      callWith pos f first (backTo pos (starEach (e :: es) X.env)) (backToKw pos (keywordEach [] X.env))) := by rfl) :
    PE X (.Call (.Attribute o m apos) (e :: es) [] pos) (tMeth C m sp [] E0 ta t) := by
  obtain ⟨f, fd, me, F, hb⟩ := M.ex
  exact pe_meth he M.c me F hr hb .nil pass0 ha hst hpl ht
theorem rd_mk {σ : St} {H : Hp} {Q : VK} {E : XK} (h : t σ H fun vs H1 => ∀ x dx, H1 x = none → H1 dx = none → dx ≠ x → sp (.ref x :: (vs ++ [])) (upd (upd H1 dx (.own x)) x (.ins C dx [])) (fun v H2 => v = .non ∧ Q (.ref x) H2) E) : tMake C sp [] E t σ H Q := h
theorem rd_md {σ : St} {H : Hp} {Q : VK} {E : XK} (h : ta σ H fun x H1 => ∃ a dx fs, x = .ref a ∧ H1 a = some (.ins C dx fs) ∧ fs.lookup m = none ∧ t σ H1 fun vs H2 => sp (x :: (vs ++ [])) H2 Q E) : tMeth C m sp [] E ta t σ H Q := h
theorem rd_new0 {σ : St} {H : Hp} {Q : VK} (h : ∀ x dx, H x = none → H dx = none → dx ≠ x → Q (.ref x) (upd (upd H dx (.own x)) x (.ins C dx []))) : tNew0 C σ H Q := h
theorem rd_fld {K : PySem.W.Frag} {f : Str} {σ : St} {H : Hp} {Q : VK} (h : ta σ H fun x H1 => ∃ a C dx fs v, x = .ref a ∧ H1 a = some (.ins C dx fs) ∧ Cls K C ∧ NoAttr K C f ∧ fs.lookup f = some v ∧ Q v H1) : tFld K ta f σ H Q := h
theorem rd_sfld {K : PySem.W.Frag} {f : Str} {tv : TE} {D : Ends} {σ : St} {H : Hp} (h : tv σ H fun y H1 => ta σ H1 fun x H2 => ∃ a C dx fs, x = .ref a ∧ H2 a = some (.ins C dx fs) ∧ Cls K C ∧ NoAttr K C f ∧ fs.length < 1000 ∧ D.nx σ (upd H2 a (.ins C dx (putF f y fs)))) : sFld K ta tv f D σ H := h
end
end Tw
set_option Elab.async false
set_option linter.all false
set_option maxRecDepth 100000
set_option maxHeartbeats 4000000
/-! Twindice: what is promised of the program's defs -/
namespace Tw
open PySem PySem.Spec PyProof.Rows L2
theorem wh_eq (x : V) : (intV x && !blV x) = whV x := by cases x <;> rfl
def spIsWhole (K : PySem.W.Frag) : Sp := fun vs H Q _ => ∃ x, vs = [x] ∧ Kn K H x ∧ Q (.bl (whV x)) H
/-- the number in a value -/
def valI : V → Int
  | .int i => i
  | _ => 0
/-- whether a list of values is a die -/
def dieB (xs : List V) : Bool := decide (2 ≤ xs.length) && (decide (xs.length ≤ 72) && (xs.all whV && ((xs.map valI).all (fun n => decide (1 ≤ n) && decide (n ≤ 100)) && decide ((xs.map valI).Pairwise (· ≤ ·)))))
theorem whole_ints : ∀ xs : List V, xs.all whV = true → xs = (xs.map valI).map V.int
  | [], _ => rfl
  | x :: r, h => by
    simp only [List.all_cons, Bool.and_eq_true] at h
    have e := whole_ints r h.2
    cases x <;> first | (have h1 := h.1; cases h1) | skip
    · simp only [List.map_cons, valI]
      rw [← e]
def dieI (ns : List Int) : Bool := decide (2 ≤ ns.length) && (decide (ns.length ≤ 72) && (ns.all (fun n => decide (1 ≤ n) && decide (n ≤ 100)) && decide (ns.Pairwise (· ≤ ·))))
theorem dieB_int (ns : List Int) : dieB (ns.map V.int) = dieI ns := by
  have e1 : (ns.map V.int).map valI = ns := by
    rw [List.map_map]
    exact List.map_id' ns
  have e2 : (ns.map V.int).all whV = true := by
    rw [List.all_map]
    exact List.all_eq_true.mpr fun _ _ => rfl
  unfold dieB dieI
  rw [e1, e2, List.length_map, Bool.true_and]
theorem pw_unique : ∀ {l m : List Int}, l.Perm m → l.Pairwise (· ≤ ·) → m.Pairwise (· ≤ ·) → l = m := fun {l m} h a b =>
  h.eq_of_pairwise (fun x y _ _ h1 h2 => Int.le_antisymm h1 h2) a b
def NoList (K : PySem.W.Frag) (H : Hp) (x : V) : Prop := ∃ t, TyX K H x t ∧ PySem.W.kitOne K t (.type "list") = some false
def spCheckDie (K : PySem.W.Frag) (C : Addr) : Sp := fun vs H Q E => ∃ x, vs = [x] ∧ ((NoList K H x ∧ ∀ H', Same H H' → E (.ref C) none H') ∨
  ∃ a xs, x = .ref a ∧ SqL K H a xs ∧ xs.length ≤ sizeLine ∧ (∀ v ∈ xs, Kn K H v) ∧ (dieB xs = true → ∀ H', Same H H' → Q .non H') ∧ (dieB xs = false → ∀ H', Same H H' → E (.ref C) none H'))
def spCounts (K : PySem.W.Frag) : Sp := fun vs H Q _ => ∃ (a b : Addr) (one other : List Int), vs = [.ref a, .ref b] ∧ SqL K H a (one.map V.int) ∧ SqL K H b (other.map V.int) ∧ one.length ≤ 100 ∧ other.length ≤ 100 ∧
  ∀ H' d, Same H H' → H d = none → H' d = some (.dK (kvs (tally (allS one other)))) → Q (.ref d) H'
def IsDie (K : PySem.W.Frag) (H : Hp) (x : V) (a : Addr) (ns : List Int) : Prop := x = .ref a ∧ SqL K H a (ns.map V.int) ∧ dieI ns = true
def NoDie (K : PySem.W.Frag) (H : Hp) (x : V) : Prop := NoList K H x ∨ ∃ a xs, x = .ref a ∧ SqL K H a xs ∧ xs.length ≤ sizeLine ∧ (∀ v ∈ xs, Kn K H v) ∧ dieB xs = false
theorem same_die {K : PySem.W.Frag} {H H' : Hp} {x : V} {a : Addr} {ns : List Int} (s : Same H H') (h : IsDie K H x a ns) : IsDie K H' x a ns := ⟨h.1, same_l s h.2.1, h.2.2⟩
theorem same_nodie {K : PySem.W.Frag} {H H' : Hp} {x : V} (s : Same H H') (h : NoDie K H x) : NoDie K H' x := by
  rcases h with ⟨t, a, b⟩ | ⟨a, xs, e, hS, hz, hk, hb⟩
  · exact .inl ⟨t, same_ty s a, b⟩
  · exact .inr ⟨a, xs, e, same_l s hS, hz, fun v hv => same_kn s (hk v hv), hb⟩
def spDie (K : PySem.W.Frag) (C : Addr) : Sp := fun vs H Q E => ∃ x, vs = [x] ∧ ((NoDie K H x ∧ ∀ H', Same H H' → E (.ref C) none H') ∨ ∃ a ns, IsDie K H x a ns ∧ ∀ H', Same H H' → Q .non H')
theorem dieI_len {ns : List Int} (h : dieI ns = true) : 2 ≤ ns.length ∧ ns.length ≤ 72 := by
  unfold dieI at h
  simp only [Bool.and_eq_true, decide_eq_true_eq] at h
  exact ⟨h.1, h.2.1⟩
theorem die_of_sp {K : PySem.W.Frag} {C : Addr} {vs : List V} {H : Hp} {Q : VK} {E : XK} (h : spDie K C vs H Q E) : spCheckDie K C vs H Q E := by
  obtain ⟨x, rfl, h⟩ := h
  refine ⟨x, rfl, ?_⟩
  rcases h with ⟨h | ⟨a, xs, e, hS, hz, hk, hb⟩, qe⟩ | ⟨a, ns, ⟨e, hS, hb⟩, q⟩
  · exact .inl ⟨h, qe⟩
  · refine .inr ⟨a, xs, e, hS, hz, hk, fun z => ?_, fun _ => qe⟩
    rw [hb] at z
    cases z
  · refine .inr ⟨a, _, e, hS, ?_, fun v hv => ?_, fun _ => q, fun z => ?_⟩
    · have := dieI_len hb
      rw [List.length_map, sizeLine_eq]
      omega
    · obtain ⟨i, _, rfl⟩ := List.mem_map.mp hv
      exact kn_int
    · rw [dieB_int, hb] at z
      cases z
def PairT (H : Hp) (z : V × (Int × Int)) : Prop := ∃ t, z.1 = .ref t ∧ H t = some (.tup [.int z.2.1, .int z.2.2])
theorem pairT_dp {K : PySem.W.Frag} {H : Hp} {z : V × (Int × Int)} (h : PairT H z) : Dp K H z.1 (dP z.2) := by
  obtain ⟨t, e, h⟩ := h
  rw [e]
  exact .tup (.of h) (.cons (.int _) (.cons (.int _) .nil))
theorem dps_zs {K : PySem.W.Frag} {H : Hp} : ∀ {zs : List (V × (Int × Int))}, (∀ z ∈ zs, PairT H z) → DpAll K H (zs.map (·.1)) ((zs.map (·.2)).map dP)
  | [], _ => .nil
  | z :: r, h => .cons (pairT_dp (h z List.mem_cons_self)) (dps_zs fun y hy => h y (List.mem_cons_of_mem _ hy))
theorem dp_zs {K : PySem.W.Frag} {H : Hp} {p : Addr} {zs : List (V × (Int × Int))} (h : SqL K H p (zs.map (·.1))) (hz : ∀ z ∈ zs, PairT H z) : Dp K H (.ref p) (dPs (zs.map (·.2))) := .lst h (dps_zs hz)
theorem same_pairT {H H' : Hp} {z : V × (Int × Int)} (s : Same H H') (h : PairT H z) : PairT H' z := let ⟨t, e, h⟩ := h; ⟨t, e, s _ _ h⟩
theorem items_zs {H : Hp} : ∀ {ts : List Addr} {c : List (Int × Int)}, Paired (fun (t : Addr) (q : L2.Key × V) => H t = some (.tup [kV q.1, q.2])) ts (kvs c) →
    ∃ zs : List (V × (Int × Int)), zs.map (·.1) = ts.map V.ref ∧ zs.map (·.2) = c ∧ ∀ z ∈ zs, PairT H z
  | [], [], .nil => ⟨[], rfl, rfl, fun _ h => nomatch h⟩
  | t :: ts, q :: c, .cons h r => by
    obtain ⟨zs, e1, e2, h2⟩ := items_zs r
    refine ⟨(.ref t, q) :: zs, by rw [List.map_cons, e1]; rfl, by rw [List.map_cons, e2], fun z hz => ?_⟩
    rcases List.mem_cons.mp hz with rfl | hz
    · exact ⟨t, rfl, h⟩
    · exact h2 z hz
def spSums (K : PySem.W.Frag) (C : Addr) : Sp := fun vs H Q E => ∃ x y, vs = [x, y] ∧ ((NoDie K H x ∧ ∀ H', Same H H' → E (.ref C) none H') ∨ ∃ a one, IsDie K H x a one ∧
  ((NoDie K H y ∧ ∀ H', Same H H' → E (.ref C) none H') ∨ ∃ b other, IsDie K H y b other ∧
    ∀ (H' : Hp) (p : Addr) (zs : List (V × (Int × Int))), Same H H' → H p = none → H' p = some (.lst (zs.map (·.1))) → zs.map (·.2) = sumsM one other → (∀ z ∈ zs, PairT H' z) → Q (.ref p) H'))
/-! ### the laws' own defs -/
theorem bd_lit {n : Nat} {x : Int} (h : x.natAbs < 2 ^ 64) (l : 64 ≤ n) : Bd n x := Bd.mono (n := 64) h l
def spNum : Sp := fun vs H Q _ => ∃ c a w : Int, vs = [.int c, .int a, .int w] ∧ Bd 1048576 c ∧ (0 ≤ a ∧ a ≤ 1000) ∧ Bd 1048700 w ∧ ∀ n : Int, Q (.int n) H
theorem sz63 : (63 : Nat) ≤ sizeLine := by
  rw [sizeLine_eq]
  decide
theorem cut_63 (xs : List V) : cutV xs none (some 63) = xs.take 63 := cut_to xs 63
def spLDie (K : PySem.W.Frag) : Sp := fun vs H Q _ => ∃ (a : Addr) (ns : List Int) (by' most : Int), vs = [.ref a, .int by', .int most] ∧ SqL K H a (ns.map V.int) ∧ ns.length ≤ 63 ∧ (∀ z ∈ ns, Bd 1048576 z) ∧ 0 ≤ by' ∧ by' ≤ 100 ∧ 3 ≤ most ∧ most ≤ 20 ∧
  ∀ (H' : Hp) (p : Addr) (D : List Int), Same H H' → H p = none → H' p = some (.lst (D.map V.int)) → dieI D = true → (D.length : Int) ≤ most → Q (.ref p) H'
theorem atI_mod {α : Type} (xs : List α) (i : Int) (h0 : 0 ≤ i) (h : i < xs.length) : ∃ x, atI xs i = some x ∧ x ∈ xs := by
  obtain ⟨k, rfl⟩ : ∃ k : Nat, i = k := ⟨i.toNat, by omega⟩
  have hk : k < xs.length := by omega
  exact ⟨xs[k], atI_nat (List.getElem?_eq_getElem hk), List.getElem_mem hk⟩
/-! ### mirrored, answers -/
def mirM (ns : List Int) : List Int := ns.reverse.map fun n => ns.headD 0 + ns.getLastD 0 - n
def spMirrored (K : PySem.W.Frag) (C : Addr) : Sp := fun vs H Q E => ∃ x, vs = [x] ∧ ((NoDie K H x ∧ ∀ H', Same H H' → E (.ref C) none H') ∨ ∃ a ns, IsDie K H x a ns ∧
  ∀ (H' : Hp) (p : Addr), Same H H' → H p = none → H' p = some (.lst ((mirM ns).map V.int)) → Q (.ref p) H')
def hoM (f s t : Int) : Int := if min4 (t - 1) (f + s + 1 - t) f s > 0 then min4 (t - 1) (f + s + 1 - t) f s else 0
def spHow : Sp := fun vs H Q _ => ∃ f s t : Int, vs = [.int f, .int s, .int t] ∧ Q (.int (hoM f s t)) H
def leI (a b : Int) : Bool := decide (a ≤ b)
def rgI (a b : Int) : List Int := (List.range (b - a).toNat).map fun i => a + ((i : Nat) : Int)
theorem rgV_rgI (a b : Int) : rgV a b = (rgI a b).map V.int := by
  unfold rgV rgI
  rw [List.map_map]
  rfl
def foL (f s : Int) (one other : List Int) : List Int := isort leI ((tally (allS one other)).map (·.1) ++ rgI 2 (f + s + 1))
def foM (f s : Int) (one other : List Int) : Int := ((foL f s one other).find? fun t => decide (getN (tally (allS one other)) t ≠ hoM f s t)).getD 0
def SidesOk (f : Int) : Prop := 2 ≤ f ∧ f ≤ 12
def spFirstOff (K : PySem.W.Frag) : Sp := fun vs H Q _ => ∃ (f s : Int) (a b : Addr) (one other : List Int), vs = [.int f, .int s, .ref a, .ref b] ∧ SidesOk f ∧ SidesOk s ∧ SqL K H a (one.map V.int) ∧ SqL K H b (other.map V.int) ∧ one.length ≤ 100 ∧ other.length ≤ 100 ∧
  ∀ H', Same H H' → Q (.int (foM f s one other)) H'
def spTShows (K : PySem.W.Frag) : Sp := fun vs H Q _ => ∃ (x : V) (f s : Int) (a b : Addr) (one other : List Int), vs = [x, .int f, .int s, .ref a, .ref b] ∧ SidesOk f ∧ SidesOk s ∧ SqL K H a (one.map V.int) ∧ SqL K H b (other.map V.int) ∧ one.length ≤ 100 ∧ other.length ≤ 100 ∧
  ∀ H', Same H H' → Q (.bl (decide (foM f s one other = 0))) H'
def spOInit (C : Addr) : Sp := fun vs H Q _ => ∃ (x dx : Addr) (v : V), vs = [.ref x, v] ∧ H x = some (.ins C dx []) ∧ Q .non (upd H x (.ins C dx [("total", v)]))
def ofM (f s t : Int) (one other : List Int) : Bool := !decide (getN (tally (allS one other)) t = hoM f s t)
def spOShows (K : PySem.W.Frag) (C : Addr) : Sp := fun vs H Q _ => ∃ (x dx : Addr) (t f s : Int) (a b : Addr) (one other : List Int), vs = [.ref x, .int f, .int s, .ref a, .ref b] ∧ H x = some (.ins C dx [("total", .int t)]) ∧ SqL K H a (one.map V.int) ∧ SqL K H b (other.map V.int) ∧ one.length ≤ 100 ∧ other.length ≤ 100 ∧
  ∀ H', Same H H' → Q (.bl (ofM f s t one other)) H'
theorem look_one (n : Str) (v : V) : List.lookup n [(n, v)] = some v := by simp [List.lookup]
theorem leI_tot : TotO leI := srt_int.o
theorem pw_isort {l m : List Int} (h : l.Perm m) (hs : l.Pairwise (· ≤ ·)) : l = isort leI m := leI_tot.uniq h (hs.imp fun h => decide_eq_true h)
end Tw
set_option Elab.async false
set_option linter.all false
set_option maxRecDepth 100000
set_option maxHeartbeats 4000000
/-! Twindice: plain dice, how often, dicts of counts (plain) -/
namespace Tw
open PySem PySem.Spec PyProof.Rows L2
theorem mem_rgI {a b x : Int} : x ∈ rgI a b ↔ a ≤ x ∧ x < b := by
  unfold rgI
  rw [List.mem_map]
  constructor
  · rintro ⟨i, hi, rfl⟩
    rw [List.mem_range] at hi
    omega
  · intro h
    exact ⟨(x - a).toNat, List.mem_range.mpr (by omega), by omega⟩
theorem len_rgI (a b : Int) : (rgI a b).length = (b - a).toNat := by
  unfold rgI
  rw [List.length_map, List.length_range]
theorem mem_allS {l m : List Int} {t : Int} : t ∈ allS l m ↔ ∃ x ∈ l, ∃ y ∈ m, x + y = t := by
  unfold allS
  rw [List.mem_flatMap]
  constructor
  · rintro ⟨x, hx, h⟩
    obtain ⟨y, hy, e⟩ := List.mem_map.mp h
    exact ⟨x, hx, y, hy, e⟩
  · rintro ⟨x, hx, y, hy, e⟩
    exact ⟨x, hx, List.mem_map.mpr ⟨y, hy, e⟩⟩
/-- the sums of two plain dice -/
def plS (f s : Int) : List Int := allS (rgI 1 (f + 1)) (rgI 1 (s + 1))
theorem hoM_out {f s t : Int} (h : t < 2 ∨ f + s < t) : hoM f s t = 0 := by
  unfold hoM min4
  split
  · omega
  · rfl
theorem ho_tab : ∀ F < 13, ∀ S < 13, ∀ T < 25, 2 ≤ F → 2 ≤ S → (((plS (F : Nat) (S : Nat)).count ((T : Nat) : Int) : Nat) : Int) = hoM (F : Nat) (S : Nat) (T : Nat) := by decide +kernel
theorem hoM_count {f s : Int} (hf : SidesOk f) (hs : SidesOk s) (t : Int) : ((plS f s).count t : Int) = hoM f s t := by
  obtain ⟨f1, f2⟩ := hf
  obtain ⟨s1, s2⟩ := hs
  by_cases h : t < 2 ∨ f + s < t
  · rw [hoM_out h]
    have hn : ¬ t ∈ plS f s := fun hm => by
      obtain ⟨x, hx, y, hy, e⟩ := mem_allS.mp hm
      rw [mem_rgI] at hx hy
      omega
    rw [List.count_eq_zero_of_not_mem hn]
    rfl
  · have e := ho_tab f.toNat (by omega) s.toNat (by omega) t.toNat (by omega) (by omega) (by omega)
    rw [show ((f.toNat : Nat) : Int) = f by omega, show ((s.toNat : Nat) : Int) = s by omega, show ((t.toNat : Nat) : Int) = t by omega] at e
    exact e
theorem getN_plain {f s : Int} (hf : SidesOk f) (hs : SidesOk s) (t : Int) : getN (tally (plS f s)) t = hoM f s t := by
  rw [getN_tally]
  exact hoM_count hf hs t
theorem sub_all {α : Type} [DecidableEq α] : ∀ {l m : List α}, l.Nodup → l ⊆ m → m.length ≤ l.length → m ⊆ l
  | [], m, _, _, h => by
    have e : m = [] := List.eq_nil_of_length_eq_zero (Nat.le_zero.mp h)
    rw [e]
    exact fun _ hx => hx
  | x :: l, m, hn, hs, h => by
    rw [List.nodup_cons] at hn
    have hx : x ∈ m := hs List.mem_cons_self
    have hl : (m.erase x).length = m.length - 1 := List.length_erase_of_mem hx
    have hs' : l ⊆ m.erase x := fun y hy => (List.mem_erase_of_ne (fun e => hn.1 (by rw [← e]; exact hy))).mpr (hs (List.mem_cons_of_mem _ hy))
    rw [List.length_cons] at h
    have ih := sub_all hn.2 hs' (by omega)
    intro y hy
    by_cases e : y = x
    · rw [e]
      exact List.mem_cons_self
    · exact List.mem_cons_of_mem _ (ih ((List.mem_erase_of_ne e).mpr hy))
theorem dEq_iff (l m : List Int) : dEq (tally l) (tally m) = true ↔ ∀ k, l.count k = m.count k := by
  unfold dEq
  simp only [Bool.and_eq_true, decide_eq_true_eq, List.all_eq_true]
  constructor
  · rintro ⟨h1, h2⟩ k
    have sub : tally l ⊆ tally m := fun p hp => (mem_find (tally_nodup m) p).mpr (h2 p hp)
    have sub2 := sub_all (nodup_of_keys (tally_nodup l)) sub (by omega)
    have e1 := findN_tally l k
    have e2 := findN_tally m k
    by_cases hl : k ∈ l
    · rw [if_pos hl] at e1
      have hp := sub ((mem_find (tally_nodup l) (k, (l.count k : Int))).mpr e1)
      have e3 := (mem_find (tally_nodup m) _).mp hp
      by_cases hm : k ∈ m
      · rw [if_pos hm] at e2
        have e4 := Option.some.inj (e3.symm.trans e2)
        exact Int.ofNat.inj e4
      · rw [if_neg hm] at e2
        rw [e2] at e3
        cases e3
    · by_cases hm : k ∈ m
      · rw [if_pos hm] at e2
        have hp := sub2 ((mem_find (tally_nodup m) (k, (m.count k : Int))).mpr e2)
        have e3 := (mem_find (tally_nodup l) _).mp hp
        rw [if_neg hl] at e1
        rw [e1] at e3
        cases e3
      · rw [List.count_eq_zero_of_not_mem hl, List.count_eq_zero_of_not_mem hm]
  · intro h
    have hp : l.Perm m := List.perm_iff_count.mpr h
    have ht := tally_perm hp
    exact ⟨ht.length_eq, fun p hp => (mem_find (tally_nodup m) p).mp (ht.mem_iff.mp hp)⟩
def Pos (l : List Int) : Prop := ∀ x ∈ l, 1 ≤ x
theorem foL_mem {f s : Int} {one other : List Int} {t : Int} : t ∈ foL f s one other ↔ t ∈ allS one other ∨ (2 ≤ t ∧ t < f + s + 1) := by
  unfold foL
  rw [(isort_perm leI _).mem_iff, List.mem_append, mem_rgI]
  have e : t ∈ (tally (allS one other)).map (·.1) ↔ t ∈ allS one other := by
    rw [List.mem_map]
    constructor
    · rintro ⟨p, hp, rfl⟩
      have e := (mem_find (tally_nodup _) p).mp hp
      rw [findN_tally] at e
      by_cases h : p.1 ∈ allS one other
      · exact h
      · rw [if_neg h] at e
        cases e
    · intro h
      exact ⟨(t, ((allS one other).count t : Int)), (mem_find (tally_nodup _) _).mpr (by rw [findN_tally, if_pos h]), rfl⟩
  rw [e]
theorem foM_zero {f s : Int} (hf : SidesOk f) (hs : SidesOk s) {one other : List Int} (h1 : Pos one) (h2 : Pos other) : foM f s one other = 0 ↔ ∀ t, (allS one other).count t = (plS f s).count t := by
  have big : ∀ t ∈ foL f s one other, 2 ≤ t := fun t ht => by
    rcases foL_mem.mp ht with h | h
    · obtain ⟨x, hx, y, hy, e⟩ := mem_allS.mp h
      have := h1 x hx
      have := h2 y hy
      omega
    · exact h.1
  unfold foM
  constructor
  · intro h t
    cases e : (foL f s one other).find? fun t => decide (getN (tally (allS one other)) t ≠ hoM f s t) with
    | some z =>
      rw [e] at h
      have := big z (List.mem_of_find?_eq_some e)
      have h0 : z = 0 := h
      omega
    | none =>
      rw [List.find?_eq_none] at e
      have q : ((allS one other).count t : Int) = hoM f s t := by
        by_cases ht : t ∈ foL f s one other
        · have := e t ht
          rw [← getN_tally]
          simpa using this
        · have hn : ¬ t ∈ allS one other := fun z => ht (foL_mem.mpr (.inl z))
          have ho : ¬ (2 ≤ t ∧ t < f + s + 1) := fun z => ht (foL_mem.mpr (.inr z))
          rw [List.count_eq_zero_of_not_mem hn, hoM_out (by omega)]
          rfl
      rw [← hoM_count hf hs] at q
      exact Int.ofNat.inj q
  · intro h
    have e : (foL f s one other).find? (fun t => decide (getN (tally (allS one other)) t ≠ hoM f s t)) = none := by
      rw [List.find?_eq_none]
      intro t _
      rw [getN_tally, h t, hoM_count hf hs]
      simp
    rw [e]
    rfl
theorem twin_eq {f s : Int} (hf : SidesOk f) (hs : SidesOk s) {one other : List Int} (h1 : Pos one) (h2 : Pos other) : dEq (tally (allS one other)) (tally (plS f s)) = decide (foM f s one other = 0) := by
  have a := dEq_iff (allS one other) (plS f s)
  have b := foM_zero hf hs h1 h2
  by_cases c : foM f s one other = 0
  · rw [decide_eq_true c]
    exact a.mpr (b.mp c)
  · rw [decide_eq_false c]
    cases e : dEq (tally (allS one other)) (tally (plS f s)) with
    | false => rfl
    | true => exact absurd (b.mpr (a.mp e)) c
theorem off_eq {f s : Int} (hf : SidesOk f) (hs : SidesOk s) (t : Int) (one other : List Int) : ofM f s t one other = !decide (getN (tally (allS one other)) t = getN (tally (plS f s)) t) := by
  rw [getN_plain hf hs]
  rfl
theorem pos_die {ns : List Int} (h : dieI ns = true) : Pos ns := fun x hx => by
  unfold dieI at h
  simp only [Bool.and_eq_true, decide_eq_true_eq, List.all_eq_true] at h
  exact (h.2.2.1 x hx).1
theorem pos_plain (f : Int) : Pos (rgI 1 (f + 1)) := fun x hx => (mem_rgI.mp hx).1
/-! ### mirrors -/
theorem getLastD_concat' (l : List Int) (x d : Int) : (l ++ [x]).getLastD d = x := by
  rw [List.getLastD_eq_getLast?, List.getLast?_concat]
  rfl
theorem two_ends {ns : List Int} (h : ns ≠ []) : (∃ r, ns = ns.headD 0 :: r) ∧ ∃ i, ns = i ++ [ns.getLastD 0] := by
  constructor
  · cases ns with
    | nil => exact absurd rfl h
    | cons x r => exact ⟨r, rfl⟩
  · refine ⟨ns.dropLast, ?_⟩
    conv => lhs; rw [← List.dropLast_concat_getLast h]
    rw [List.getLastD_eq_getLast?, List.getLast?_eq_getLast h]
    rfl
theorem ends_le {ns : List Int} (h : ns ≠ []) (hs : ns.Pairwise (· ≤ ·)) : ∀ x ∈ ns, ns.headD 0 ≤ x ∧ x ≤ ns.getLastD 0 := by
  obtain ⟨⟨r, e1⟩, i, e2⟩ := two_ends h
  intro x hx
  constructor
  · rw [e1] at hx hs
    rcases List.mem_cons.mp hx with e | hx
    · exact Int.le_of_eq e.symm
    · exact (List.pairwise_cons.mp hs).1 x hx
  · rw [e2] at hx hs
    rcases List.mem_append.mp hx with hx | hx
    · exact (List.pairwise_append.mp hs).2.2 x hx _ (List.mem_singleton.mpr rfl)
    · exact Int.le_of_eq (List.mem_singleton.mp hx)
theorem mir_ends {ns : List Int} (h : ns ≠ []) : (mirM ns).headD 0 = ns.headD 0 ∧ (mirM ns).getLastD 0 = ns.getLastD 0 := by
  obtain ⟨⟨r, e1⟩, i, e2⟩ := two_ends h
  generalize ha : ns.headD 0 = a at *
  generalize hb : ns.getLastD 0 = b at *
  unfold mirM
  rw [ha, hb]
  constructor
  · rw [e2, List.reverse_append]
    show a + b - b = a
    omega
  · rw [e1, List.reverse_cons, List.map_append]
    rw [show (List.map (fun n => a + b - n) [a]) = [a + b - a] from rfl, getLastD_concat']
    omega
theorem mir_mir {ns : List Int} (h : ns ≠ []) : mirM (mirM ns) = ns := by
  obtain ⟨e1, e2⟩ := mir_ends h
  unfold mirM at e1 e2 ⊢
  rw [e1, e2, ← List.map_reverse, List.reverse_reverse, List.map_map]
  conv => rhs; rw [← List.map_id ns]
  refine List.map_congr_left fun x _ => ?_
  simp only [Function.comp]
  show _ = x
  omega
theorem mir_sorted {ns : List Int} (hs : ns.Pairwise (· ≤ ·)) : (mirM ns).Pairwise (· ≤ ·) := by
  unfold mirM
  rw [List.pairwise_map, List.pairwise_reverse]
  exact hs.imp fun h => by omega
theorem die_ne {ns : List Int} (h : dieI ns = true) : ns ≠ [] := fun e => by
  subst e
  have := (dieI_len h).1
  simp at this
theorem die_sorted {ns : List Int} (h : dieI ns = true) : ns.Pairwise (· ≤ ·) := by
  unfold dieI at h
  simp only [Bool.and_eq_true, decide_eq_true_eq] at h
  exact h.2.2.2
theorem mir_die {ns : List Int} (h : dieI ns = true) : dieI (mirM ns) = true := by
  have hne := die_ne h
  have hs := die_sorted h
  have hl := dieI_len h
  have le := ends_le hne hs
  have h0 := h
  unfold dieI at h0 ⊢
  simp only [Bool.and_eq_true, decide_eq_true_eq, List.all_eq_true] at h0 ⊢
  have len : (mirM ns).length = ns.length := by
    unfold mirM
    rw [List.length_map, List.length_reverse]
  refine ⟨by omega, by omega, fun x hx => ?_, mir_sorted hs⟩
  unfold mirM at hx
  obtain ⟨y, hy, e⟩ := List.mem_map.mp hx
  have ly := le y (List.mem_reverse.mp hy)
  obtain ⟨⟨r, e1⟩, i, e2⟩ := two_ends hne
  have m1 : ns.headD 0 ∈ ns := by
    generalize ns.headD 0 = a at e1
    rw [e1]
    exact List.mem_cons_self
  have m2 : ns.getLastD 0 ∈ ns := by
    generalize ns.getLastD 0 = b at e2
    rw [e2]
    exact List.mem_append_right _ (List.mem_singleton.mpr rfl)
  have b1 := h0.2.2.1 (ns.headD 0) m1
  have b2 := h0.2.2.1 (ns.getLastD 0) m2
  omega
theorem mir_due {ns L : List Int} (h : dieI ns = true) (p : L.Perm (ns.map fun n => ns.headD 0 + ns.getLastD 0 - n)) (hs : L.Pairwise (· ≤ ·)) : L = mirM ns := by
  have e1 := pw_isort p hs
  have e2 : mirM ns = isort leI (ns.map fun n => ns.headD 0 + ns.getLastD 0 - n) := pw_isort (by unfold mirM; exact (List.reverse_perm ns).map _) (mir_sorted (die_sorted h))
  rw [e1, e2]
theorem at_head {ns : List Int} (h : ns ≠ []) : atI (ns.map V.int) 0 = some (.int (ns.headD 0)) := by
  refine atI_nat (j := 0) ?_
  cases ns with
  | nil => exact absurd rfl h
  | cons x r => rfl
theorem at_last {ns : List Int} (h : ns ≠ []) : atI (ns.map V.int) (-1) = some (.int (ns.getLastD 0)) := by
  obtain ⟨_, i, e⟩ := two_ends h
  conv => lhs; rw [e, List.map_append]
  exact atI_last _ _
/-! ### promises of the laws' own defs -/
def spTwo (K : PySem.W.Frag) : Sp := fun vs H Q _ => ∃ (a : Addr) (ns : List Int) (by' most : Int), vs = [.ref a, .int by', .int most] ∧ SqL K H a (ns.map V.int) ∧ ns.length ≤ 63 ∧ (∀ z ∈ ns, Bd 1048576 z) ∧ 0 ≤ by' ∧ by' ≤ 100 ∧ 3 ≤ most ∧ most ≤ 12 ∧
  ∀ (H' : Hp) (t : Addr) (f s : Int), Same H H' → H' t = some (.tup [.int f, .int s]) → 2 ≤ f → f ≤ most → 2 ≤ s → s ≤ most → Q (.ref t) H'
def spPlain : Sp := fun vs H Q _ => ∃ n : Int, vs = [.int n] ∧ 0 ≤ n ∧ n ≤ 100 ∧ ∀ (H' : Hp) (p : Addr), Same H H' → H p = none → H' p = some (.lst ((rgI 1 (n + 1)).map V.int)) → Q (.ref p) H'
def spLTwins (K : PySem.W.Frag) : Sp := fun vs H Q _ => ∃ (f s : Int) (a b : Addr) (one other : List Int), vs = [.int f, .int s, .ref a, .ref b] ∧ SidesOk f ∧ SidesOk s ∧ SqL K H a (one.map V.int) ∧ SqL K H b (other.map V.int) ∧ one.length ≤ 100 ∧ other.length ≤ 100 ∧
  ∀ H', Same H H' → Q (.bl (dEq (tally (allS one other)) (tally (plS f s)))) H'
def spSays : Sp := fun vs H Q _ => ∃ b1 b2 : Bool, vs = [.bl b1, .bl b2] ∧ Q (.bl (decide (b1 = b2))) H
def spOffRight (K : PySem.W.Frag) : Sp := fun vs H Q _ => ∃ (f s : Int) (a b : Addr) (one other : List Int) (t : Int), vs = [.int f, .int s, .ref a, .ref b, .int t] ∧ SidesOk f ∧ SidesOk s ∧ SqL K H a (one.map V.int) ∧ SqL K H b (other.map V.int) ∧ one.length ≤ 100 ∧ other.length ≤ 100 ∧
  ∀ H', Same H H' → Q (.bl true) H'
theorem look_shows (v : V) : List.lookup ("shows" : Str) [(("total" : Str), v)] = none := by
  have e : (("shows" : Str) == ("total" : Str)) = false := by decide +kernel
  simp [List.lookup, e]
theorem kit_bb {K : PySem.W.Frag} : PySem.W.kitOne K (.type "bool") (.type "bool") = some true := kit_ty (by decide +kernel)
theorem sameI {H : Hp} {x dx C : Addr} {fs : List (Str × V)} (nx : H x = none) (nd : H dx = none) : Same H (upd (upd H dx (.own x)) x (.ins C dx fs)) := same_mut (same_new nd) nx
end Tw
set_option Elab.async false
set_option linter.all false
set_option maxRecDepth 100000
set_option maxHeartbeats 4000000
namespace Tw
open PySem PySem.Spec PyProof.Rows L2
/-! ### orders of data, put together -/
def leL : List Int → List Int → Bool
  | [], _ => true
  | _ :: _, [] => false
  | x :: xs, y :: ys => if x = y then leL xs ys else decide (x < y)
theorem leL_lt : ∀ xs ys : List Int, (!ltL ys xs) = leL xs ys
  | [], [] => rfl
  | [], _ :: _ => rfl
  | _ :: _, [] => rfl
  | x :: xs, y :: ys => by
    unfold ltL leL
    by_cases z : x = y
    · rw [if_pos z, if_pos z.symm]
      exact leL_lt xs ys
    · rw [if_neg z, if_neg (fun e => z e.symm)]
      by_cases z2 : y < x
      · rw [decide_eq_true z2, decide_eq_false (by omega)]
        rfl
      · rw [decide_eq_false z2, decide_eq_true (by omega)]
        rfl
theorem leL_tr : ∀ a b c : List Int, leL a b = true → leL b c = true → leL a c = true
  | [], _, _, _, _ => rfl
  | _ :: _, [], _, h, _ => by cases h
  | _ :: _, _ :: _, [], _, h => by cases h
  | x :: xs, y :: ys, z :: zs, h1, h2 => by
    unfold leL at *
    split at h1 <;> split at h2 <;> split
    · exact leL_tr xs ys zs h1 h2
    all_goals simp only [decide_eq_true_eq] at *
    all_goals first | omega | skip
theorem leL_tot : ∀ a b : List Int, leL a b = true ∨ leL b a = true
  | [], _ => .inl rfl
  | _ :: _, [] => .inr rfl
  | x :: xs, y :: ys => by
    unfold leL
    by_cases z : x = y
    · rw [if_pos z, if_pos z.symm]
      exact leL_tot xs ys
    · rw [if_neg z, if_neg (fun e => z e.symm)]
      simp only [decide_eq_true_eq]
      omega
theorem leL_anti : ∀ a b : List Int, leL a b = true → leL b a = true → a = b
  | [], [], _, _ => rfl
  | [], _ :: _, _, h => by cases h
  | _ :: _, [], h, _ => by cases h
  | x :: xs, y :: ys, h1, h2 => by
    unfold leL at h1 h2
    by_cases z : x = y
    · rw [if_pos z] at h1
      rw [if_pos z.symm] at h2
      rw [z, leL_anti xs ys h1 h2]
    · rw [if_neg z] at h1
      rw [if_neg (fun e => z e.symm)] at h2
      simp only [decide_eq_true_eq] at h1 h2
      omega
theorem totL : TotO leL := ⟨leL_tr, leL_tot, leL_anti⟩
def leI' (a b : Int) : Bool := decide (a ≤ b)
theorem totI : TotO leI' where
  tr a b c h1 h2 := by
    unfold leI' at *
    simp only [decide_eq_true_eq] at *
    omega
  tot a b := by
    unfold leI'
    simp only [decide_eq_true_eq]
    omega
  anti a b h1 h2 := by
    unfold leI' at *
    simp only [decide_eq_true_eq] at *
    omega
section
variable {α β : Type}
/-- first by the first, then by the second -/
def lexO [DecidableEq α] (l1 : α → α → Bool) (l2 : β → β → Bool) (a b : α × β) : Bool := if a.1 = b.1 then l2 a.2 b.2 else l1 a.1 b.1
theorem totLex [DecidableEq α] {l1 : α → α → Bool} {l2 : β → β → Bool} (o1 : TotO l1) (o2 : TotO l2) : TotO (lexO l1 l2) where
  tr a b c h1 h2 := by
    unfold lexO at *
    by_cases e1 : a.1 = b.1
    · by_cases e2 : b.1 = c.1
      · rw [if_pos e1] at h1
        rw [if_pos e2] at h2
        rw [if_pos (e1.trans e2)]
        exact o2.tr _ _ _ h1 h2
      · rw [if_neg e2] at h2
        rw [if_neg (fun e => e2 (e1.symm.trans e)), e1]
        exact h2
    · by_cases e2 : b.1 = c.1
      · rw [if_neg e1] at h1
        rw [if_neg (fun e => e1 (e.trans e2.symm)), ← e2]
        exact h1
      · rw [if_neg e1] at h1
        rw [if_neg e2] at h2
        rw [if_neg (fun e => e1 (o1.anti _ _ h1 (by rw [e]; exact h2)))]
        exact o1.tr _ _ _ h1 h2
  tot a b := by
    unfold lexO
    by_cases e1 : a.1 = b.1
    · rw [if_pos e1, if_pos e1.symm]
      exact o2.tot _ _
    · rw [if_neg e1, if_neg (fun e => e1 e.symm)]
      exact o1.tot _ _
  anti a b h1 h2 := by
    unfold lexO at *
    by_cases e1 : a.1 = b.1
    · rw [if_pos e1] at h1
      rw [if_pos e1.symm] at h2
      exact Prod.ext e1 (o2.anti _ _ h1 h2)
    · rw [if_neg e1] at h1
      rw [if_neg (fun e => e1 e.symm)] at h2
      exact absurd (o1.anti _ _ h1 h2) e1
/-- data of one kind with their order -/
structure OrdE [DecidableEq α] (n : Nat) (enc : α → PyData) (le : α → α → Bool) : Prop where
  al : ∀ x y, PySem.W.alike (enc x) (enc y) = true
  ord : ∀ x y, PySem.W.dataLt (enc y) (enc x) = !le x y
  eq : ∀ x y, PyData.eqv (enc x) (enc y) = decide (x = y)
  sh : ∀ x, Sh n (enc x)
  o : TotO le
structure OrdL [DecidableEq α] (n : Nat) (enc : α → List PyData) (le : α → α → Bool) : Prop where
  al : ∀ x y, PySem.W.alikeAll (enc x) (enc y) = true
  ordT : ∀ x y, PySem.W.dataLt (.tuple (enc y)) (.tuple (enc x)) = !le x y
  ordL : ∀ x y, PySem.W.dataLt (.list (enc y)) (.list (enc x)) = !le x y
  eq : ∀ x y, PyData.eqvAll (enc x) (enc y) = decide (x = y)
  sh : ∀ x, ∀ d ∈ enc x, Sh n d
  o : TotO le
end
theorem ordI : OrdE 0 PyData.int leI' where
  al x y := by simp only [PySem.W.alike]
  ord x y := by
    rw [PySem.W.dataLt_int]
    unfold leI'
    by_cases z : y < x
    · rw [decide_eq_true z, decide_eq_false (by omega)]
      rfl
    · rw [decide_eq_false z, decide_eq_true (by omega)]
      rfl
  eq := eqv_int
  sh _ := sh_int
  o := totI
theorem ordD : OrdE 1 dI leL where
  al := alike_dI
  ord x y := by rw [lt_dI, ← leL_lt, Bool.not_not]
  eq := eqv_dI
  sh x := sh_ints x
  o := totL
theorem ord_nil {n : Nat} : OrdL n (fun _ : Unit => []) (fun _ _ => true) where
  al _ _ := by simp only [PySem.W.alikeAll]
  ordT _ _ := lt_self _
  ordL _ _ := lt_self _
  eq _ _ := by simp only [PyData.eqvAll]; rfl
  sh _ d hd := by cases hd
  o := ⟨fun _ _ _ _ _ => rfl, fun _ _ => .inl rfl, fun _ _ _ _ => rfl⟩
theorem ord_cons {α β : Type} [DecidableEq α] [DecidableEq β] {n : Nat} {e1 : α → PyData} {l1 : α → α → Bool} {e2 : β → List PyData} {l2 : β → β → Bool} (h1 : OrdE n e1 l1) (h2 : OrdL n e2 l2) : OrdL n (fun p : α × β => e1 p.1 :: e2 p.2) (lexO l1 l2) where
  al x y := by simp only [PySem.W.alikeAll, h1.al, h2.al, Bool.and_self]
  ordT x y := by
    rw [lt_tcons (h1.al _ _), h1.eq, h2.ordT, h1.ord]
    unfold lexO
    by_cases e : x.1 = y.1
    · rw [decide_eq_true e.symm, if_pos rfl, if_pos e]
    · rw [decide_eq_false (fun z => e z.symm), if_neg Bool.false_ne_true, if_neg e]
  ordL x y := by
    rw [lt_lcons (h1.al _ _), h1.eq, h2.ordL, h1.ord]
    unfold lexO
    by_cases e : x.1 = y.1
    · rw [decide_eq_true e.symm, if_pos rfl, if_pos e]
    · rw [decide_eq_false (fun z => e z.symm), if_neg Bool.false_ne_true, if_neg e]
  eq x y := by
    simp only [PyData.eqvAll, h1.eq, h2.eq]
    by_cases e : x.1 = y.1
    · by_cases e2 : x.2 = y.2
      · rw [decide_eq_true e, decide_eq_true e2, decide_eq_true (Prod.ext e e2)]
        rfl
      · rw [decide_eq_true e, decide_eq_false e2, decide_eq_false (fun z => e2 (by rw [z]))]
        rfl
    · rw [decide_eq_false e, decide_eq_false (fun z : x = y => e (by rw [z])), Bool.false_and]
  sh x d hd := by
    rcases List.mem_cons.mp hd with rfl | hd
    · exact h1.sh _
    · exact h2.sh _ _ hd
  o := totLex h1.o h2.o
theorem Sh.up {n m : Nat} {d : PyData} (h : Sh n d) (l : n ≤ m) : Sh m d := ⟨h.1, Nat.le_trans h.2 l⟩
theorem ord_up {α : Type} [DecidableEq α] {n m : Nat} {e : α → PyData} {l : α → α → Bool} (h : OrdE n e l) (le : n ≤ m) : OrdE m e l := ⟨h.al, h.ord, h.eq, fun x => (h.sh x).up le, h.o⟩
theorem ord_tup {α : Type} [DecidableEq α] {n : Nat} {e : α → List PyData} {l : α → α → Bool} (h : OrdL n e l) : OrdE (n + 1) (fun x => .tuple (e x)) l where
  al x y := by simp only [PySem.W.alike]; exact h.al x y
  ord := h.ordT
  eq x y := by simp only [PyData.eqv]; exact h.eq x y
  sh x := sh_tuple (h.sh x)
  o := h.o
theorem ord_lst {α : Type} [DecidableEq α] {n : Nat} {e : α → List PyData} {l : α → α → Bool} (h : OrdL n e l) : OrdE (n + 1) (fun x => .list (e x)) l where
  al x y := by simp only [PySem.W.alike]; exact h.al x y
  ord := h.ordL
  eq x y := by simp only [PyData.eqv]; exact h.eq x y
  sh x := sh_list (h.sh x)
  o := h.o
/-- a list of such data -/
theorem eqv_all {α : Type} [DecidableEq α] {n : Nat} {e : α → PyData} {l : α → α → Bool} (h : OrdE n e l) : ∀ xs ys : List α, PyData.eqvAll (xs.map e) (ys.map e) = decide (xs = ys)
  | [], [] => by simp only [List.map_nil, PyData.eqvAll]; rfl
  | [], _ :: _ => by simp only [List.map_nil, List.map_cons, PyData.eqvAll]; rfl
  | _ :: _, [] => by simp only [List.map_nil, List.map_cons, PyData.eqvAll]; rfl
  | x :: xs, y :: ys => by
    simp only [List.map_cons, PyData.eqvAll, h.eq, eqv_all h xs ys]
    by_cases e1 : x = y
    · by_cases e2 : xs = ys
      · rw [decide_eq_true e1, decide_eq_true e2, decide_eq_true (by rw [e1, e2])]
        rfl
      · rw [decide_eq_true e1, decide_eq_false e2, decide_eq_false (fun z => e2 (List.cons.inj z).2)]
        rfl
    · rw [decide_eq_false e1, decide_eq_false (fun z => e1 (List.cons.inj z).1)]
      rfl
theorem eqv_list {α : Type} [DecidableEq α] {n : Nat} {e : α → PyData} {l : α → α → Bool} (h : OrdE n e l) (xs ys : List α) : PyData.eqv (.list (xs.map e)) (.list (ys.map e)) = decide (xs = ys) := by
  simp only [PyData.eqv]
  exact eqv_all h xs ys
theorem sh_all {α : Type} [DecidableEq α] {n : Nat} {e : α → PyData} {l : α → α → Bool} (h : OrdE n e l) (xs : List α) : Sh (n + 1) (.list (xs.map e)) := sh_list fun d hd => by
  obtain ⟨x, _, rfl⟩ := List.mem_map.mp hd
  exact h.sh x
theorem OrdE.srt {α : Type} [DecidableEq α] {n : Nat} {e : α → PyData} {l : α → α → Bool} (h : OrdE n e l) (hn : n ≤ 60) (sk : (∀ x, ∃ u r, e x = .tuple (u :: r)) ∨ ∀ x, e x ≠ .none ∧ ∀ xs, e x ≠ .tuple xs) : Srt e l where
  al := h.al
  sk := sk
  dep x := Nat.le_trans (h.sh x).2 hn
  ord x y := by rw [h.ord, Bool.not_not]
  o := h.o
/-- (int, die, die); (die, die); (int, die); and as lists -/
def dPr (p : List Int × List Int) : PyData := .tuple [dI p.1, dI p.2]
def d3 (p : Int × List Int × List Int) : PyData := .tuple [.int p.1, dI p.2.1, dI p.2.2]
def d2 (p : Int × List Int) : PyData := .tuple [.int p.1, dI p.2]
def l3 (p : Int × List Int × List Int) : PyData := .list [.int p.1, dI p.2.1, dI p.2.2]
def l2 (p : Int × List Int) : PyData := .list [.int p.1, dI p.2]
def lePr : List Int × List Int → List Int × List Int → Bool := lexO leL leL
def le3 : Int × List Int × List Int → Int × List Int × List Int → Bool := lexO leI' (lexO leL leL)
def le2 : Int × List Int → Int × List Int → Bool := lexO leI' leL
theorem ordB {α : Type} [DecidableEq α] {n : Nat} {e1 : α → PyData} {l1 : α → α → Bool} (h1 : OrdE n e1 l1) : OrdL n (fun p : α => [e1 p]) l1 where
  al x y := by simp only [PySem.W.alikeAll, h1.al, Bool.and_self]
  ordT x y := by
    rw [lt_tcons (h1.al _ _), h1.eq, lt_self, h1.ord]
    by_cases e : x = y
    · rw [decide_eq_true e.symm, if_pos rfl, e]
      rcases h1.o.tot y y with h | h <;> rw [h] <;> rfl
    · rw [decide_eq_false (fun z => e z.symm), if_neg Bool.false_ne_true]
  ordL x y := by
    rw [lt_lcons (h1.al _ _), h1.eq, lt_self, h1.ord]
    by_cases e : x = y
    · rw [decide_eq_true e.symm, if_pos rfl, e]
      rcases h1.o.tot y y with h | h <;> rw [h] <;> rfl
    · rw [decide_eq_false (fun z => e z.symm), if_neg Bool.false_ne_true]
  eq x y := by simp only [PyData.eqvAll, h1.eq, Bool.and_true]
  sh x d hd := by
    rcases List.mem_cons.mp hd with rfl | hd
    · exact h1.sh _
    · cases hd
  o := h1.o
theorem ordPr : OrdE 2 dPr lePr := ord_tup (n := 1) (ord_cons ordD (ordB ordD))
theorem ord3 : OrdE 2 d3 le3 := ord_tup (n := 1) (ord_cons (ord_up ordI (by decide)) (ord_cons ordD (ordB ordD)))
theorem ord2 : OrdE 2 d2 le2 := ord_tup (n := 1) (ord_cons (ord_up ordI (by decide)) (ordB ordD))
theorem ordl3 : OrdE 2 l3 le3 := ord_lst (n := 1) (ord_cons (ord_up ordI (by decide)) (ord_cons ordD (ordB ordD)))
theorem ordl2 : OrdE 2 l2 le2 := ord_lst (n := 1) (ord_cons (ord_up ordI (by decide)) (ordB ordD))
/-! ### loops over enumerate -/
section
variable {α : Type} {K : PySem.W.Frag} {a : Addr} {g : TG} {tb : TS} {D : Ends} {σ : St} {H : Hp}
theorem for_enumP (f : α → V) (l : List α) (Pv : List α → St → Hp → Prop) (h0 : Pv [] σ H) (hl : ∀ dn σ H, Pv dn σ H → SqL K H a (l.map f))
    (hs : ∀ dn z rs σ H t, l = dn ++ z :: rs → Pv dn σ H → H t = none → g (.ref t) σ (upd H t (.tup [.int (dn.length : Nat), f z])) fun σ2 H2 => tb { D with nx := Pv (dn ++ [z]), ct := Pv (dn ++ [z]), bk := D.nx } σ2 H2) (hd : ∀ σ H, Pv l σ H → D.nx σ H) :
    ∃ W : Nat → Nat → St → Hp → Prop, (∃ m, W 0 m σ H) ∧ ∀ i m σ H, W i m σ H →
      ((Ite K a).stop i H ∧ D.nx σ H) ∨ ((Ite K a).go i H ∧ ∃ N : St → Hp → Prop, (∀ σ' H', N σ' H' → ∃ m', m' < m ∧ W (i + 1) m' σ' H') ∧ ∀ x H', (Ite K a).yld i H x H' → g x σ H' fun σ2 H2 => tb { D with nx := N, ct := N, bk := D.nx } σ2 H2) := by
  refine L2.for_it (L2.walk_enum (xs := l.map f)) (fun i σ H => Pv (l.take i) σ H) h0 (fun i σ H _ p => hl _ σ H p) (fun i x σ H H' hi p y => ?_) (fun σ H p => hd σ H ?_)
  · obtain ⟨T, u, v, rfl, nT, rfl, e1, e2⟩ := y
    replace e2 : (l.map f)[i]? = some v := e2
    replace e1 : some (V.int ((i : Nat) : Int)) = some u := e1
    rw [List.getElem?_map] at e2
    cases e : l[i]? with
    | none =>
      rw [e] at e2
      cases e2
    | some z =>
      rw [e] at e2
      obtain ⟨e3, e4⟩ := take_succ_of e
      have ev : v = f z := (Option.some.inj e2).symm
      have eu : u = .int (i : Nat) := (Option.some.inj e1).symm
      subst ev eu
      have hlen : (l.take i).length = i := by
        rw [List.length_take]
        rw [List.length_map] at hi
        omega
      have q := hs (l.take i) z (l.drop (i + 1)) σ H T e4 p nT
      rw [← e3, hlen] at q
      exact q
  · rw [List.length_map, List.take_length] at p
    exact p
end
end Tw
set_option Elab.async false
set_option linter.all false
set_option maxRecDepth 100000
set_option maxHeartbeats 4000000
namespace Tw
open PySem PySem.Spec PyProof.Rows L2
/-! ### what the twins' defs compute, in plain -/
section
variable {α β : Type}
def efrom (f : Nat → α → β → β) : Nat → List α → β → β
  | _, [], b => b
  | n, x :: r, b => efrom f (n + 1) r (f n x b)
def efold (f : Nat → α → β → β) (l : List α) (b : β) : β := efrom f 0 l b
theorem efrom_concat (f : Nat → α → β → β) : ∀ (l : List α) (n : Nat) (x : α) (b : β), efrom f n (l ++ [x]) b = f (n + l.length) x (efrom f n l b)
  | [], _, _, _ => rfl
  | y :: l, n, x, b => by
    show efrom f (n + 1) (l ++ [x]) (f n y b) = f (n + (l.length + 1)) x (efrom f (n + 1) l (f n y b))
    rw [efrom_concat f l (n + 1) x, show n + 1 + l.length = n + (l.length + 1) by omega]
theorem efold_concat (f : Nat → α → β → β) (l : List α) (x : α) (b : β) : efold f (l ++ [x]) b = f l.length x (efold f l b) := by
  unfold efold
  rw [efrom_concat, Nat.zero_add]
def nfold (f : Nat → β → β) : Nat → β → β
  | 0, b => b
  | n + 1, b => f n (nfold f n b)
end
def addAt (l : List Int) (i : Nat) (d : Int) : List Int := l.set i (l.getD i 0 + d)
def subAt (l : List Int) (i : Nat) (d : Int) : List Int := l.set i (l.getD i 0 - d)
def rowT (b : List Int) (i : Nat) (m : Int) (acc : List Int) : List Int := efold (fun far y acc => addAt acc (i + far) (m * y)) b acc
def timesM (a b : List Int) : List Int := efold (fun i m acc => rowT b i m acc) a (List.replicate (a.length + b.length - 1) 0)
def rowO (b : List Int) (i : Nat) (o : Int) (acc : List Int) : List Int := efold (fun far y acc => subAt acc (i + far) (o * y)) b acc
def overS (b : List Int) (d i : Nat) (s : List Int × List Int) : List Int × List Int :=
  (rowO b (d - i) (s.1.getD (d - i + b.length - 1) 0) s.1, s.2 ++ [s.1.getD (d - i + b.length - 1) 0])
def overM (a b : List Int) : List Int := (nfold (overS b (a.length - b.length)) (a.length - b.length + 1) (a, [])).2.reverse
def lfM : Nat → Nat → List Int
  | 0, _ => []
  | n + 1, many => nfold (fun i acc => if many % (i + 1) = 0 then overM acc (lfM n (i + 1)) else acc) (many - 1) ([-1] ++ List.replicate (many - 1) 0 ++ [1])
def lf (many : Nat) : List Int := lfM 13 many
def b2 (b : Bool) : Int := if b then 1 else 0
def oftenM (f s p : Int) : Int := b2 (decide (f % p = 0)) + b2 (decide (s % p = 0))
def partsS (f s : Int) (i : Nat) (acc : List (List Int × Int)) : List (List Int × Int) := if 0 < oftenM f s (2 + i) then acc ++ [(lf (2 + i), oftenM f s (2 + i))] else acc
def partsM (f s : Int) : List (List Int × Int) := nfold (partsS f s) ((if s > f then s else f) - 1).toNat []
def raisedM (row part : List Int) (n : Nat) : List Int := nfold (fun _ r => timesM r part) n row
def dealR (p : List Int × Int) (z : List Int × List Int) : List (List Int × List Int) := (List.range (p.2 + 1).toNat).map fun i => (raisedM z.1 p.1 i, raisedM z.2 p.1 (p.2 - i).toNat)
def dealS (found : List (List Int × List Int)) (p : List Int × Int) : List (List Int × List Int) := found.flatMap (dealR p)
def dealtM (f s : Int) : List (List Int × List Int) := (partsM f s).foldl dealS [([1], [1])]
def dieM (row : List Int) : List Int := efold (fun i o acc => acc ++ List.replicate o.toNat ((i : Int) + 1)) row []
def okR (z : List Int × List Int) : Bool := z.1.all (fun x => decide (0 ≤ x)) && z.2.all (fun x => decide (0 ≤ x)) && decide (1 < z.1.sum) && decide (1 < z.2.sum)
def le2D (a b : List Int) : Bool := le2 (a.length, a) (b.length, b)
def twS (acc : List (Int × List Int × List Int)) (z : List Int × List Int) : List (Int × List Int × List Int) :=
  if okR z = true then (if le2D (dieM z.1) (dieM z.2) = true then acc ++ [(((dieM z.1).length : Int), dieM z.1, dieM z.2)] else acc) else acc
def twM (f s : Int) : List (List Int × List Int) := (isort le3 ((dealtM f s).foldl twS [])).map (·.2)
/-- rows that fit a die -/
def fitR (z : List Int × List Int) : Bool := !okR z || (decide (z.1.sum ≤ 1000) && decide (z.2.sum ≤ 1000))
end Tw
set_option Elab.async false
set_option linter.all false
set_option maxRecDepth 100000
set_option maxHeartbeats 4000000
namespace Tw
open PySem PySem.Spec PyProof.Rows L2
/-! ### places in lists of ints -/
theorem at_nat {l : List Int} {i : Nat} (h : i < l.length) : atI (l.map V.int) (i : Int) = some (.int (l.getD i 0)) := by
  refine atI_nat ?_
  rw [List.getElem?_map, List.getElem?_eq_getElem h, List.getD_eq_getElem?_getD, List.getElem?_eq_getElem h]
  rfl
theorem ix_nat {n i : Nat} (h : i < n) : ixN n (i : Int) = some i := by
  unfold ixN
  rw [if_pos (by omega), if_pos (by omega)]
  simp
theorem set_map (l : List Int) (i : Nat) (x : Int) : (l.map V.int).set i (.int x) = (l.set i x).map V.int := by rw [List.map_set]
theorem rd_get {K : PySem.W.Frag} {H : Hp} {Q : VK} {p : Addr} {l : List Int} {z : Int} (i : Nat) (ez : z = i) (h : H p = some (.lst (l.map V.int))) (hi : i < l.length) (q : Q (.int (l.getD i 0)) H) : rGetL K (.ref p) (.int z) H Q := by
  subst ez
  exact ⟨p, _, i, _, rfl, rfl, .of h, by omega, at_nat hi, q⟩
theorem rd_set {H : Hp} {Q : Hp → Prop} {p : Addr} {l : List Int} {z x : Int} (i : Nat) (ez : z = i) (h : H p = some (.lst (l.map V.int))) (hi : i < l.length) (q : Q (upd H p (.lst ((l.set i x).map V.int)))) : rSetL (.ref p) (.int z) (.int x) H Q := by
  subst ez
  refine ⟨p, _, i, i, rfl, rfl, h, ix_nat (by rw [List.length_map]; exact hi), ?_⟩
  rw [set_map]
  exact q
theorem len_addAt (l : List Int) (i : Nat) (d : Int) : (addAt l i d).length = l.length := List.length_set ..
theorem len_subAt (l : List Int) (i : Nat) (d : Int) : (subAt l i d).length = l.length := List.length_set ..
theorem len_efold {α : Type} (f : Nat → α → List Int → List Int) (hf : ∀ n x b, (f n x b).length = b.length) : ∀ (l : List α) (n : Nat) (b : List Int), (efrom f n l b).length = b.length
  | [], _, _ => rfl
  | x :: l, n, b => by
    show (efrom f (n + 1) l (f n x b)).length = _
    rw [len_efold f hf l, hf]
theorem len_rowT (b : List Int) (i : Nat) (m : Int) (acc : List Int) : (rowT b i m acc).length = acc.length := len_efold _ (fun _ _ _ => len_addAt ..) b 0 acc
theorem len_rowO (b : List Int) (i : Nat) (m : Int) (acc : List Int) : (rowO b i m acc).length = acc.length := len_efold _ (fun _ _ _ => len_subAt ..) b 0 acc
theorem len_times (a b : List Int) : (timesM a b).length = a.length + b.length - 1 := by
  unfold timesM efold
  rw [len_efold _ (fun _ _ _ => len_rowT ..), List.length_replicate]
theorem len_raised (row part : List Int) : ∀ n : Nat, (raisedM row part n).length ≤ row.length + n * part.length
  | 0 => by show row.length ≤ _; omega
  | n + 1 => by
    show (timesM (raisedM row part n) part).length ≤ _
    rw [len_times]
    have := len_raised row part n
    rw [Nat.add_mul]
    omega
theorem pos_raised {row part : List Int} (h1 : 1 ≤ row.length) (h2 : 1 ≤ part.length) : ∀ n : Nat, 1 ≤ (raisedM row part n).length
  | 0 => h1
  | n + 1 => by
    show 1 ≤ (timesM (raisedM row part n) part).length
    rw [len_times]
    have := pos_raised h1 h2 n
    omega
theorem flat_rep (n : Nat) (x : Int) : (List.replicate n [V.int x]).flatten = (List.replicate n x).map V.int := by
  induction n with
  | zero => rfl
  | succ n ih => rw [List.replicate_succ, List.flatten_cons, ih, List.replicate_succ]; rfl
section
variable {g : TG} {tb : TS} {D : Ends} {σ : St} {H : Hp}
theorem rd_ir3 {ta : TA} {R : It → Hp → Prop} (h : ta σ H fun vs H1 => ∃ (i j c : Int) (n : Nat), vs = [.int i, .int j, .int c] ∧ RgC i j c n ∧ R (Itc i c n) H1) : iRng3 ta σ H R := h
theorem for_down {lo : Int} {n : Nat} (Pv : Nat → St → Hp → Prop) (h0 : Pv 0 σ H)
    (hs : ∀ i σ H, i < n → Pv i σ H → g (.int (lo - (i : Nat))) σ H fun σ2 H2 => tb { D with nx := Pv (i + 1), ct := Pv (i + 1), bk := D.nx } σ2 H2) (hd : ∀ σ H, Pv n σ H → D.nx σ H) :
    ∃ W : Nat → Nat → St → Hp → Prop, (∃ m, W 0 m σ H) ∧ ∀ i m σ H, W i m σ H →
      ((Itc lo (-1) n).stop i H ∧ D.nx σ H) ∨ ((Itc lo (-1) n).go i H ∧ ∃ N : St → Hp → Prop, (∀ σ' H', N σ' H' → ∃ m', m' < m ∧ W (i + 1) m' σ' H') ∧ ∀ x H', (Itc lo (-1) n).yld i H x H' → g x σ H' fun σ2 H2 => tb { D with nx := N, ct := N, bk := D.nx } σ2 H2) := by
  refine L2.for_it L2.walk_rangeC Pv h0 (fun _ _ _ _ _ => trivial) (fun i x σ H H' hi p y => ?_) hd
  obtain ⟨rfl, rfl⟩ := y
  have q := hs i σ H' hi p
  rw [show lo - (i : Nat) = lo + (i : Nat) * (-1) by omega] at q
  exact q
end
def Sm (l : List Int) : Prop := ∀ y ∈ l, -1000 ≤ y ∧ y ≤ 1000
/-! ### the least factors -/
def lfS (m i : Nat) (acc : List Int) : List Int := if m % (i + 1) = 0 then overM acc (lf (i + 1)) else acc
def lfA (m i : Nat) : List Int := nfold (lfS m) i ([-1] ++ List.replicate (m - 1) 0 ++ [1])
def smB (l : List Int) : Bool := l.all fun y => decide (-1000 ≤ y) && decide (y ≤ 1000)
theorem sm_of {l : List Int} (h : smB l = true) : Sm l := fun y hy => by
  have := List.all_eq_true.mp h y hy
  simp only [Bool.and_eq_true, decide_eq_true_eq] at this
  exact this
theorem lf_tab : (List.range 13).all (fun m => decide (m = 0) || (decide (lfA m (m - 1) = lf m) && decide (1 ≤ (lf m).length) && decide ((lf m).length ≤ 13) && smB (lf m) && (List.range m).all fun i => !decide (i + 1 < m) || !decide (m % (i + 1) = 0) || (decide ((lf (i + 1)).length ≤ (lfA m i).length) && decide ((lfA m i).length ≤ 1000)))) = true := by decide +kernel
theorem lf_fact {m : Nat} (h1 : 1 ≤ m) (h2 : m ≤ 12) : lfA m (m - 1) = lf m ∧ 1 ≤ (lf m).length ∧ (lf m).length ≤ 13 ∧ Sm (lf m) ∧ ∀ i, i + 1 < m → m % (i + 1) = 0 → (lf (i + 1)).length ≤ (lfA m i).length ∧ (lfA m i).length ≤ 1000 := by
  have h := List.all_eq_true.mp lf_tab m (List.mem_range.mpr (by omega))
  simp only [Bool.or_eq_true, Bool.and_eq_true, decide_eq_true_eq] at h
  rcases h with h | ⟨⟨⟨⟨a, b⟩, c⟩, d⟩, e⟩
  · omega
  refine ⟨a, b, c, sm_of d, fun i hi hm => ?_⟩
  have h := List.all_eq_true.mp e i (List.mem_range.mpr (by omega))
  simp only [Bool.or_eq_true, Bool.and_eq_true, decide_eq_true_eq, Bool.not_eq_true', decide_eq_false_iff_not] at h
  rcases h with (h | h) | h
  · exact absurd hi h
  · exact absurd hm h
  · exact h
theorem sum_nonneg : ∀ {l : List Int}, (∀ y ∈ l, 0 ≤ y) → 0 ≤ l.sum
  | [], _ => by simp
  | x :: l, h => by
    rw [List.sum_cons]
    have := sum_nonneg (l := l) fun y hy => h y (List.mem_cons_of_mem _ hy)
    have := h x List.mem_cons_self
    omega
theorem len_efromD : ∀ (l : List Int) (n : Nat) (b : List Int), (∀ y ∈ l, 0 ≤ y) → ((efrom (fun i (o : Int) acc => acc ++ List.replicate o.toNat ((i : Int) + 1)) n l b).length : Int) = b.length + l.sum
  | [], _, b, _ => by show (b.length : Int) = _; simp
  | x :: l, n, b, h => by
    show ((efrom (fun i (o : Int) acc => acc ++ List.replicate o.toNat ((i : Int) + 1)) (n + 1) l (b ++ List.replicate x.toNat ((n : Int) + 1))).length : Int) = _
    rw [len_efromD l (n + 1) _ fun y hy => h y (List.mem_cons_of_mem _ hy), List.length_append, List.length_replicate, List.sum_cons]
    have := h x List.mem_cons_self
    omega
theorem len_dieM (l : List Int) (h : ∀ y ∈ l, 0 ≤ y) : ((dieM l).length : Int) = l.sum := by
  unfold dieM efold
  rw [len_efromD l 0 [] h]
  simp
theorem dec_int (a b : Int) : decide (V.int a = V.int b) = decide (a = b) := by
  by_cases c : a = b
  · rw [decide_eq_true c, decide_eq_true (by rw [c])]
  · rw [decide_eq_false c, decide_eq_false (fun z => c (V.int.inj z))]
theorem nfold_inv {β : Type} (f : Nat → β → β) (b : β) (I : Nat → β → Prop) (h0 : I 0 b) (hs : ∀ i x, I i x → I (i + 1) (f i x)) : ∀ n, I n (nfold f n b)
  | 0 => h0
  | n + 1 => hs n _ (nfold_inv f b I h0 hs n)
theorem often_le (f s p : Int) : oftenM f s p ≤ 2 := by
  unfold oftenM b2
  split <;> split <;> omega
/-- what each part is -/
theorem parts_fact {f s : Int} (hf : SidesOk f) (hs : SidesOk s) : (partsM f s).length ≤ 11 ∧ ∀ p ∈ partsM f s, (1 ≤ p.1.length ∧ p.1.length ≤ 13) ∧ Sm p.1 ∧ 1 ≤ p.2 ∧ p.2 ≤ 2 := by
  have h := nfold_inv (partsS f s) [] (fun i l => l.length ≤ i ∧ (i ≤ 11 → ∀ p ∈ l, (1 ≤ p.1.length ∧ p.1.length ≤ 13) ∧ Sm p.1 ∧ 1 ≤ p.2 ∧ p.2 ≤ 2)) ⟨Nat.le_refl _, fun _ _ h => nomatch h⟩ (fun i l ⟨h1, h2⟩ => ?_) ((if s > f then s else f) - 1).toNat
  · obtain ⟨f1, f2⟩ := hf
    obtain ⟨g1, g2⟩ := hs
    have e : ((if s > f then s else f) - 1).toNat ≤ 11 := by
      split <;> omega
    exact ⟨Nat.le_trans h.1 e, h.2 e⟩
  · unfold partsS
    split
    · rename_i c
      refine ⟨by rw [List.length_append]; exact Nat.succ_le_succ h1, fun hi p hp => ?_⟩
      rcases List.mem_append.mp hp with hp | hp
      · exact h2 (by omega) p hp
      · rw [List.mem_singleton] at hp
        subst hp
        obtain ⟨_, b, c', d, _⟩ := lf_fact (m := 2 + i) (by omega) (by omega)
        exact ⟨⟨b, c'⟩, d, by show 1 ≤ oftenM f s (2 + i); omega, often_le _ _ _⟩
    · exact ⟨by omega, fun hi => h2 (by omega)⟩
theorem len_dealR (p : List Int × Int) (z : List Int × List Int) : (dealR p z).length = (p.2 + 1).toNat := by
  unfold dealR
  rw [List.length_map, List.length_range]
theorem ref_ne {H : Hp} {a r : Addr} {l : List Int} {vs : List V} (ha : H a = some (.lst (l.map V.int))) (h1 : 1 ≤ l.length) (hr : H r = some (.lst vs)) (hv : ∀ v ∈ vs, ∃ t, v = V.ref t) : a ≠ r := fun e => by
  rw [e, hr] at ha
  have e2 : vs = l.map V.int := by injection ha with z; injection z
  cases l with
  | nil => simp at h1
  | cons x l =>
    obtain ⟨t, ht⟩ := hv (.int x) (by rw [e2]; exact List.mem_cons_self)
    cases ht
/-! ### comprehensions that make new things -/
def Has (H : Hp) (l : List (Addr × HO)) : Prop := ∀ p ∈ l, H p.1 = some p.2
theorem Has.same {H H' : Hp} {l : List (Addr × HO)} (s : Same H H') (h : Has H l) : Has H' l := fun p hp => s _ _ (h p hp)
theorem Has.upd {H : Hp} {l : List (Addr × HO)} {D : Addr} {o : HO} (h : Has H l) (n : ∀ p ∈ l, p.1 ≠ D) : Has (L2.upd H D o) l := fun p hp => by
  rw [upd_ne (n p hp)]
  exact h p hp
section
variable {J : It} {n : Nat} {G : Hp → Prop} {Y : Nat → Hp → V → Hp → Prop} {β : Type}
theorem lc_rows (w : L2.Walk J n G Y) {g : TG} {te : TE} {vs : List Nat} {σ : St} {H1 : Hp} {D : Addr} {Qd : Hp → Prop} (objs : β → List (Addr × HO)) (val : β → V) (Rel : Nat → β → Prop) (nD : H1 D = none) (hz : n ≤ sizeLine) (hG : ∀ H, Same H1 H → G H)
    (hs : ∀ i x H H' (bs : List β), i < n → Same H1 H → H D = some (.lst (bs.map val)) → Y i H x H' → ∀ Q' : VK, (∀ H3 b, Same H H3 → Has H3 (objs b) → (∀ p ∈ objs b, p.1 ≠ D) → Rel i b → Q' (val b) H3) → g x (wipe σ vs) H' fun σ2 H2 => wipe σ2 vs = wipe σ vs ∧ te σ2 H2 Q')
    (hd : ∀ H (bs : List β), Same H1 H → H D = some (.lst (bs.map val)) → bs.length = n → (∀ i b, bs[i]? = some b → Rel i b) → (∀ b ∈ bs, Has H (objs b) ∧ ∀ p ∈ objs b, p.1 ≠ D) → Qd H) :
    ∃ W : Nat → Nat → Hp → Prop, (∃ m, W 0 m (upd H1 D (.lst []))) ∧ ∀ i m H, W i m H →
      (J.stop i H ∧ Qd H) ∨ (J.go i H ∧ ∃ Nx : Hp → Prop, (∀ H', Nx H' → ∃ m', m' < m ∧ W (i + 1) m' H') ∧ ∀ x H', J.yld i H x H' → g x (wipe σ vs) H' fun σ2 H2 => wipe σ2 vs = wipe σ vs ∧ tYes σ2 H2 fun b H3 =>
        if b = true then te σ2 H3 fun y H4 => ∃ acc, H4 D = some (.lst acc) ∧ acc.length < sizeLine ∧ Nx (upd H4 D (.lst (acc ++ [y]))) else Nx H3) := by
  refine L2.lc_it w (fun i H => Same H1 H ∧ ∃ bs : List β, bs.length = i ∧ H D = some (.lst (bs.map val)) ∧ (∀ j b, bs[j]? = some b → Rel j b) ∧ ∀ b ∈ bs, Has H (objs b) ∧ ∀ p ∈ objs b, p.1 ≠ D)
    ⟨same_new nD, [], rfl, upd_same, (fun _ _ h => by simp at h), (fun _ h => by simp at h)⟩ (fun i H _ p => hG H p.1) (fun i x H H' hi ⟨s1, bs, lb, hD, hR, hA⟩ y => ?_) (fun H ⟨s1, bs, lb, hD, hR, hA⟩ => hd H bs s1 hD lb hR hA)
  refine hs i x H H' bs hi s1 hD y _ fun H3 b s3 hb nb rb => ?_
  refine ⟨_, s3 _ _ hD, by rw [List.length_map]; omega, same_mut (s1.trans s3) nD, bs ++ [b], by rw [List.length_append, lb]; rfl, by rw [upd_same, List.map_append]; rfl, fun j c hc => ?_, fun c hc => ?_⟩
  · by_cases hj : j < bs.length
    · rw [List.getElem?_append_left hj] at hc
      exact hR j c hc
    · rw [List.getElem?_append_right (by omega)] at hc
      have e : j - bs.length = 0 := by
        have := (List.getElem?_eq_some_iff.mp hc).1
        simp at this
        omega
      rw [e] at hc
      have ec : b = c := by simpa using hc
      have ej : j = i := by omega
      rw [ej, ← ec]
      exact rb
  · rcases List.mem_append.mp hc with hc | hc
    · exact ⟨((hA c hc).1.same s3).upd (hA c hc).2, (hA c hc).2⟩
    · rw [List.mem_singleton] at hc
      subst hc
      exact ⟨hb.upd nb, nb⟩
end
theorem map_range {β γ : Type} (f : β → γ) (g : Nat → γ) {n : Nat} (bs : List β) (hl : bs.length = n) (h : ∀ i b, bs[i]? = some b → f b = g i) : bs.map f = (List.range n).map g := by
  refine List.ext_getElem? fun i => ?_
  rw [List.getElem?_map, List.getElem?_map]
  by_cases hi : i < n
  · rw [List.getElem?_range hi, List.getElem?_eq_getElem (by omega)]
    exact congrArg some (h i _ (List.getElem?_eq_getElem (by omega)))
  · rw [List.getElem?_eq_none (by omega), List.getElem?_eq_none (by rw [List.length_range]; omega)]
    rfl
theorem map_get {β γ δ : Type} (f : β → δ) (g : γ → δ) (bs : List β) (cs : List γ) (hl : bs.length = cs.length) (h : ∀ (i : Nat) (b : β), bs[i]? = some b → ∃ c, cs[i]? = some c ∧ f b = g c) : bs.map f = cs.map g := by
  refine List.ext_getElem? fun i => ?_
  rw [List.getElem?_map, List.getElem?_map]
  by_cases hi : i < bs.length
  · obtain ⟨c, hc, e⟩ := h i _ (List.getElem?_eq_getElem hi)
    rw [hc, List.getElem?_eq_getElem hi]
    exact congrArg some e
  · rw [List.getElem?_eq_none (by omega), List.getElem?_eq_none (by omega)]
    rfl
theorem lift_map {β γ : Type} (F : β → γ) (P : β → Prop) : ∀ (zs : List γ), (∀ z ∈ zs, ∃ r, P r ∧ z = F r) → ∃ ts : List β, zs = ts.map F ∧ ∀ r ∈ ts, P r
  | [], _ => ⟨[], rfl, fun _ h => nomatch h⟩
  | z :: zs, h => by
    obtain ⟨r, hr, e⟩ := h z List.mem_cons_self
    obtain ⟨ts, e2, h2⟩ := lift_map F P zs fun y hy => h y (List.mem_cons_of_mem _ hy)
    refine ⟨r :: ts, by rw [e, e2]; rfl, fun y hy => ?_⟩
    rcases List.mem_cons.mp hy with rfl | hy
    · exact hr
    · exact h2 y hy
theorem min_all {l : List Int} {m : Int} (h1 : m ∈ l) (h2 : ∀ y, y ∈ l → m ≤ y) : decide (0 ≤ m) = l.all (fun x => decide (0 ≤ x)) := by
  by_cases c : 0 ≤ m
  · rw [decide_eq_true c]
    exact (List.all_eq_true.mpr fun y hy => decide_eq_true (Int.le_trans c (h2 y hy))).symm
  · rw [decide_eq_false c]
    refine (Bool.eq_false_iff.mpr fun h => ?_).symm
    have := List.all_eq_true.mp h m h1
    simp only [decide_eq_true_eq] at this
    exact c this
/-- compared, by kinds -/
theorem rd_leE {α : Type} [DecidableEq α] {n : Nat} {enc : α → PyData} {le : α → α → Bool} (h : OrdE n enc le) {K : PySem.W.Frag} {H : Hp} {Q : VK} {x y : V} {a b : α} (hn : n ≤ 60) (hx : Dp K H x (enc a)) (hy : Dp K H y (enc b)) (nn : enc a ≠ .none) (q : Q (.bl (le a b)) H) : rCmpD K (fun d e => !PySem.W.dataLt e d) x y H Q := by
  refine ⟨_, _, hx, hy, h.al _ _, nn, Nat.le_trans (Nat.min_le_left _ _) (Nat.le_trans (h.sh a).2 hn), ?_⟩
  show Q (.bl (!PySem.W.dataLt (enc b) (enc a))) H
  rw [h.ord, Bool.not_not]
  exact q
theorem rd_gtE {α : Type} [DecidableEq α] {n : Nat} {enc : α → PyData} {le : α → α → Bool} (h : OrdE n enc le) {K : PySem.W.Frag} {H : Hp} {Q : VK} {x y : V} {a b : α} (hn : n ≤ 60) (hx : Dp K H x (enc a)) (hy : Dp K H y (enc b)) (nn : enc a ≠ .none) (q : Q (.bl (!le a b)) H) : rCmpD K (fun d e => PySem.W.dataLt e d) x y H Q := by
  refine ⟨_, _, hx, hy, h.al _ _, nn, Nat.le_trans (Nat.min_le_left _ _) (Nat.le_trans (h.sh a).2 hn), ?_⟩
  show Q (.bl (PySem.W.dataLt (enc b) (enc a))) H
  rw [h.ord]
  exact q
theorem srt3 : Srt d3 le3 := ord3.srt (by decide) (.inl fun _ => ⟨_, _, rfl⟩)
/-! ### promises -/
def sideB (x : V) : Bool := whV x && (decide (2 ≤ valI x) && decide (valI x ≤ 12))
def spSides (K : PySem.W.Frag) (C : Addr) : Sp := fun vs H Q E => ∃ x, vs = [x] ∧ Kn K H x ∧ (sideB x = true → Q .non H) ∧ (sideB x = false → E (.ref C) none H)
def spTimes (K : PySem.W.Frag) : Sp := fun vs H Q _ => ∃ (a b : Addr) (one other : List Int), vs = [.ref a, .ref b] ∧ SqL K H a (one.map V.int) ∧ SqL K H b (other.map V.int) ∧ (1 ≤ one.length ∧ one.length ≤ 1000) ∧ (1 ≤ other.length ∧ other.length ≤ 1000) ∧ Sm other ∧
  ∀ (H' : Hp) (p : Addr), Same H H' → H p = none → H' p = some (.lst ((timesM one other).map V.int)) → Q (.ref p) H'
def spOver (K : PySem.W.Frag) : Sp := fun vs H Q _ => ∃ (a b : Addr) (row by' : List Int), vs = [.ref a, .ref b] ∧ SqL K H a (row.map V.int) ∧ SqL K H b (by'.map V.int) ∧ (1 ≤ by'.length ∧ by'.length ≤ row.length ∧ row.length ≤ 1000) ∧ Sm by' ∧
  ∀ (H' : Hp) (p : Addr), Same H H' → H p = none → H' p = some (.lst ((overM row by').map V.int)) → Q (.ref p) H'
def spLF (n : Nat) : Sp := fun vs H Q _ => ∃ m : Nat, vs = [.int (m : Int)] ∧ 1 ≤ m ∧ m ≤ n ∧
  ∀ (H' : Hp) (p : Addr), Same H H' → H p = none → H' p = some (.lst ((lf m).map V.int)) → Q (.ref p) H'
/-- the parts, as told: a tuple of a row and a count -/
structure PRow where
  t : Addr
  a : Addr
  row : List Int
  n : Int
def PRow.At (H : Hp) (r : PRow) : Prop := H r.t = some (.tup [.ref r.a, .int r.n]) ∧ H r.a = some (.lst (r.row.map V.int))
theorem PRow.same {H H' : Hp} {r : PRow} (s : Same H H') (h : r.At H) : r.At H' := ⟨s _ _ h.1, s _ _ h.2⟩
def spParts : Sp := fun vs H Q _ => ∃ f s : Int, vs = [.int f, .int s] ∧ SidesOk f ∧ SidesOk s ∧
  ∀ (H' : Hp) (p : Addr) (rs : List PRow), Same H H' → H p = none → H' p = some (.lst (rs.map fun r => .ref r.t)) → (rs.map fun r => (r.row, r.n)) = partsM f s → (∀ r ∈ rs, r.At H') → Q (.ref p) H'
def spRaised (K : PySem.W.Frag) : Sp := fun vs H Q _ => ∃ (a b : Addr) (row part : List Int) (n : Nat), vs = [.ref a, .ref b, .int (n : Int)] ∧ H a = some (.lst (row.map V.int)) ∧ SqL K H b (part.map V.int) ∧ (1 ≤ row.length ∧ row.length ≤ 500) ∧ (1 ≤ part.length ∧ part.length ≤ 20) ∧ n ≤ 10 ∧ Sm part ∧
  ∀ (H' : Hp) (p : Addr), Same H H' → H' p = some (.lst ((raisedM row part n).map V.int)) → Q (.ref p) H'
/-- a pair of rows, as told -/
structure DRow where
  t : Addr
  a : Addr
  b : Addr
  one : List Int
  other : List Int
def DRow.At (H : Hp) (r : DRow) : Prop := H r.t = some (.tup [.ref r.a, .ref r.b]) ∧ H r.a = some (.lst (r.one.map V.int)) ∧ H r.b = some (.lst (r.other.map V.int))
theorem DRow.same {H H' : Hp} {r : DRow} (s : Same H H') (h : r.At H) : r.At H' := ⟨s _ _ h.1, s _ _ h.2.1, s _ _ h.2.2⟩
def DRow.pr (r : DRow) : List Int × List Int := (r.one, r.other)
def DRow.v (r : DRow) : V := .ref r.t
theorem refs_v (rs : List DRow) : ∀ v ∈ rs.map DRow.v, ∃ t, v = V.ref t := fun v hv => by
  obtain ⟨r, _, rfl⟩ := List.mem_map.mp hv
  exact ⟨r.t, rfl⟩
/-- the row's objects are not r -/
def DRow.Off (r : Addr) (z : DRow) : Prop := z.t ≠ r ∧ z.a ≠ r ∧ z.b ≠ r
theorem DRow.upd {H : Hp} {r : Addr} {o : HO} {z : DRow} (h : z.At H) (n : z.Off r) : z.At (L2.upd H r o) := ⟨by rw [upd_ne n.1]; exact h.1, by rw [upd_ne n.2.1]; exact h.2.1, by rw [upd_ne n.2.2]; exact h.2.2⟩
theorem DRow.off {H : Hp} {r : Addr} {vs : List V} {z : DRow} (h : z.At H) (h1 : 1 ≤ z.one.length) (h2 : 1 ≤ z.other.length) (hr : H r = some (.lst vs)) (hv : ∀ v ∈ vs, ∃ t, v = V.ref t) : z.Off r := by
  refine ⟨fun e => ?_, ref_ne h.2.1 h1 hr hv, ref_ne h.2.2 h2 hr hv⟩
  have := h.1
  rw [e, hr] at this
  cases this
def DRow.objs (r : DRow) : List (Addr × HO) := [(r.t, .tup [.ref r.a, .ref r.b]), (r.a, .lst (r.one.map V.int)), (r.b, .lst (r.other.map V.int))]
theorem DRow.has {H : Hp} {r : DRow} : Has H r.objs ↔ r.At H := by
  constructor
  · intro h
    exact ⟨h (r.t, .tup [.ref r.a, .ref r.b]) (by simp [DRow.objs]), h (r.a, .lst (r.one.map V.int)) (by simp [DRow.objs]), h (r.b, .lst (r.other.map V.int)) (by simp [DRow.objs])⟩
  · intro h p hp
    simp only [DRow.objs, List.mem_cons, List.not_mem_nil, or_false] at hp
    rcases hp with rfl | rfl | rfl
    · exact h.1
    · exact h.2.1
    · exact h.2.2
theorem DRow.offs {D : Addr} {r : DRow} : (∀ p ∈ r.objs, p.1 ≠ D) ↔ r.Off D := by
  constructor
  · intro h
    exact ⟨h (r.t, .tup [.ref r.a, .ref r.b]) (by simp [DRow.objs]), h (r.a, .lst (r.one.map V.int)) (by simp [DRow.objs]), h (r.b, .lst (r.other.map V.int)) (by simp [DRow.objs])⟩
  · intro h p hp
    simp only [DRow.objs, List.mem_cons, List.not_mem_nil, or_false] at hp
    rcases hp with rfl | rfl | rfl
    · exact h.1
    · exact h.2.1
    · exact h.2.2
/-- lengths within -/
def DRow.Len (n : Nat) (z : DRow) : Prop := (1 ≤ z.one.length ∧ z.one.length ≤ n) ∧ (1 ≤ z.other.length ∧ z.other.length ≤ n)
def spDealt : Sp := fun vs H Q _ => ∃ f s : Int, vs = [.int f, .int s] ∧ SidesOk f ∧ SidesOk s ∧
  ∀ (H' : Hp) (p : Addr) (rs : List DRow), Same H H' → H p = none → H' p = some (.lst (rs.map DRow.v)) → rs.map DRow.pr = dealtM f s → rs.length ≤ 200000 → (∀ r ∈ rs, r.At H' ∧ r.Len 500) → Q (.ref p) H'
/-- (len, die, die), as kept -/
def DRow.At3 (H : Hp) (r : DRow) : Prop := H r.t = some (.tup [.int (r.one.length : Nat), .ref r.a, .ref r.b]) ∧ H r.a = some (.lst (r.one.map V.int)) ∧ H r.b = some (.lst (r.other.map V.int))
theorem DRow.same3 {H H' : Hp} {r : DRow} (s : Same H H') (h : r.At3 H) : r.At3 H' := ⟨s _ _ h.1, s _ _ h.2.1, s _ _ h.2.2⟩
theorem DRow.upd3 {H : Hp} {r : Addr} {o : HO} {z : DRow} (h : z.At3 H) (n : z.Off r) : z.At3 (L2.upd H r o) := ⟨by rw [upd_ne n.1]; exact h.1, by rw [upd_ne n.2.1]; exact h.2.1, by rw [upd_ne n.2.2]; exact h.2.2⟩
def DRow.p3 (r : DRow) : Int × List Int × List Int := ((r.one.length : Nat), r.one, r.other)
theorem DRow.dp3 {K : PySem.W.Frag} {H : Hp} {r : DRow} (h : r.At3 H) : Dp K H r.v (d3 r.p3) := .tup (.of h.1) (.cons (.int _) (.cons (dp_ints (.of h.2.1)) (.cons (dp_ints (.of h.2.2)) .nil)))
theorem DRow.dpr {K : PySem.W.Frag} {H : Hp} {r : DRow} (h : r.At H) : Dp K H r.v (dPr r.pr) := .tup (.of h.1) (.cons (dp_ints (.of h.2.1)) (.cons (dp_ints (.of h.2.2)) .nil))
theorem dp_rows {K : PySem.W.Frag} {H : Hp} : ∀ {rs : List DRow}, (∀ r ∈ rs, r.At H) → DpAll K H (rs.map DRow.v) ((rs.map DRow.pr).map dPr)
  | [], _ => .nil
  | r :: rs, h => .cons (DRow.dpr (h r List.mem_cons_self)) (dp_rows fun y hy => h y (List.mem_cons_of_mem _ hy))
/-- a list of pairs, as data -/
def dTw (l : List (List Int × List Int)) : PyData := .list (l.map dPr)
theorem dp_tw {K : PySem.W.Frag} {H : Hp} {p : Addr} {rs : List DRow} (hp : H p = some (.lst (rs.map DRow.v))) (h : ∀ r ∈ rs, r.At H) : Dp K H (.ref p) (dTw (rs.map DRow.pr)) := .lst (.of hp) (dp_rows h)
theorem eqv_tw (a b : List (List Int × List Int)) : PyData.eqv (dTw a) (dTw b) = decide (a = b) := eqv_list ordPr a b
theorem sh_tw (a : List (List Int × List Int)) : SeqAt.shaped (dTw a) = true := shaped_of (n := 3) (sh_all ordPr a)
def spDieOf (K : PySem.W.Frag) : Sp := fun vs H Q _ => ∃ (a : Addr) (row : List Int), vs = [.ref a] ∧ SqL K H a (row.map V.int) ∧ (∀ y ∈ row, 0 ≤ y) ∧ row.sum ≤ 1000 ∧
  ∀ (H' : Hp) (p : Addr), Same H H' → H p = none → H' p = some (.lst ((dieM row).map V.int)) → Q (.ref p) H'
/-- told pairs: new dice, none of them the list itself -/
structure TwAt (H0 H : Hp) (p : Addr) (rs : List DRow) : Prop where
  at_ : H p = some (.lst (rs.map DRow.v))
  new : H0 p = none
  rows : ∀ r ∈ rs, r.At H
  fresh : ∀ r ∈ rs, H0 r.a = none ∧ H0 r.b = none ∧ r.a ≠ p ∧ r.b ≠ p
def spTwinsOf : Sp := fun vs H Q _ => ∃ f s : Int, vs = [.int f, .int s] ∧ SidesOk f ∧ SidesOk s ∧ (dealtM f s).all fitR = true ∧
  ∀ (H' : Hp) (p : Addr) (rs : List DRow), Same H H' → TwAt H H' p rs → rs.map DRow.pr = twM f s → Q (.ref p) H'
def spTwins (K : PySem.W.Frag) (C : Addr) : Sp := fun vs H Q E => ∃ x y, vs = [x, y] ∧ Kn K H x ∧ (sideB x = false → E (.ref C) none H) ∧ (sideB x = true → Kn K H y ∧ (sideB y = false → E (.ref C) none H) ∧ (sideB y = true → ∃ f s : Int, x = .int f ∧ y = .int s ∧ (dealtM f s).all fitR = true ∧
  ∀ (H' : Hp) (p : Addr) (rs : List DRow), Same H H' → TwAt H H' p rs → rs.map DRow.pr = twM f s → Q (.ref p) H'))
theorem fo_off {f s : Int} {one other : List Int} (h : foM f s one other ≠ 0) : ofM f s (foM f s one other) one other = true := by
  unfold foM at h ⊢
  cases e : (foL f s one other).find? fun t => decide (getN (tally (allS one other)) t ≠ hoM f s t) with
  | none =>
    rw [e] at h
    exact absurd rfl h
  | some t =>
    have := List.find?_some e
    unfold ofM
    simp only [decide_eq_true_eq] at this
    show (!decide (getN (tally (allS one other)) t = hoM f s t)) = true
    rw [decide_eq_false this]
    rfl
theorem side_ok {f : Int} (h : sideB (.int f) = true) : SidesOk f := by
  unfold sideB whV valI at h
  simpa [SidesOk] using h
theorem side_of {f : Int} (h : SidesOk f) : sideB (.int f) = true := by
  unfold sideB whV valI
  simpa [SidesOk] using h
/-- what judged tells: Twin(), or Off(a sum) -/
def JAns (H H' : Hp) (CT CO : Addr) (f s : Int) (one other : List Int) (x dx : Addr) : Prop := Same H H' ∧ H x = none ∧ (foM f s one other = 0 ∧ H' x = some (.ins CT dx []) ∨ foM f s one other ≠ 0 ∧ H' x = some (.ins CO dx [("total", .int (foM f s one other))]))
def spJudged (K : PySem.W.Frag) (C CB CT CO : Addr) : Sp := fun vs H Q E => ∃ x y u v, vs = [x, y, u, v] ∧ Kn K H x ∧ (sideB x = false → E (.ref C) none H) ∧ (sideB x = true → Kn K H y ∧ (sideB y = false → E (.ref C) none H) ∧ (sideB y = true →
  ((NoDie K H u ∧ ∀ H', Same H H' → E (.ref CB) none H') ∨ ∃ a one, IsDie K H u a one ∧ ((NoDie K H v ∧ ∀ H', Same H H' → E (.ref CB) none H') ∨ ∃ b other, IsDie K H v b other ∧ ∃ f s : Int, x = .int f ∧ y = .int s ∧
    (foM f s one other = 0 → ∀ (H' : Hp) (x dx : Addr), Same H H' → H x = none → H' x = some (.ins CT dx []) → Q (.ref x) H') ∧ (foM f s one other ≠ 0 → ∀ (H' : Hp) (x dx : Addr), Same H H' → H x = none → H' x = some (.ins CO dx [("total", .int (foM f s one other))]) → Q (.ref x) H')))))
end Tw
set_option Elab.async false
set_option linter.all false
set_option maxRecDepth 100000
set_option maxHeartbeats 4000000
namespace Tw
open PySem PySem.Spec PyProof.Rows L2
local macro_rules | `(tactic| walk_at "rd0") => `(tactic| first
  | with_reducible refine Tw.rd_seq ?_
  | with_reducible refine Tw.rd_asg ?_
  | with_reducible refine Tw.rd_drop ?_
  | with_reducible refine Tw.rd_ret ?_
  | with_reducible refine Tw.rd_retN ?_
  | with_reducible refine Tw.rd_next ?_
  | ((with_reducible refine Tw.rd_var (v := ?vv) ?hv ?_); (case hv => exact rfl))
  | with_reducible refine Tw.rd_c ?_
  | with_reducible refine Tw.rd_op ?_
  | with_reducible refine Tw.rd_un ?_
  | with_reducible refine Tw.rd_I0 ?_
  | with_reducible refine Tw.rd_U ?_
  | with_reducible refine Tw.rd_test ?_
  | with_reducible refine Tw.rd_tB ?_
  | with_reducible refine Tw.rd_bl ?_
  | with_reducible refine Tw.rd_not ?_
  | with_reducible refine Tw.rd_and ?_
  | with_reducible refine Tw.rd_or ?_
  | with_reducible refine Tw.rd_andV ?_
  | with_reducible refine Tw.rd_orV ?_
  | with_reducible refine Tw.rd_notV ?_
  | with_reducible refine Tw.rd_tIf ?_
  | with_reducible refine Tw.rd_cb ?_
  | with_reducible refine Tw.rd_cons ?_
  | with_reducible refine Tw.rd_nil ?_
  | with_reducible refine Tw.rd_call ?_
  | with_reducible refine Tw.rd_tup ?_
  | with_reducible refine Tw.rd_lst ?_
  | with_reducible refine Tw.rd_gname ?_
  | with_reducible refine Tw.rd_chain ?_
  | with_reducible refine Tw.rd_lc ?_
  | with_reducible refine Tw.rd_il ?_
  | with_reducible refine Tw.rd_it ?_
  | with_reducible refine Tw.rd_ie ?_
  | with_reducible refine Tw.rd_ir ?_
  | with_reducible refine Tw.rd_ir2 ?_
  | with_reducible refine Tw.rd_ir3 ?_
  | with_reducible refine Tw.rd_dput ?_
  | with_reducible refine Tw.rd_dget2 ?_
  | with_reducible refine Tw.rd_items ?_
  | with_reducible refine Tw.rd_sl ?_
  | with_reducible refine Tw.rd_nopart ?_
  | with_reducible refine Tw.rd_part ?_
  | with_reducible refine Tw.rd_int ?_
  | with_reducible refine Tw.rd_revL ?_
  | with_reducible refine Tw.rd_bm ?_
  | with_reducible refine Tw.rd_bm0 ?_
  | with_reducible refine Tw.rd_lrg ?_
  | with_reducible refine Tw.rd_rg2 ?_
  | with_reducible refine Tw.rd_rg1 ?_
  | with_reducible refine Tw.rd_int2 ?_
  | with_reducible refine Tw.rd_augS ?_
  | with_reducible refine Tw.rd_ipI ?_
  | with_reducible refine Tw.rd_gsub ?_
  | with_reducible refine Tw.rd_gcons ?_
  | with_reducible refine Tw.rd_gnil ?_
  | with_reducible refine Tw.rd_par ?_
  | with_reducible refine Tw.rd_par2 ?_
  | with_reducible refine Tw.rd_mk ?_
  | with_reducible refine Tw.rd_md ?_
  | with_reducible refine Tw.rd_fld ?_
  | with_reducible refine Tw.rd_sfld ?_)
local macro_rules | `(tactic| walk_at "rd1") => `(tactic| first
  | walk_at "rd0"
  | with_reducible refine Tw.rd_if ?_
  | with_reducible refine Tw.rd_for ?_)
local macro_rules | `(tactic| walk_at "rs") => `(tactic| repeat walk_at "rd0")
local macro_rules | `(tactic| walk_at "rd") => `(tactic| repeat walk_at "rd1")
local macro_rules | `(tactic| walk_at "ini") => `(tactic| (dsimp only [L2.cxOf, L2.start, L2.Cx.wish, L2.Cx.nox, List.map, List.length_cons, List.length_nil, Nat.reduceAdd, Nat.reduceSub, List.replicate, List.cons_append, List.nil_append]; walk_at "rd"))
local macro_rules | `(tactic| walk_at "num") => `(tactic| first
  | exact (show (0 : Int) < _ from by decide)
  | exact (show (0 : Int) < _ ∧ _ < (1073741824 : Int) from by decide)
  | exact (show (0 : Int) ≤ _ ∧ _ ≤ (1000000 : Int) ∧ _ < 2 ^ 64 from by decide))
local macro_rules | `(tactic| walk_at "rn") => `(tactic| repeat (first | walk_at "rd1" | ((with_reducible refine Tw.rd_I ?c ?_); (case c => walk_at "num"))))
def topS (i : Nat) : Stmt := PySem.Challenge.pw_twindice_k04_whole_judged.main.body.getD i (.Pass ⟨0, 0, 0, 0⟩)
abbrev s_is_whole : Stmt := topS 8
abbrev s_check_sides : Stmt := topS 9
abbrev s_check_die : Stmt := topS 10
abbrev s_counts_of : Stmt := topS 11
abbrev s_how_often : Stmt := topS 14
abbrev s_first_off : Stmt := topS 15
abbrev s_Twin_shows : Stmt := inClass (topS 16) 0
abbrev s_Off___init__ : Stmt := inClass (topS 17) 0
abbrev s_Off_shows : Stmt := inClass (topS 17) 1
abbrev s_times : Stmt := topS 19
abbrev s_over : Stmt := topS 20
abbrev s_least_factor : Stmt := topS 21
abbrev s_parts_of : Stmt := topS 23
abbrev s_raised : Stmt := topS 24
abbrev s_dealt : Stmt := topS 25
abbrev s_die_of : Stmt := topS 26
abbrev s_twins_of : Stmt := topS 27
abbrev s_twins : Stmt := topS 28
abbrev s_judged : Stmt := topS 29
abbrev s__law_number : Stmt := topS 31
abbrev s__law_whole : Stmt := topS 32
abbrev s__law_die : Stmt := topS 33
abbrev s__law_two_sides : Stmt := topS 34
abbrev s__law_counts : Stmt := topS 35
abbrev s__law_plain : Stmt := topS 36
abbrev s__law_twins : Stmt := topS 37
abbrev s__law_says : Stmt := topS 38
abbrev s__law_due : Stmt := topS 39
abbrev s__law_right : Stmt := topS 40
abbrev s_law : Stmt := topS 41

end Tw
set_option Elab.async false
set_option linter.all false
set_option maxRecDepth 100000
set_option maxHeartbeats 4000000
namespace Tw
open PySem PySem.Spec PyProof.Rows L2
local macro_rules | `(tactic| walk_at "rd0") => `(tactic| first
  | with_reducible refine Tw.rd_seq ?_
  | with_reducible refine Tw.rd_asg ?_
  | with_reducible refine Tw.rd_drop ?_
  | with_reducible refine Tw.rd_ret ?_
  | with_reducible refine Tw.rd_retN ?_
  | with_reducible refine Tw.rd_next ?_
  | ((with_reducible refine Tw.rd_var (v := ?vv) ?hv ?_); (case hv => exact rfl))
  | with_reducible refine Tw.rd_c ?_
  | with_reducible refine Tw.rd_op ?_
  | with_reducible refine Tw.rd_un ?_
  | with_reducible refine Tw.rd_I0 ?_
  | with_reducible refine Tw.rd_U ?_
  | with_reducible refine Tw.rd_test ?_
  | with_reducible refine Tw.rd_tB ?_
  | with_reducible refine Tw.rd_bl ?_
  | with_reducible refine Tw.rd_not ?_
  | with_reducible refine Tw.rd_and ?_
  | with_reducible refine Tw.rd_or ?_
  | with_reducible refine Tw.rd_andV ?_
  | with_reducible refine Tw.rd_orV ?_
  | with_reducible refine Tw.rd_notV ?_
  | with_reducible refine Tw.rd_tIf ?_
  | with_reducible refine Tw.rd_cb ?_
  | with_reducible refine Tw.rd_cons ?_
  | with_reducible refine Tw.rd_nil ?_
  | with_reducible refine Tw.rd_call ?_
  | with_reducible refine Tw.rd_tup ?_
  | with_reducible refine Tw.rd_lst ?_
  | with_reducible refine Tw.rd_gname ?_
  | with_reducible refine Tw.rd_chain ?_
  | with_reducible refine Tw.rd_lc ?_
  | with_reducible refine Tw.rd_il ?_
  | with_reducible refine Tw.rd_it ?_
  | with_reducible refine Tw.rd_ie ?_
  | with_reducible refine Tw.rd_ir ?_
  | with_reducible refine Tw.rd_ir2 ?_
  | with_reducible refine Tw.rd_ir3 ?_
  | with_reducible refine Tw.rd_dput ?_
  | with_reducible refine Tw.rd_dget2 ?_
  | with_reducible refine Tw.rd_items ?_
  | with_reducible refine Tw.rd_sl ?_
  | with_reducible refine Tw.rd_nopart ?_
  | with_reducible refine Tw.rd_part ?_
  | with_reducible refine Tw.rd_int ?_
  | with_reducible refine Tw.rd_revL ?_
  | with_reducible refine Tw.rd_bm ?_
  | with_reducible refine Tw.rd_bm0 ?_
  | with_reducible refine Tw.rd_lrg ?_
  | with_reducible refine Tw.rd_rg2 ?_
  | with_reducible refine Tw.rd_rg1 ?_
  | with_reducible refine Tw.rd_int2 ?_
  | with_reducible refine Tw.rd_augS ?_
  | with_reducible refine Tw.rd_ipI ?_
  | with_reducible refine Tw.rd_gsub ?_
  | with_reducible refine Tw.rd_gcons ?_
  | with_reducible refine Tw.rd_gnil ?_
  | with_reducible refine Tw.rd_par ?_
  | with_reducible refine Tw.rd_par2 ?_
  | with_reducible refine Tw.rd_mk ?_
  | with_reducible refine Tw.rd_md ?_
  | with_reducible refine Tw.rd_fld ?_
  | with_reducible refine Tw.rd_sfld ?_)
local macro_rules | `(tactic| walk_at "rd1") => `(tactic| first
  | walk_at "rd0"
  | with_reducible refine Tw.rd_if ?_
  | with_reducible refine Tw.rd_for ?_)
local macro_rules | `(tactic| walk_at "rs") => `(tactic| repeat walk_at "rd0")
local macro_rules | `(tactic| walk_at "rd") => `(tactic| repeat walk_at "rd1")
local macro_rules | `(tactic| walk_at "ini") => `(tactic| (dsimp only [L2.cxOf, L2.start, L2.Cx.wish, L2.Cx.nox, List.map, List.length_cons, List.length_nil, Nat.reduceAdd, Nat.reduceSub, List.replicate, List.cons_append, List.nil_append]; walk_at "rd"))
local macro_rules | `(tactic| walk_at "num") => `(tactic| first
  | exact (show (0 : Int) < _ from by decide)
  | exact (show (0 : Int) < _ ∧ _ < (1073741824 : Int) from by decide)
  | exact (show (0 : Int) ≤ _ ∧ _ ≤ (1000000 : Int) ∧ _ < 2 ^ 64 from by decide))
local macro_rules | `(tactic| walk_at "rn") => `(tactic| repeat (first | walk_at "rd1" | ((with_reducible refine Tw.rd_I ?c ?_); (case c => walk_at "num"))))
theorem sc_is_whole : FnScope ["thing"] ["thing"] (defScope s_is_whole) := ⟨rfl, rfl, rfl, by decide +kernel, rfl, by decide +kernel, by decide +kernel⟩
section
variable {P : Program} {w : World} {K : PySem.W.Frag} {mg : Str → Option Value} {base : Heap}
theorem ok_is_whole {f : Addr} {fd : FuncData} (F : Fun K "is_whole" "is_whole" s_is_whole f fd) (B : Bn mg) : FnOk P w K mg base CX0 1 f fd ["thing"] (spIsWhole K) := by
  refine F.ok sc_is_whole (fun vs H Q E h => ?_) (fun cdv A outer s H vs Q E hr h => ?_)
  · obtain ⟨x, rfl, _⟩ := h
    rfl
  · obtain ⟨x, rfl, ⟨t, ty, e1, e2⟩, q⟩ := h
    rw [← wh_eq] at q
    refine ⟨_, (pss_one (ps_ret (pe_and (pe_callB (r := rIsi K) call_isi (by rfl) B.n_isinstance boot_isinstance (pa_cons (pv 0) (pa_cons (pe_ty B.n_int boot_int) pa_nil))) (pe_one (pe_not (pe_callB (r := rIsi K) call_isi (by rfl) B.n_isinstance boot_isinstance (pa_cons (pv 0) (pa_cons (pe_ty B.n_bool boot_bool) pa_nil)))))))), ?_⟩
    walk_at "rd"
    refine rd_isi (.ty _) ty e1 ?_
    walk_at "rd"
    cases h1 : intV x with
    | false =>
      rw [h1] at q
      exact iteF q
    | true =>
      rw [h1] at q
      refine iteT ?_
      walk_at "rd"
      refine rd_isi (.ty _) ty e2 ?_
      walk_at "rd"
      exact q
end


end Tw
set_option Elab.async false
set_option linter.all false
set_option maxRecDepth 100000
set_option maxHeartbeats 4000000
namespace Tw
open PySem PySem.Spec PyProof.Rows L2
local macro_rules | `(tactic| walk_at "rd0") => `(tactic| first
  | with_reducible refine Tw.rd_seq ?_
  | with_reducible refine Tw.rd_asg ?_
  | with_reducible refine Tw.rd_drop ?_
  | with_reducible refine Tw.rd_ret ?_
  | with_reducible refine Tw.rd_retN ?_
  | with_reducible refine Tw.rd_next ?_
  | ((with_reducible refine Tw.rd_var (v := ?vv) ?hv ?_); (case hv => exact rfl))
  | with_reducible refine Tw.rd_c ?_
  | with_reducible refine Tw.rd_op ?_
  | with_reducible refine Tw.rd_un ?_
  | with_reducible refine Tw.rd_I0 ?_
  | with_reducible refine Tw.rd_U ?_
  | with_reducible refine Tw.rd_test ?_
  | with_reducible refine Tw.rd_tB ?_
  | with_reducible refine Tw.rd_bl ?_
  | with_reducible refine Tw.rd_not ?_
  | with_reducible refine Tw.rd_and ?_
  | with_reducible refine Tw.rd_or ?_
  | with_reducible refine Tw.rd_andV ?_
  | with_reducible refine Tw.rd_orV ?_
  | with_reducible refine Tw.rd_notV ?_
  | with_reducible refine Tw.rd_tIf ?_
  | with_reducible refine Tw.rd_cb ?_
  | with_reducible refine Tw.rd_cons ?_
  | with_reducible refine Tw.rd_nil ?_
  | with_reducible refine Tw.rd_call ?_
  | with_reducible refine Tw.rd_tup ?_
  | with_reducible refine Tw.rd_lst ?_
  | with_reducible refine Tw.rd_gname ?_
  | with_reducible refine Tw.rd_chain ?_
  | with_reducible refine Tw.rd_lc ?_
  | with_reducible refine Tw.rd_il ?_
  | with_reducible refine Tw.rd_it ?_
  | with_reducible refine Tw.rd_ie ?_
  | with_reducible refine Tw.rd_ir ?_
  | with_reducible refine Tw.rd_ir2 ?_
  | with_reducible refine Tw.rd_ir3 ?_
  | with_reducible refine Tw.rd_dput ?_
  | with_reducible refine Tw.rd_dget2 ?_
  | with_reducible refine Tw.rd_items ?_
  | with_reducible refine Tw.rd_sl ?_
  | with_reducible refine Tw.rd_nopart ?_
  | with_reducible refine Tw.rd_part ?_
  | with_reducible refine Tw.rd_int ?_
  | with_reducible refine Tw.rd_revL ?_
  | with_reducible refine Tw.rd_bm ?_
  | with_reducible refine Tw.rd_bm0 ?_
  | with_reducible refine Tw.rd_lrg ?_
  | with_reducible refine Tw.rd_rg2 ?_
  | with_reducible refine Tw.rd_rg1 ?_
  | with_reducible refine Tw.rd_int2 ?_
  | with_reducible refine Tw.rd_augS ?_
  | with_reducible refine Tw.rd_ipI ?_
  | with_reducible refine Tw.rd_gsub ?_
  | with_reducible refine Tw.rd_gcons ?_
  | with_reducible refine Tw.rd_gnil ?_
  | with_reducible refine Tw.rd_par ?_
  | with_reducible refine Tw.rd_par2 ?_
  | with_reducible refine Tw.rd_mk ?_
  | with_reducible refine Tw.rd_md ?_
  | with_reducible refine Tw.rd_fld ?_
  | with_reducible refine Tw.rd_sfld ?_)
local macro_rules | `(tactic| walk_at "rd1") => `(tactic| first
  | walk_at "rd0"
  | with_reducible refine Tw.rd_if ?_
  | with_reducible refine Tw.rd_for ?_)
local macro_rules | `(tactic| walk_at "rs") => `(tactic| repeat walk_at "rd0")
local macro_rules | `(tactic| walk_at "rd") => `(tactic| repeat walk_at "rd1")
local macro_rules | `(tactic| walk_at "ini") => `(tactic| (dsimp only [L2.cxOf, L2.start, L2.Cx.wish, L2.Cx.nox, List.map, List.length_cons, List.length_nil, Nat.reduceAdd, Nat.reduceSub, List.replicate, List.cons_append, List.nil_append]; walk_at "rd"))
local macro_rules | `(tactic| walk_at "num") => `(tactic| first
  | exact (show (0 : Int) < _ from by decide)
  | exact (show (0 : Int) < _ ∧ _ < (1073741824 : Int) from by decide)
  | exact (show (0 : Int) ≤ _ ∧ _ ≤ (1000000 : Int) ∧ _ < 2 ^ 64 from by decide))
local macro_rules | `(tactic| walk_at "rn") => `(tactic| repeat (first | walk_at "rd1" | ((with_reducible refine Tw.rd_I ?c ?_); (case c => walk_at "num"))))
theorem sc_check_sides : FnScope ["sides"] ["sides"] (defScope s_check_sides) := ⟨rfl, rfl, rfl, by decide +kernel, rfl, by decide +kernel, by decide +kernel⟩
section
variable {P : Program} {w : World} {K : PySem.W.Frag} {mg : Str → Option Value} {base : Heap}
theorem ok_check_sides {f C : Addr} {fd : FuncData} (F : Fun K "check_sides" "check_sides" s_check_sides f fd) (B : Bn mg) (x_BadSides : Exq K mg "BadSides" C) (m_MOST_PLAIN : ∃ t, mg "MOST_PLAIN" = some (.int 12 t))
    (d_is_whole : Df P w K mg base CX0 1 "is_whole" ["thing"] (spIsWhole K)) : FnOk P w K mg base (L2.CX P w) 2 f fd ["sides"] (spSides K C) := by
  refine F.okX sc_check_sides (fun vs H Q E h => ?_) (fun cdv A outer s H vs Q E hr h => ?_)
  · obtain ⟨x, rfl, _⟩ := h
    rfl
  · obtain ⟨x, rfl, kx, q, qe⟩ := h
    refine ⟨_, (pss_one (ps_if (PW.pt (pw_or (pt_not (pt_val (pe_df d_is_whole (hr.mono (by decide)) (by rfl) pass0 (pa_cons (pv 0) pa_nil)))) (pw_or1 (pt_not (pt_chain op_le op_le pe_int (pv 0) (pe_num m_MOST_PLAIN)))))) (pss_one (ps_raise rfl (takes_of rfl rfl rfl rfl) (pmk_own PySem.F.excBase_ValueError x_BadSides.x x_BadSides.g x_BadSides.kp (raises_own x_BadSides.b x_BadSides.t) rfl))) pss_nil)), ?_⟩
    walk_at "ini"
    refine ⟨x, rfl, kx, ?_⟩
    walk_at "rd"
    cases c : whV x with
    | false =>
      refine iteT (iteT ?_)
      exact qe (by unfold sideB; rw [c]; rfl)
    | true =>
      refine iteF ?_
      obtain ⟨i, rfl⟩ : ∃ i, x = .int i := by
        cases x <;> first | exact ⟨_, rfl⟩ | cases c
      walk_at "rd"
      by_cases c1 : 2 ≤ i
      case neg =>
        rw [decide_eq_false c1]
        refine iteF ?_
        walk_at "rd"
        refine iteT ?_
        exact qe (by simp [sideB, whV, valI, c1])
      rw [decide_eq_true c1]
      refine iteT ?_
      walk_at "rd"
      by_cases c2 : i ≤ 12
      case neg =>
        rw [decide_eq_false c2]
        refine iteT ?_
        exact qe (by simp [sideB, whV, valI, c2])
      rw [decide_eq_true c2]
      refine iteF ?_
      exact q (by simp [sideB, whV, valI, c1, c2])
end

end Tw
set_option Elab.async false
set_option linter.all false
set_option maxRecDepth 100000
set_option maxHeartbeats 4000000
namespace Tw
open PySem PySem.Spec PyProof.Rows L2
local macro_rules | `(tactic| walk_at "rd0") => `(tactic| first
  | with_reducible refine Tw.rd_seq ?_
  | with_reducible refine Tw.rd_asg ?_
  | with_reducible refine Tw.rd_drop ?_
  | with_reducible refine Tw.rd_ret ?_
  | with_reducible refine Tw.rd_retN ?_
  | with_reducible refine Tw.rd_next ?_
  | ((with_reducible refine Tw.rd_var (v := ?vv) ?hv ?_); (case hv => exact rfl))
  | with_reducible refine Tw.rd_c ?_
  | with_reducible refine Tw.rd_op ?_
  | with_reducible refine Tw.rd_un ?_
  | with_reducible refine Tw.rd_I0 ?_
  | with_reducible refine Tw.rd_U ?_
  | with_reducible refine Tw.rd_test ?_
  | with_reducible refine Tw.rd_tB ?_
  | with_reducible refine Tw.rd_bl ?_
  | with_reducible refine Tw.rd_not ?_
  | with_reducible refine Tw.rd_and ?_
  | with_reducible refine Tw.rd_or ?_
  | with_reducible refine Tw.rd_andV ?_
  | with_reducible refine Tw.rd_orV ?_
  | with_reducible refine Tw.rd_notV ?_
  | with_reducible refine Tw.rd_tIf ?_
  | with_reducible refine Tw.rd_cb ?_
  | with_reducible refine Tw.rd_cons ?_
  | with_reducible refine Tw.rd_nil ?_
  | with_reducible refine Tw.rd_call ?_
  | with_reducible refine Tw.rd_tup ?_
  | with_reducible refine Tw.rd_lst ?_
  | with_reducible refine Tw.rd_gname ?_
  | with_reducible refine Tw.rd_chain ?_
  | with_reducible refine Tw.rd_lc ?_
  | with_reducible refine Tw.rd_il ?_
  | with_reducible refine Tw.rd_it ?_
  | with_reducible refine Tw.rd_ie ?_
  | with_reducible refine Tw.rd_ir ?_
  | with_reducible refine Tw.rd_ir2 ?_
  | with_reducible refine Tw.rd_ir3 ?_
  | with_reducible refine Tw.rd_dput ?_
  | with_reducible refine Tw.rd_dget2 ?_
  | with_reducible refine Tw.rd_items ?_
  | with_reducible refine Tw.rd_sl ?_
  | with_reducible refine Tw.rd_nopart ?_
  | with_reducible refine Tw.rd_part ?_
  | with_reducible refine Tw.rd_int ?_
  | with_reducible refine Tw.rd_revL ?_
  | with_reducible refine Tw.rd_bm ?_
  | with_reducible refine Tw.rd_bm0 ?_
  | with_reducible refine Tw.rd_lrg ?_
  | with_reducible refine Tw.rd_rg2 ?_
  | with_reducible refine Tw.rd_rg1 ?_
  | with_reducible refine Tw.rd_int2 ?_
  | with_reducible refine Tw.rd_augS ?_
  | with_reducible refine Tw.rd_ipI ?_
  | with_reducible refine Tw.rd_gsub ?_
  | with_reducible refine Tw.rd_gcons ?_
  | with_reducible refine Tw.rd_gnil ?_
  | with_reducible refine Tw.rd_par ?_
  | with_reducible refine Tw.rd_par2 ?_
  | with_reducible refine Tw.rd_mk ?_
  | with_reducible refine Tw.rd_md ?_
  | with_reducible refine Tw.rd_fld ?_
  | with_reducible refine Tw.rd_sfld ?_)
local macro_rules | `(tactic| walk_at "rd1") => `(tactic| first
  | walk_at "rd0"
  | with_reducible refine Tw.rd_if ?_
  | with_reducible refine Tw.rd_for ?_)
local macro_rules | `(tactic| walk_at "rs") => `(tactic| repeat walk_at "rd0")
local macro_rules | `(tactic| walk_at "rd") => `(tactic| repeat walk_at "rd1")
local macro_rules | `(tactic| walk_at "ini") => `(tactic| (dsimp only [L2.cxOf, L2.start, L2.Cx.wish, L2.Cx.nox, List.map, List.length_cons, List.length_nil, Nat.reduceAdd, Nat.reduceSub, List.replicate, List.cons_append, List.nil_append]; walk_at "rd"))
local macro_rules | `(tactic| walk_at "num") => `(tactic| first
  | exact (show (0 : Int) < _ from by decide)
  | exact (show (0 : Int) < _ ∧ _ < (1073741824 : Int) from by decide)
  | exact (show (0 : Int) ≤ _ ∧ _ ≤ (1000000 : Int) ∧ _ < 2 ^ 64 from by decide))
local macro_rules | `(tactic| walk_at "rn") => `(tactic| repeat (first | walk_at "rd1" | ((with_reducible refine Tw.rd_I ?c ?_); (case c => walk_at "num"))))
theorem sc_check_die : FnScope ["die", "one"] ["die"] (defScope s_check_die) := ⟨rfl, rfl, rfl, by decide +kernel, rfl, by decide +kernel, by decide +kernel⟩
section
variable {P : Program} {w : World} {K : PySem.W.Frag} {mg : Str → Option Value} {base : Heap}
theorem ok_check_die {f C : Addr} {fd : FuncData} (F : Fun K "check_die" "check_die" s_check_die f fd) (B : Bn mg) (x_BadDie : Exq K mg "BadDie" C) (m_MOST_SIDES : ∃ t, mg "MOST_SIDES" = some (.int 72 t)) (m_MOST_NUMBER : ∃ t, mg "MOST_NUMBER" = some (.int 100 t))
    (d_is_whole : Df P w K mg base CX0 1 "is_whole" ["thing"] (spIsWhole K)) : FnOk P w K mg base (L2.CX P w) 2 f fd ["die"] (spCheckDie K C) := by
  refine F.okX sc_check_die (fun vs H Q E h => ?_) (fun cdv A outer s H vs Q E hr h => ?_)
  · obtain ⟨x, rfl, _⟩ := h
    rfl
  · obtain ⟨x, rfl, h⟩ := h
    refine ⟨_, (pss_cons (ps_if (PW.pt (pw_or (pt_not (pt_val (pe_callB (r := rIsi K) call_isi (by rfl) B.n_isinstance boot_isinstance (pa_cons (pv 0) (pa_cons (pe_ty B.n_list boot_list) pa_nil))))) (pw_or (pt_not (pt_chain op_le op_le pe_int (pe_callB (r := rLen K) call_lenQ (by rfl) B.n_len boot_len (pa_cons (pv 0) pa_nil)) (pe_num m_MOST_SIDES))) (pw_or1 (pt_not (pt_val (pe_callB (r := rAll K) (cr_all rfl) (by rfl) B.n_all boot_all (pa_cons (pe_lc (own := [("one", 1)]) (g := gName 1) rfl sc_check_die.nd (pi_list (pv 0)) (blkOk_by (own := [("one", 1)]) (N := ["die", "one"]) (sc := defScope s_check_die) (by decide +kernel)) (fun _ _ _ _ _ => pg_name (i := 1) sc_check_die.nd rfl (Or.inl rfl)) (fun _ _ _ _ _ => pts_nil) (fun _ _ _ _ _ => (pe_df d_is_whole (hr.mono (by decide)) (by rfl) pass0 (pa_cons (pv 1) pa_nil)))) pa_nil)))))))) (pss_one (ps_raise rfl (takes_of rfl rfl rfl rfl) (pmk_own PySem.F.excBase_ValueError x_BadDie.x x_BadDie.g x_BadDie.kp (raises_own x_BadDie.b x_BadDie.t) rfl))) pss_nil)
    (pss_one (ps_if (PW.pt (pw_or (pt_not (pt_val (pe_callB (r := rAll K) (cr_all rfl) (by rfl) B.n_all boot_all (pa_cons (pe_lc (own := [("one", 1)]) (g := gName 1) rfl sc_check_die.nd (pi_list (pv 0)) (blkOk_by (own := [("one", 1)]) (N := ["die", "one"]) (sc := defScope s_check_die) (by decide +kernel)) (fun _ _ _ _ _ => pg_name (i := 1) sc_check_die.nd rfl (Or.inl rfl)) (fun _ _ _ _ _ => pts_nil) (fun _ _ _ _ _ => (pe_chain op_le op_le pe_int (pv 1) (pe_num m_MOST_NUMBER)))) pa_nil)))) (pw_or1 (pt_cmpR (op_neD hr.units) (pv 0) (pe_callB (r := rSortedI K) cr_sortedI (by rfl) B.n_sorted boot_sorted (pa_cons (pv 0) pa_nil)) (nomark _))))) (pss_one (ps_raise rfl (takes_of rfl rfl rfl rfl) (pmk_own PySem.F.excBase_ValueError x_BadDie.x x_BadDie.g x_BadDie.kp (raises_own x_BadDie.b x_BadDie.t) rfl))) pss_nil))), ?_⟩
    walk_at "ini"
    rcases h with ⟨⟨t, ty, e⟩, qe⟩ | ⟨a, xs, rfl, hS, hz, hk, q, qe⟩
    · refine rd_isi (.ty _) ty e ?_
      walk_at "rd"
      refine iteT (iteT ?_)
      exact qe _ (Same.refl _)
    · refine rd_isi (.ty _) (tyx_list hS) kit_ll ?_
      walk_at "rd"
      refine iteF ?_
      walk_at "rd"
      refine ⟨a, xs, rfl, .inl hS, ?_⟩
      walk_at "rd"
      have bad : ∀ c : Bool, dieB xs = c → c = false → ∀ H', Same H H' → E (.ref C) none H' := fun c h1 h2 => qe (h1.trans h2)
      by_cases c1 : 2 ≤ xs.length
      case neg =>
        rw [decide_eq_false (show ¬ ((2 : Int) ≤ xs.length) by omega)]
        refine iteF ?_
        walk_at "rd"
        refine iteT (iteT ?_)
        exact qe (by simp [dieB, c1]) _ (Same.refl _)
      rw [decide_eq_true (show (2 : Int) ≤ xs.length by omega)]
      refine iteT ?_
      walk_at "rd"
      by_cases c2 : xs.length ≤ 72
      case neg =>
        rw [decide_eq_false (show ¬ ((xs.length : Int) ≤ 72) by omega)]
        refine iteT (iteT ?_)
        exact qe (by simp [dieB, c2]) _ (Same.refl _)
      rw [decide_eq_true (show (xs.length : Int) ≤ 72 by omega)]
      refine iteF ?_
      walk_at "rd"
      refine ⟨a, rfl, ⟨_, hS⟩, fun R nR => ?_⟩
      refine lc_mapP (fun v : V => v) (fun v => V.bl (whV v)) xs nR (by rw [List.map_id']; exact hS) hz (fun z hz' H2 s2 Q' q' => ⟨rfl, ?_⟩) (fun H2 s2 h2 => ?_)
      · walk_at "rd"
        exact ⟨z, rfl, same_kn s2 (hk z hz'), q' _ (Same.refl _)⟩
      · walk_at "rd"
        refine rd_all (bs := xs.map whV) (.of (by rw [h2, List.map_map]; rfl)) ?_
        walk_at "rd"
        rw [List.all_map]
        cases c3 : xs.all (id ∘ whV) with
        | false =>
          refine iteT ?_
          exact qe (by
            have c3' : xs.all whV = false := c3
            simp [dieB, c3']) _ s2
        | true =>
          refine iteF ?_
          obtain ⟨ns, rfl⟩ : ∃ ns : List Int, xs = ns.map V.int := ⟨_, whole_ints xs c3⟩
          rw [dieB_int] at q qe
          rw [List.length_map] at c1 c2 hz
          have hS2 := same_l s2 hS
          walk_at "rd"
          refine ⟨a, rfl, ⟨_, hS2⟩, fun R2 nR2 => ?_⟩
          refine lc_mapP V.int (fun n : Int => V.bl (decide (1 ≤ n) && decide (n ≤ 100))) ns nR2 hS2 hz (fun z hz' H3 s3 Q' q' => ⟨rfl, ?_⟩) (fun H3 s3 h3 => ?_)
          · walk_at "rd"
            by_cases z1 : (1 : Int) ≤ z
            · rw [decide_eq_true z1] at q' ⊢
              refine iteT ?_
              walk_at "rd"
              exact q' _ (Same.refl _)
            · rw [decide_eq_false z1] at q' ⊢
              exact iteF (q' _ (Same.refl _))
          · walk_at "rd"
            refine rd_all (bs := ns.map fun n => decide (1 ≤ n) && decide (n ≤ 100)) (.of (by rw [h3, List.map_map]; rfl)) ?_
            walk_at "rd"
            rw [List.all_map]
            have s3' : Same H H3 := s2.trans s3
            cases c4 : ns.all (id ∘ fun n : Int => decide (1 ≤ n) && decide (n ≤ 100)) with
            | false =>
              refine iteT (iteT ?_)
              exact qe (by
                have c4' : ns.all (fun n : Int => decide (1 ≤ n) && decide (n ≤ 100)) = false := c4
                rw [dieI, c4']
                simp) _ s3'
            | true =>
              refine iteF ?_
              have c4' : ns.all (fun n : Int => decide (1 ≤ n) && decide (n ≤ 100)) = true := c4
              walk_at "rd"
              have hS3 := same_l s3 hS2
              refine rd_sortI hS3 (fun ns' p perm srt np => ?_)
              have s4 : Same H (upd H3 p (.lst (ns'.map V.int))) := s3'.trans (same_new np)
              refine rd_neD (dp_ints (same_l (same_new np) hS3)) (dp_ints (.of upd_same)) (shaped_of (sh_ints (n := 0) _)) (shaped_of (sh_ints (n := 0) _)) ?_
              rw [eqv_dI]
              walk_at "rd"
              by_cases c5 : ns.Pairwise (· ≤ ·)
              · have e : ns = ns' := pw_unique perm.symm c5 srt
                rw [decide_eq_true e]
                refine iteF ?_
                walk_at "rd"
                exact q (by simp [dieI, c1, c2, c4', c5]) _ s4
              · have e : ¬ ns = ns' := fun e => c5 (by rw [e]; exact srt)
                rw [decide_eq_false e]
                refine iteT ?_
                exact qe (by simp [dieI, c5]) _ s4
end

end Tw
set_option Elab.async false
set_option linter.all false
set_option maxRecDepth 100000
set_option maxHeartbeats 4000000
namespace Tw
open PySem PySem.Spec PyProof.Rows L2
local macro_rules | `(tactic| walk_at "rd0") => `(tactic| first
  | with_reducible refine Tw.rd_seq ?_
  | with_reducible refine Tw.rd_asg ?_
  | with_reducible refine Tw.rd_drop ?_
  | with_reducible refine Tw.rd_ret ?_
  | with_reducible refine Tw.rd_retN ?_
  | with_reducible refine Tw.rd_next ?_
  | ((with_reducible refine Tw.rd_var (v := ?vv) ?hv ?_); (case hv => exact rfl))
  | with_reducible refine Tw.rd_c ?_
  | with_reducible refine Tw.rd_op ?_
  | with_reducible refine Tw.rd_un ?_
  | with_reducible refine Tw.rd_I0 ?_
  | with_reducible refine Tw.rd_U ?_
  | with_reducible refine Tw.rd_test ?_
  | with_reducible refine Tw.rd_tB ?_
  | with_reducible refine Tw.rd_bl ?_
  | with_reducible refine Tw.rd_not ?_
  | with_reducible refine Tw.rd_and ?_
  | with_reducible refine Tw.rd_or ?_
  | with_reducible refine Tw.rd_andV ?_
  | with_reducible refine Tw.rd_orV ?_
  | with_reducible refine Tw.rd_notV ?_
  | with_reducible refine Tw.rd_tIf ?_
  | with_reducible refine Tw.rd_cb ?_
  | with_reducible refine Tw.rd_cons ?_
  | with_reducible refine Tw.rd_nil ?_
  | with_reducible refine Tw.rd_call ?_
  | with_reducible refine Tw.rd_tup ?_
  | with_reducible refine Tw.rd_lst ?_
  | with_reducible refine Tw.rd_gname ?_
  | with_reducible refine Tw.rd_chain ?_
  | with_reducible refine Tw.rd_lc ?_
  | with_reducible refine Tw.rd_il ?_
  | with_reducible refine Tw.rd_it ?_
  | with_reducible refine Tw.rd_ie ?_
  | with_reducible refine Tw.rd_ir ?_
  | with_reducible refine Tw.rd_ir2 ?_
  | with_reducible refine Tw.rd_ir3 ?_
  | with_reducible refine Tw.rd_dput ?_
  | with_reducible refine Tw.rd_dget2 ?_
  | with_reducible refine Tw.rd_items ?_
  | with_reducible refine Tw.rd_sl ?_
  | with_reducible refine Tw.rd_nopart ?_
  | with_reducible refine Tw.rd_part ?_
  | with_reducible refine Tw.rd_int ?_
  | with_reducible refine Tw.rd_revL ?_
  | with_reducible refine Tw.rd_bm ?_
  | with_reducible refine Tw.rd_bm0 ?_
  | with_reducible refine Tw.rd_lrg ?_
  | with_reducible refine Tw.rd_rg2 ?_
  | with_reducible refine Tw.rd_rg1 ?_
  | with_reducible refine Tw.rd_int2 ?_
  | with_reducible refine Tw.rd_augS ?_
  | with_reducible refine Tw.rd_ipI ?_
  | with_reducible refine Tw.rd_gsub ?_
  | with_reducible refine Tw.rd_gcons ?_
  | with_reducible refine Tw.rd_gnil ?_
  | with_reducible refine Tw.rd_par ?_
  | with_reducible refine Tw.rd_par2 ?_
  | with_reducible refine Tw.rd_mk ?_
  | with_reducible refine Tw.rd_md ?_
  | with_reducible refine Tw.rd_fld ?_
  | with_reducible refine Tw.rd_sfld ?_)
local macro_rules | `(tactic| walk_at "rd1") => `(tactic| first
  | walk_at "rd0"
  | with_reducible refine Tw.rd_if ?_
  | with_reducible refine Tw.rd_for ?_)
local macro_rules | `(tactic| walk_at "rs") => `(tactic| repeat walk_at "rd0")
local macro_rules | `(tactic| walk_at "rd") => `(tactic| repeat walk_at "rd1")
local macro_rules | `(tactic| walk_at "ini") => `(tactic| (dsimp only [L2.cxOf, L2.start, L2.Cx.wish, L2.Cx.nox, List.map, List.length_cons, List.length_nil, Nat.reduceAdd, Nat.reduceSub, List.replicate, List.cons_append, List.nil_append]; walk_at "rd"))
local macro_rules | `(tactic| walk_at "num") => `(tactic| first
  | exact (show (0 : Int) < _ from by decide)
  | exact (show (0 : Int) < _ ∧ _ < (1073741824 : Int) from by decide)
  | exact (show (0 : Int) ≤ _ ∧ _ ≤ (1000000 : Int) ∧ _ < 2 ^ 64 from by decide))
local macro_rules | `(tactic| walk_at "rn") => `(tactic| repeat (first | walk_at "rd1" | ((with_reducible refine Tw.rd_I ?c ?_); (case c => walk_at "num"))))
theorem sc_counts_of : FnScope ["one", "other", "found", "mine", "theirs"] ["one", "other"] (defScope s_counts_of) := ⟨rfl, rfl, rfl, by decide +kernel, rfl, by decide +kernel, by decide +kernel⟩
section
variable {P : Program} {w : World} {K : PySem.W.Frag} {mg : Str → Option Value} {base : Heap}
theorem ok_counts_of {f : Addr} {fd : FuncData} (F : Fun K "counts_of" "counts_of" s_counts_of f fd) : FnOk P w K mg base CX0 1 f fd ["one", "other"] (spCounts K) := by
  refine F.ok sc_counts_of (fun vs H Q E h => ?_) (fun cdv A outer s H vs Q E hr h => ?_)
  · obtain ⟨a, b, one, other, rfl, _⟩ := h
    rfl
  · obtain ⟨a, b, one, other, rfl, h1, h2, l1, l2, q⟩ := h
    refine ⟨_, (pss_cons (ps_set (i := 2) sc_counts_of.nd rfl (Or.inl rfl) pe_dnewK)
    (pss_cons (ps_for PassesOwn.never rfl (pi_list (pv 0)) (pg_name (i := 3) sc_counts_of.nd rfl (Or.inl rfl))
      (pss_one (ps_for PassesOwn.never rfl (pi_list (pv 1)) (pg_name (i := 4) sc_counts_of.nd rfl (Or.inl rfl))
      (pss_one (ps_dput (hu_of hr) (pv 2) (pe_op op_add (pv 3) (pv 4)) (pe_op op_add (pe_dget2 (hu_of hr) (pv 2) (pe_op op_add (pv 3) (pv 4)) pe_int ⟨rfl, rfl, rfl, rfl⟩) pe_int) rfl)))))
    (pss_one (ps_ret (pv 2))))), ?_⟩
    walk_at "ini"
    refine rd_dnew fun d nd => ?_
    walk_at "rd"
    have s0 : Same H (upd H d (.dK [])) := same_new nd
    refine ⟨a, rfl, ⟨_, same_l s0 h1⟩, ?_⟩
    refine for_listP V.int one (fun dn σ H1 => ∃ y3 y4, σ = [some (.ref a), some (.ref b), some (.ref d), y3, y4] ∧ Same H H1 ∧ dn.length ≤ one.length ∧ H1 d = some (.dK (kvs (tally (allS dn other)))))
      ⟨none, none, rfl, s0, Nat.zero_le _, upd_same⟩ (fun dn σ H1 ⟨_, _, _, s1, _⟩ => same_l s1 h1) (fun dn m rs σ H1 e ⟨y3, y4, eσ, s1, hl, hd⟩ => ?_) (fun σ H1 ⟨y3, y4, eσ, s1, _, hd⟩ => ?_)
    · subst eσ
      have hl' : (dn ++ [m]).length ≤ one.length := by
        rw [e]
        simp
      walk_at "rd"
      refine ⟨b, rfl, ⟨_, same_l s1 h2⟩, ?_⟩
      refine for_listP V.int other (fun dn2 σ H2 => ∃ y4, σ = [some (.ref a), some (.ref b), some (.ref d), some (.int m), y4] ∧ Same H H2 ∧ dn2.length ≤ other.length ∧ H2 d = some (.dK (kvs (tallyF (tally (allS dn other)) (dn2.map fun t => m + t)))))
        ⟨y4, rfl, s1, Nat.zero_le _, hd⟩ (fun dn2 σ H2 ⟨_, _, s2, _⟩ => same_l s2 h2) (fun dn2 t rs2 σ H2 e2 ⟨y4, eσ, s2, hl2, hd2⟩ => ?_) (fun σ H2 ⟨y4, eσ, s2, _, hd2⟩ => ?_)
      · subst eσ
        walk_at "rd"
        refine ⟨d, rfl, .inl ⟨_, .inl hd2⟩, ?_⟩
        walk_at "rd"
        refine ⟨_, DGet.k (k := Sum.inl (m + t)) hd2, ?_⟩
        rw [getD_kvs]
        walk_at "rd"
        refine ⟨d, _, rfl, DPut.k (k := Sum.inl (m + t)) hd2 ?_, ?_⟩
        · have z1 := tallyF_len (dn2.map fun t => m + t) (tally (allS dn other))
          have z2 := tallyF_len (allS dn other) []
          rw [allS_len] at z2
          have z3 : dn.length * other.length ≤ 100 * 100 := Nat.mul_le_mul (by omega) l2
          have z4 : (tally (allS dn other)).length ≤ 0 + dn.length * other.length := z2
          rw [List.length_map] at z1
          have z5 : sizeLine = 16777216 := sizeLine_eq
          unfold kvs
          rw [List.length_map, z5]
          omega
        · refine ⟨some (.int t), rfl, same_mut s2 nd, ?_, ?_⟩
          · rw [e2]
            simp
          · rw [upd_same, put_kvs, List.map_append, tallyF_app]
            rfl
      · subst eσ
        refine ⟨some (.int m), y4, rfl, s2, hl', ?_⟩
        rw [hd2, allS_app, allS_one]
        unfold tally
        rw [tallyF_app]
    · subst eσ
      walk_at "rd"
      exact q H1 d s1 nd hd
end


end Tw
set_option Elab.async false
set_option linter.all false
set_option maxRecDepth 100000
set_option maxHeartbeats 4000000
namespace Tw
open PySem PySem.Spec PyProof.Rows L2
local macro_rules | `(tactic| walk_at "rd0") => `(tactic| first
  | with_reducible refine Tw.rd_seq ?_
  | with_reducible refine Tw.rd_asg ?_
  | with_reducible refine Tw.rd_drop ?_
  | with_reducible refine Tw.rd_ret ?_
  | with_reducible refine Tw.rd_retN ?_
  | with_reducible refine Tw.rd_next ?_
  | ((with_reducible refine Tw.rd_var (v := ?vv) ?hv ?_); (case hv => exact rfl))
  | with_reducible refine Tw.rd_c ?_
  | with_reducible refine Tw.rd_op ?_
  | with_reducible refine Tw.rd_un ?_
  | with_reducible refine Tw.rd_I0 ?_
  | with_reducible refine Tw.rd_U ?_
  | with_reducible refine Tw.rd_test ?_
  | with_reducible refine Tw.rd_tB ?_
  | with_reducible refine Tw.rd_bl ?_
  | with_reducible refine Tw.rd_not ?_
  | with_reducible refine Tw.rd_and ?_
  | with_reducible refine Tw.rd_or ?_
  | with_reducible refine Tw.rd_andV ?_
  | with_reducible refine Tw.rd_orV ?_
  | with_reducible refine Tw.rd_notV ?_
  | with_reducible refine Tw.rd_tIf ?_
  | with_reducible refine Tw.rd_cb ?_
  | with_reducible refine Tw.rd_cons ?_
  | with_reducible refine Tw.rd_nil ?_
  | with_reducible refine Tw.rd_call ?_
  | with_reducible refine Tw.rd_tup ?_
  | with_reducible refine Tw.rd_lst ?_
  | with_reducible refine Tw.rd_gname ?_
  | with_reducible refine Tw.rd_chain ?_
  | with_reducible refine Tw.rd_lc ?_
  | with_reducible refine Tw.rd_il ?_
  | with_reducible refine Tw.rd_it ?_
  | with_reducible refine Tw.rd_ie ?_
  | with_reducible refine Tw.rd_ir ?_
  | with_reducible refine Tw.rd_ir2 ?_
  | with_reducible refine Tw.rd_ir3 ?_
  | with_reducible refine Tw.rd_dput ?_
  | with_reducible refine Tw.rd_dget2 ?_
  | with_reducible refine Tw.rd_items ?_
  | with_reducible refine Tw.rd_sl ?_
  | with_reducible refine Tw.rd_nopart ?_
  | with_reducible refine Tw.rd_part ?_
  | with_reducible refine Tw.rd_int ?_
  | with_reducible refine Tw.rd_revL ?_
  | with_reducible refine Tw.rd_bm ?_
  | with_reducible refine Tw.rd_bm0 ?_
  | with_reducible refine Tw.rd_lrg ?_
  | with_reducible refine Tw.rd_rg2 ?_
  | with_reducible refine Tw.rd_rg1 ?_
  | with_reducible refine Tw.rd_int2 ?_
  | with_reducible refine Tw.rd_augS ?_
  | with_reducible refine Tw.rd_ipI ?_
  | with_reducible refine Tw.rd_gsub ?_
  | with_reducible refine Tw.rd_gcons ?_
  | with_reducible refine Tw.rd_gnil ?_
  | with_reducible refine Tw.rd_par ?_
  | with_reducible refine Tw.rd_par2 ?_
  | with_reducible refine Tw.rd_mk ?_
  | with_reducible refine Tw.rd_md ?_
  | with_reducible refine Tw.rd_fld ?_
  | with_reducible refine Tw.rd_sfld ?_)
local macro_rules | `(tactic| walk_at "rd1") => `(tactic| first
  | walk_at "rd0"
  | with_reducible refine Tw.rd_if ?_
  | with_reducible refine Tw.rd_for ?_)
local macro_rules | `(tactic| walk_at "rs") => `(tactic| repeat walk_at "rd0")
local macro_rules | `(tactic| walk_at "rd") => `(tactic| repeat walk_at "rd1")
local macro_rules | `(tactic| walk_at "ini") => `(tactic| (dsimp only [L2.cxOf, L2.start, L2.Cx.wish, L2.Cx.nox, List.map, List.length_cons, List.length_nil, Nat.reduceAdd, Nat.reduceSub, List.replicate, List.cons_append, List.nil_append]; walk_at "rd"))
local macro_rules | `(tactic| walk_at "num") => `(tactic| first
  | exact (show (0 : Int) < _ from by decide)
  | exact (show (0 : Int) < _ ∧ _ < (1073741824 : Int) from by decide)
  | exact (show (0 : Int) ≤ _ ∧ _ ≤ (1000000 : Int) ∧ _ < 2 ^ 64 from by decide))
local macro_rules | `(tactic| walk_at "rn") => `(tactic| repeat (first | walk_at "rd1" | ((with_reducible refine Tw.rd_I ?c ?_); (case c => walk_at "num"))))
theorem sc_how_often : FnScope ["first", "second", "total"] ["first", "second", "total"] (defScope s_how_often) := ⟨rfl, rfl, rfl, by decide +kernel, rfl, by decide +kernel, by decide +kernel⟩
section
variable {P : Program} {w : World} {K : PySem.W.Frag} {mg : Str → Option Value} {base : Heap}
theorem ok_how_often {f : Addr} {fd : FuncData} (F : Fun K "how_often" "how_often" s_how_often f fd) (B : Bn mg) : FnOk P w K mg base CX0 1 f fd ["first", "second", "total"] spHow := by
  refine F.ok sc_how_often (fun vs H Q E h => ?_) (fun cdv A outer s H vs Q E hr h => ?_)
  · obtain ⟨a, b, c, rfl, _⟩ := h
    rfl
  · obtain ⟨a, b, c, rfl, q⟩ := h
    refine ⟨_, (pss_one (ps_ret (pe_callB (call_max2 rfl) (by rfl) B.n_max boot_max (pa_cons pe_int (pa_cons (pe_callB (call_min4 rfl) (by rfl) B.n_min boot_min (pa_cons (pe_op op_sub (pv 2) pe_int) (pa_cons (pe_op op_sub (pe_op op_add (pe_op op_add (pv 0) (pv 1)) pe_int) (pv 2)) (pa_cons (pv 0) (pa_cons (pv 1) pa_nil))))) pa_nil))))), ?_⟩
    walk_at "ini"
    refine ⟨_, _, _, _, rfl, ?_⟩
    walk_at "rd"
    exact ⟨_, _, rfl, q⟩
end

end Tw
set_option Elab.async false
set_option linter.all false
set_option maxRecDepth 100000
set_option maxHeartbeats 4000000
namespace Tw
open PySem PySem.Spec PyProof.Rows L2
local macro_rules | `(tactic| walk_at "rd0") => `(tactic| first
  | with_reducible refine Tw.rd_seq ?_
  | with_reducible refine Tw.rd_asg ?_
  | with_reducible refine Tw.rd_drop ?_
  | with_reducible refine Tw.rd_ret ?_
  | with_reducible refine Tw.rd_retN ?_
  | with_reducible refine Tw.rd_next ?_
  | ((with_reducible refine Tw.rd_var (v := ?vv) ?hv ?_); (case hv => exact rfl))
  | with_reducible refine Tw.rd_c ?_
  | with_reducible refine Tw.rd_op ?_
  | with_reducible refine Tw.rd_un ?_
  | with_reducible refine Tw.rd_I0 ?_
  | with_reducible refine Tw.rd_U ?_
  | with_reducible refine Tw.rd_test ?_
  | with_reducible refine Tw.rd_tB ?_
  | with_reducible refine Tw.rd_bl ?_
  | with_reducible refine Tw.rd_not ?_
  | with_reducible refine Tw.rd_and ?_
  | with_reducible refine Tw.rd_or ?_
  | with_reducible refine Tw.rd_andV ?_
  | with_reducible refine Tw.rd_orV ?_
  | with_reducible refine Tw.rd_notV ?_
  | with_reducible refine Tw.rd_tIf ?_
  | with_reducible refine Tw.rd_cb ?_
  | with_reducible refine Tw.rd_cons ?_
  | with_reducible refine Tw.rd_nil ?_
  | with_reducible refine Tw.rd_call ?_
  | with_reducible refine Tw.rd_tup ?_
  | with_reducible refine Tw.rd_lst ?_
  | with_reducible refine Tw.rd_gname ?_
  | with_reducible refine Tw.rd_chain ?_
  | with_reducible refine Tw.rd_lc ?_
  | with_reducible refine Tw.rd_il ?_
  | with_reducible refine Tw.rd_it ?_
  | with_reducible refine Tw.rd_ie ?_
  | with_reducible refine Tw.rd_ir ?_
  | with_reducible refine Tw.rd_ir2 ?_
  | with_reducible refine Tw.rd_ir3 ?_
  | with_reducible refine Tw.rd_dput ?_
  | with_reducible refine Tw.rd_dget2 ?_
  | with_reducible refine Tw.rd_items ?_
  | with_reducible refine Tw.rd_sl ?_
  | with_reducible refine Tw.rd_nopart ?_
  | with_reducible refine Tw.rd_part ?_
  | with_reducible refine Tw.rd_int ?_
  | with_reducible refine Tw.rd_revL ?_
  | with_reducible refine Tw.rd_bm ?_
  | with_reducible refine Tw.rd_bm0 ?_
  | with_reducible refine Tw.rd_lrg ?_
  | with_reducible refine Tw.rd_rg2 ?_
  | with_reducible refine Tw.rd_rg1 ?_
  | with_reducible refine Tw.rd_int2 ?_
  | with_reducible refine Tw.rd_augS ?_
  | with_reducible refine Tw.rd_ipI ?_
  | with_reducible refine Tw.rd_gsub ?_
  | with_reducible refine Tw.rd_gcons ?_
  | with_reducible refine Tw.rd_gnil ?_
  | with_reducible refine Tw.rd_par ?_
  | with_reducible refine Tw.rd_par2 ?_
  | with_reducible refine Tw.rd_mk ?_
  | with_reducible refine Tw.rd_md ?_
  | with_reducible refine Tw.rd_fld ?_
  | with_reducible refine Tw.rd_sfld ?_)
local macro_rules | `(tactic| walk_at "rd1") => `(tactic| first
  | walk_at "rd0"
  | with_reducible refine Tw.rd_if ?_
  | with_reducible refine Tw.rd_for ?_)
local macro_rules | `(tactic| walk_at "rs") => `(tactic| repeat walk_at "rd0")
local macro_rules | `(tactic| walk_at "rd") => `(tactic| repeat walk_at "rd1")
local macro_rules | `(tactic| walk_at "ini") => `(tactic| (dsimp only [L2.cxOf, L2.start, L2.Cx.wish, L2.Cx.nox, List.map, List.length_cons, List.length_nil, Nat.reduceAdd, Nat.reduceSub, List.replicate, List.cons_append, List.nil_append]; walk_at "rd"))
local macro_rules | `(tactic| walk_at "num") => `(tactic| first
  | exact (show (0 : Int) < _ from by decide)
  | exact (show (0 : Int) < _ ∧ _ < (1073741824 : Int) from by decide)
  | exact (show (0 : Int) ≤ _ ∧ _ ≤ (1000000 : Int) ∧ _ < 2 ^ 64 from by decide))
local macro_rules | `(tactic| walk_at "rn") => `(tactic| repeat (first | walk_at "rd1" | ((with_reducible refine Tw.rd_I ?c ?_); (case c => walk_at "num"))))
theorem sc_first_off : FnScope ["first", "second", "one", "other", "found", "plain_sums", "total"] ["first", "second", "one", "other"] (defScope s_first_off) := ⟨rfl, rfl, rfl, by decide +kernel, rfl, by decide +kernel, by decide +kernel⟩
section
variable {P : Program} {w : World} {K : PySem.W.Frag} {mg : Str → Option Value} {base : Heap}
theorem ok_first_off {f : Addr} {fd : FuncData} (F : Fun K "first_off" "first_off" s_first_off f fd) (B : Bn mg) (d_counts_of : Df P w K mg base CX0 1 "counts_of" ["one", "other"] (spCounts K)) (d_how_often : Df P w K mg base CX0 1 "how_often" ["first", "second", "total"] spHow) :
    FnOk P w K mg base CX0 2 f fd ["first", "second", "one", "other"] (spFirstOff K) := by
  refine F.ok sc_first_off (fun vs H Q E h => ?_) (fun cdv A outer s H vs Q E hr h => ?_)
  · obtain ⟨_, _, _, _, _, _, rfl, _⟩ := h
    rfl
  · obtain ⟨f, s, a, b, one, other, rfl, hf, hs, h1, h2, l1, l2, q⟩ := h
    refine ⟨_, (pss_cons (ps_set (i := 4) sc_first_off.nd rfl (Or.inl rfl) (pe_df d_counts_of (hr.mono (by decide)) (by rfl) pass0 (pa_cons (pv 2) (pa_cons (pv 3) pa_nil))))
    (pss_cons (ps_set (i := 5) sc_first_off.nd rfl (Or.inl rfl) (pe_listRg rfl (by rfl) B.n_list (prg_2 (by rfl) B.n_range pe_int (pe_op op_add (pe_op op_add (pv 0) (pv 1)) pe_int))))
    (pss_cons (ps_for PassesOwn.never rfl (pi_list (pe_callB (r := rSortedI K) cr_sortedI (by rfl) B.n_sorted boot_sorted (pa_cons (pe_op op_cat (pe_callTy (r := rListD) (call_list_dK rfl) (by rfl) B.n_list boot_list (pa_cons (pv 4) pa_nil)) (pv 5)) pa_nil))) (pg_name (i := 6) sc_first_off.nd rfl (Or.inl rfl))
      (pss_one (ps_if (pt_cmpR op_ne (pe_dget2 (hu_of hr) (pv 4) (pv 6) pe_int ⟨rfl, rfl, rfl, rfl⟩) (pe_df d_how_often (hr.mono (by decide)) (by rfl) pass0 (pa_cons (pv 0) (pa_cons (pv 1) (pa_cons (pv 6) pa_nil)))) (nomark _)) (pss_one (ps_ret (pv 6))) pss_nil)))
    (pss_one (ps_ret pe_int))))), ?_⟩
    walk_at "ini"
    refine ⟨a, b, one, other, rfl, h1, h2, l1, l2, fun H1 d s1 nd hd => ?_⟩
    walk_at "rd"
    have hf1 := hf.1
    have hf2 := hf.2
    have hs1 := hs.1
    have hs2 := hs.2
    refine ⟨.of_le (by decide) (by omega) (by decide) (by omega), fun r nr => ?_⟩
    have hd2 := keep_new (o := .lst (rgV 2 (f + s + 1))) nr hd
    have hr2 := upd_same (H := H1) (a := r) (o := .lst (rgV 2 (f + s + 1)))
    have s2 := same_new (o := .lst (rgV 2 (f + s + 1))) nr
    revert hd2 hr2 s2
    generalize upd H1 r (.lst (rgV 2 (f + s + 1))) = H2
    intro hd2 hr2 s2
    walk_at "rd"
    refine ⟨d, _, rfl, hd2, fun k nk => ?_⟩
    walk_at "rd"
    have ek : ((kvs (tally (allS one other))).map fun kv => kV kv.1) = ((tally (allS one other)).map (·.1)).map V.int := by
      unfold kvs
      rw [List.map_map, List.map_map]
      rfl
    rw [ek, rgV_rgI] at *
    refine rd_cat upd_same (keep_new nk hr2) ?_ (fun c nc => ?_)
    · have z1 := tallyF_len (allS one other) []
      rw [allS_len] at z1
      have z2 : one.length * other.length ≤ 100 * 100 := Nat.mul_le_mul l1 l2
      have z5 : (tally (allS one other)).length ≤ 0 + one.length * other.length := z1
      simp only [rgI, List.length_map, List.length_range]
      rw [sizeLine_eq]
      omega
    walk_at "rd"
    rw [← List.map_append]
    refine rd_sortI (.of upd_same) (fun L p perm srt np => ?_)
    have eL : L = foL f s one other := pw_isort perm srt
    subst eL
    have s3 := (same_new (o := .lst (((tally (allS one other)).map (·.1)).map V.int)) nk).trans ((same_new (o := .lst (((tally (allS one other)).map (·.1) ++ rgI 2 (f + s + 1)).map V.int)) nc).trans (same_new (o := .lst ((foL f s one other).map V.int)) np))
    refine ⟨p, rfl, ⟨_, .of upd_same⟩, ?_⟩
    have hp3 := upd_same (H := upd (upd H2 k (.lst (((tally (allS one other)).map (·.1)).map V.int))) c (.lst (((tally (allS one other)).map (·.1) ++ rgI 2 (f + s + 1)).map V.int))) (a := p) (o := .lst ((foL f s one other).map V.int))
    revert s3 hp3
    generalize upd (upd (upd H2 k (.lst (((tally (allS one other)).map (·.1)).map V.int))) c (.lst (((tally (allS one other)).map (·.1) ++ rgI 2 (f + s + 1)).map V.int))) p (.lst ((foL f s one other).map V.int)) = H3
    intro s3 hp3
    have hd3 := s3 _ _ hd2
    have s03 : Same H H3 := s1.trans (s2.trans s3)
    refine for_listP V.int (foL f s one other) (fun dn σ H4 => H4 = H3 ∧ (∀ t ∈ dn, getN (tally (allS one other)) t = hoM f s t) ∧ ∃ y, σ = [some (.int f), some (.int s), some (.ref a), some (.ref b), some (.ref d), some (.ref r), y])
      ⟨rfl, (fun t ht => nomatch ht), none, rfl⟩ (fun dn σ H4 ⟨e, _⟩ => by rw [e]; exact .of hp3) (fun dn t rs σ H4 e ⟨eH, hdn, y, eσ⟩ => ?_) (fun σ H4 ⟨eH, hdn, y, eσ⟩ => ?_)
    · subst eσ eH
      walk_at "rd"
      refine ⟨d, rfl, .inl ⟨_, .inl hd3⟩, ?_⟩
      walk_at "rd"
      refine ⟨_, DGet.k (k := Sum.inl t) hd3, ?_⟩
      rw [getD_kvs]
      walk_at "rd"
      refine ⟨f, s, t, rfl, ?_⟩
      walk_at "rd"
      refine ⟨rfl, ?_⟩
      walk_at "rd"
      by_cases c : getN (tally (allS one other)) t = hoM f s t
      · rw [decide_eq_true (by rw [c])]
        refine iteF ?_
        refine ⟨rfl, fun t' ht' => ?_, _, rfl⟩
        rcases List.mem_append.mp ht' with ht' | ht'
        · exact hdn t' ht'
        · rw [List.mem_singleton.mp ht']
          exact c
      · rw [decide_eq_false (fun z => c (V.int.inj z))]
        refine iteT ?_
        walk_at "rd"
        have ef : foM f s one other = t := by
          unfold foM
          rw [e, List.find?_append, List.find?_eq_none.mpr (fun x hx => by simp [hdn x hx]), List.find?_cons, decide_eq_true c]
          rfl
        rw [← ef]
        exact q _ s03
    · subst eσ eH
      walk_at "rd"
      have ef : foM f s one other = 0 := by
        unfold foM
        rw [List.find?_eq_none.mpr (fun x hx => by simp [hdn x hx])]
        rfl
      rw [← ef]
      exact q _ s03
end

end Tw
set_option Elab.async false
set_option linter.all false
set_option maxRecDepth 100000
set_option maxHeartbeats 4000000
namespace Tw
open PySem PySem.Spec PyProof.Rows L2
local macro_rules | `(tactic| walk_at "rd0") => `(tactic| first
  | with_reducible refine Tw.rd_seq ?_
  | with_reducible refine Tw.rd_asg ?_
  | with_reducible refine Tw.rd_drop ?_
  | with_reducible refine Tw.rd_ret ?_
  | with_reducible refine Tw.rd_retN ?_
  | with_reducible refine Tw.rd_next ?_
  | ((with_reducible refine Tw.rd_var (v := ?vv) ?hv ?_); (case hv => exact rfl))
  | with_reducible refine Tw.rd_c ?_
  | with_reducible refine Tw.rd_op ?_
  | with_reducible refine Tw.rd_un ?_
  | with_reducible refine Tw.rd_I0 ?_
  | with_reducible refine Tw.rd_U ?_
  | with_reducible refine Tw.rd_test ?_
  | with_reducible refine Tw.rd_tB ?_
  | with_reducible refine Tw.rd_bl ?_
  | with_reducible refine Tw.rd_not ?_
  | with_reducible refine Tw.rd_and ?_
  | with_reducible refine Tw.rd_or ?_
  | with_reducible refine Tw.rd_andV ?_
  | with_reducible refine Tw.rd_orV ?_
  | with_reducible refine Tw.rd_notV ?_
  | with_reducible refine Tw.rd_tIf ?_
  | with_reducible refine Tw.rd_cb ?_
  | with_reducible refine Tw.rd_cons ?_
  | with_reducible refine Tw.rd_nil ?_
  | with_reducible refine Tw.rd_call ?_
  | with_reducible refine Tw.rd_tup ?_
  | with_reducible refine Tw.rd_lst ?_
  | with_reducible refine Tw.rd_gname ?_
  | with_reducible refine Tw.rd_chain ?_
  | with_reducible refine Tw.rd_lc ?_
  | with_reducible refine Tw.rd_il ?_
  | with_reducible refine Tw.rd_it ?_
  | with_reducible refine Tw.rd_ie ?_
  | with_reducible refine Tw.rd_ir ?_
  | with_reducible refine Tw.rd_ir2 ?_
  | with_reducible refine Tw.rd_ir3 ?_
  | with_reducible refine Tw.rd_dput ?_
  | with_reducible refine Tw.rd_dget2 ?_
  | with_reducible refine Tw.rd_items ?_
  | with_reducible refine Tw.rd_sl ?_
  | with_reducible refine Tw.rd_nopart ?_
  | with_reducible refine Tw.rd_part ?_
  | with_reducible refine Tw.rd_int ?_
  | with_reducible refine Tw.rd_revL ?_
  | with_reducible refine Tw.rd_bm ?_
  | with_reducible refine Tw.rd_bm0 ?_
  | with_reducible refine Tw.rd_lrg ?_
  | with_reducible refine Tw.rd_rg2 ?_
  | with_reducible refine Tw.rd_rg1 ?_
  | with_reducible refine Tw.rd_int2 ?_
  | with_reducible refine Tw.rd_augS ?_
  | with_reducible refine Tw.rd_ipI ?_
  | with_reducible refine Tw.rd_gsub ?_
  | with_reducible refine Tw.rd_gcons ?_
  | with_reducible refine Tw.rd_gnil ?_
  | with_reducible refine Tw.rd_par ?_
  | with_reducible refine Tw.rd_par2 ?_
  | with_reducible refine Tw.rd_mk ?_
  | with_reducible refine Tw.rd_md ?_
  | with_reducible refine Tw.rd_fld ?_
  | with_reducible refine Tw.rd_sfld ?_)
local macro_rules | `(tactic| walk_at "rd1") => `(tactic| first
  | walk_at "rd0"
  | with_reducible refine Tw.rd_if ?_
  | with_reducible refine Tw.rd_for ?_)
local macro_rules | `(tactic| walk_at "rs") => `(tactic| repeat walk_at "rd0")
local macro_rules | `(tactic| walk_at "rd") => `(tactic| repeat walk_at "rd1")
local macro_rules | `(tactic| walk_at "ini") => `(tactic| (dsimp only [L2.cxOf, L2.start, L2.Cx.wish, L2.Cx.nox, List.map, List.length_cons, List.length_nil, Nat.reduceAdd, Nat.reduceSub, List.replicate, List.cons_append, List.nil_append]; walk_at "rd"))
local macro_rules | `(tactic| walk_at "num") => `(tactic| first
  | exact (show (0 : Int) < _ from by decide)
  | exact (show (0 : Int) < _ ∧ _ < (1073741824 : Int) from by decide)
  | exact (show (0 : Int) ≤ _ ∧ _ ≤ (1000000 : Int) ∧ _ < 2 ^ 64 from by decide))
local macro_rules | `(tactic| walk_at "rn") => `(tactic| repeat (first | walk_at "rd1" | ((with_reducible refine Tw.rd_I ?c ?_); (case c => walk_at "num"))))
theorem sc_Twin_shows : FnScope ["self", "first", "second", "one", "other"] ["self", "first", "second", "one", "other"] (defScope s_Twin_shows) := ⟨rfl, rfl, rfl, by decide +kernel, rfl, by decide +kernel, by decide +kernel⟩
theorem sc_Off___init__ : FnScope ["self", "total"] ["self", "total"] (defScope s_Off___init__) := ⟨rfl, rfl, rfl, by decide +kernel, rfl, by decide +kernel, by decide +kernel⟩
theorem sc_Off_shows : FnScope ["self", "first", "second", "one", "other"] ["self", "first", "second", "one", "other"] (defScope s_Off_shows) := ⟨rfl, rfl, rfl, by decide +kernel, rfl, by decide +kernel, by decide +kernel⟩
section
variable {P : Program} {w : World} {K : PySem.W.Frag} {mg : Str → Option Value} {base : Heap}
theorem ok_Twin_shows {f : Addr} {fd : FuncData} (F : Fun K "shows" "Twin.shows" s_Twin_shows f fd) (d_first_off : Df P w K mg base CX0 2 "first_off" ["first", "second", "one", "other"] (spFirstOff K)) :
    FnOk P w K mg base CX0 3 f fd ["self", "first", "second", "one", "other"] (spTShows K) := by
  refine F.ok sc_Twin_shows (fun vs H Q E h => ?_) (fun cdv A outer s H vs Q E hr h => ?_)
  · obtain ⟨_, _, _, _, _, _, _, rfl, _⟩ := h
    rfl
  · obtain ⟨x, f, s, a, b, one, other, rfl, hf, hs, h1, h2, l1, l2, q⟩ := h
    refine ⟨_, (pss_one (ps_ret (pe_cmpR op_eq (pe_df d_first_off (hr.mono (by decide)) (by rfl) pass0 (pa_cons (pv 1) (pa_cons (pv 2) (pa_cons (pv 3) (pa_cons (pv 4) pa_nil))))) pe_int (nomark _)))), ?_⟩
    walk_at "ini"
    refine ⟨f, s, a, b, one, other, rfl, hf, hs, h1, h2, l1, l2, fun H1 s1 => ?_⟩
    walk_at "rd"
    refine ⟨rfl, ?_⟩
    have e : decide (V.int (foM f s one other) = V.int 0) = decide (foM f s one other = 0) := by
      by_cases c : foM f s one other = 0
      · rw [decide_eq_true c, decide_eq_true (by rw [c])]
      · rw [decide_eq_false c, decide_eq_false (fun z => c (V.int.inj z))]
    rw [e]
    exact q _ s1
theorem ok_Off___init__ {f C : Addr} {fd : FuncData} (F : Fun K "__init__" "Off.__init__" s_Off___init__ f fd) (c : Cls K C) (nt : NoAttr K C "total") : FnOk P w K mg base CX0 1 f fd ["self", "total"] (spOInit C) := by
  refine F.ok sc_Off___init__ (fun vs H Q E h => ?_) (fun cdv A outer s H vs Q E hr h => ?_)
  · obtain ⟨_, _, _, rfl, _⟩ := h
    rfl
  · obtain ⟨x, dx, v, rfl, hx, q⟩ := h
    refine ⟨_, (pss_one (ps_fld (pv 0) (pv 1) rfl)), ?_⟩
    walk_at "ini"
    exact ⟨x, C, dx, [], rfl, hx, c, nt, by decide, q⟩
theorem ok_Off_shows {f C : Addr} {fd : FuncData} (F : Fun K "shows" "Off.shows" s_Off_shows f fd) (c : Cls K C) (nt : NoAttr K C "total") (d_is_whole : Df P w K mg base CX0 1 "is_whole" ["thing"] (spIsWhole K)) (d_counts_of : Df P w K mg base CX0 1 "counts_of" ["one", "other"] (spCounts K)) (d_how_often : Df P w K mg base CX0 1 "how_often" ["first", "second", "total"] spHow) :
    FnOk P w K mg base CX0 2 f fd ["self", "first", "second", "one", "other"] (spOShows K C) := by
  refine F.ok sc_Off_shows (fun vs H Q E h => ?_) (fun cdv A outer s H vs Q E hr h => ?_)
  · obtain ⟨_, _, _, _, _, _, _, _, _, rfl, _⟩ := h
    rfl
  · obtain ⟨x, dx, t, f, s, a, b, one, other, rfl, hx, h1, h2, l1, l2, q⟩ := h
    refine ⟨_, (pss_cons (ps_if (pt_not (pt_val (pe_df d_is_whole (hr.mono (by decide)) (by rfl) pass0 (pa_cons (pe_fld (pv 0) rfl) pa_nil)))) (pss_one (ps_ret pe_bl)) pss_nil)
    (pss_one (ps_ret (pe_cmpR op_ne (pe_dget2 (hu_of hr) (pe_df d_counts_of (hr.mono (by decide)) (by rfl) pass0 (pa_cons (pv 3) (pa_cons (pv 4) pa_nil))) (pe_fld (pv 0) rfl) pe_int ⟨rfl, rfl, rfl, rfl⟩) (pe_df d_how_often (hr.mono (by decide)) (by rfl) pass0 (pa_cons (pv 1) (pa_cons (pv 2) (pa_cons (pe_fld (pv 0) rfl) pa_nil)))) (nomark _))))), ?_⟩
    walk_at "ini"
    refine ⟨x, C, dx, _, .int t, rfl, hx, c, nt, look_one _ _, ?_⟩
    walk_at "rd"
    refine ⟨_, rfl, kn_int, ?_⟩
    walk_at "rd"
    refine iteF ?_
    walk_at "rd"
    refine ⟨a, b, one, other, rfl, h1, h2, l1, l2, fun H1 d s1 nd hd => ?_⟩
    refine ⟨d, rfl, .inl ⟨_, .inl hd⟩, ?_⟩
    walk_at "rd"
    refine ⟨x, C, dx, _, .int t, rfl, s1 _ _ hx, c, nt, look_one _ _, ?_⟩
    walk_at "rd"
    refine ⟨_, DGet.k (k := Sum.inl t) hd, ?_⟩
    rw [getD_kvs]
    walk_at "rd"
    refine ⟨x, C, dx, _, .int t, rfl, s1 _ _ hx, c, nt, look_one _ _, ?_⟩
    walk_at "rd"
    refine ⟨f, s, t, rfl, ?_⟩
    refine ⟨rfl, ?_⟩
    have e : (!decide (V.int (getN (tally (allS one other)) t) = V.int (hoM f s t))) = ofM f s t one other := by
      unfold ofM
      by_cases c : getN (tally (allS one other)) t = hoM f s t
      · rw [decide_eq_true c, decide_eq_true (by rw [c])]
      · rw [decide_eq_false c, decide_eq_false (fun z => c (V.int.inj z))]
    rw [e]
    exact q _ s1
end

end Tw
set_option Elab.async false
set_option linter.all false
set_option maxRecDepth 100000
set_option maxHeartbeats 4000000
namespace Tw
open PySem PySem.Spec PyProof.Rows L2
local macro_rules | `(tactic| walk_at "rd0") => `(tactic| first
  | with_reducible refine Tw.rd_seq ?_
  | with_reducible refine Tw.rd_asg ?_
  | with_reducible refine Tw.rd_drop ?_
  | with_reducible refine Tw.rd_ret ?_
  | with_reducible refine Tw.rd_retN ?_
  | with_reducible refine Tw.rd_next ?_
  | ((with_reducible refine Tw.rd_var (v := ?vv) ?hv ?_); (case hv => exact rfl))
  | with_reducible refine Tw.rd_c ?_
  | with_reducible refine Tw.rd_op ?_
  | with_reducible refine Tw.rd_un ?_
  | with_reducible refine Tw.rd_I0 ?_
  | with_reducible refine Tw.rd_U ?_
  | with_reducible refine Tw.rd_test ?_
  | with_reducible refine Tw.rd_tB ?_
  | with_reducible refine Tw.rd_bl ?_
  | with_reducible refine Tw.rd_not ?_
  | with_reducible refine Tw.rd_and ?_
  | with_reducible refine Tw.rd_or ?_
  | with_reducible refine Tw.rd_andV ?_
  | with_reducible refine Tw.rd_orV ?_
  | with_reducible refine Tw.rd_notV ?_
  | with_reducible refine Tw.rd_tIf ?_
  | with_reducible refine Tw.rd_cb ?_
  | with_reducible refine Tw.rd_cons ?_
  | with_reducible refine Tw.rd_nil ?_
  | with_reducible refine Tw.rd_call ?_
  | with_reducible refine Tw.rd_tup ?_
  | with_reducible refine Tw.rd_lst ?_
  | with_reducible refine Tw.rd_gname ?_
  | with_reducible refine Tw.rd_chain ?_
  | with_reducible refine Tw.rd_lc ?_
  | with_reducible refine Tw.rd_il ?_
  | with_reducible refine Tw.rd_it ?_
  | with_reducible refine Tw.rd_ie ?_
  | with_reducible refine Tw.rd_ir ?_
  | with_reducible refine Tw.rd_ir2 ?_
  | with_reducible refine Tw.rd_ir3 ?_
  | with_reducible refine Tw.rd_dput ?_
  | with_reducible refine Tw.rd_dget2 ?_
  | with_reducible refine Tw.rd_items ?_
  | with_reducible refine Tw.rd_sl ?_
  | with_reducible refine Tw.rd_nopart ?_
  | with_reducible refine Tw.rd_part ?_
  | with_reducible refine Tw.rd_int ?_
  | with_reducible refine Tw.rd_revL ?_
  | with_reducible refine Tw.rd_bm ?_
  | with_reducible refine Tw.rd_bm0 ?_
  | with_reducible refine Tw.rd_lrg ?_
  | with_reducible refine Tw.rd_rg2 ?_
  | with_reducible refine Tw.rd_rg1 ?_
  | with_reducible refine Tw.rd_int2 ?_
  | with_reducible refine Tw.rd_augS ?_
  | with_reducible refine Tw.rd_ipI ?_
  | with_reducible refine Tw.rd_gsub ?_
  | with_reducible refine Tw.rd_gcons ?_
  | with_reducible refine Tw.rd_gnil ?_
  | with_reducible refine Tw.rd_par ?_
  | with_reducible refine Tw.rd_par2 ?_
  | with_reducible refine Tw.rd_mk ?_
  | with_reducible refine Tw.rd_md ?_
  | with_reducible refine Tw.rd_fld ?_
  | with_reducible refine Tw.rd_sfld ?_)
local macro_rules | `(tactic| walk_at "rd1") => `(tactic| first
  | walk_at "rd0"
  | with_reducible refine Tw.rd_if ?_
  | with_reducible refine Tw.rd_for ?_)
local macro_rules | `(tactic| walk_at "rs") => `(tactic| repeat walk_at "rd0")
local macro_rules | `(tactic| walk_at "rd") => `(tactic| repeat walk_at "rd1")
local macro_rules | `(tactic| walk_at "ini") => `(tactic| (dsimp only [L2.cxOf, L2.start, L2.Cx.wish, L2.Cx.nox, List.map, List.length_cons, List.length_nil, Nat.reduceAdd, Nat.reduceSub, List.replicate, List.cons_append, List.nil_append]; walk_at "rd"))
local macro_rules | `(tactic| walk_at "num") => `(tactic| first
  | exact (show (0 : Int) < _ from by decide)
  | exact (show (0 : Int) < _ ∧ _ < (1073741824 : Int) from by decide)
  | exact (show (0 : Int) ≤ _ ∧ _ ≤ (1000000 : Int) ∧ _ < 2 ^ 64 from by decide))
local macro_rules | `(tactic| walk_at "rn") => `(tactic| repeat (first | walk_at "rd1" | ((with_reducible refine Tw.rd_I ?c ?_); (case c => walk_at "num"))))
theorem sc_times : FnScope ["one", "other", "found", "at", "mine", "far", "theirs"] ["one", "other"] (defScope s_times) := ⟨rfl, rfl, rfl, by decide +kernel, rfl, by decide +kernel, by decide +kernel⟩
section
variable {P : Program} {w : World} {K : PySem.W.Frag} {mg : Str → Option Value} {base : Heap}
theorem ok_times {f : Addr} {fd : FuncData} (F : Fun K "times" "times" s_times f fd) (B : Bn mg) : FnOk P w K mg base CX0 1 f fd ["one", "other"] (spTimes K) := by
  refine F.ok sc_times (fun vs H Q E h => ?_) (fun cdv A outer s H vs Q E hr h => ?_)
  · obtain ⟨a, b, one, other, rfl, _⟩ := h
    rfl
  · obtain ⟨a, b, one, other, rfl, h1, h2, ⟨l1, l1'⟩, ⟨l2, l2'⟩, sm, q⟩ := h
    refine ⟨_, (pss_cons (ps_set (i := 2) sc_times.nd rfl (Or.inl rfl) (pe_op op_rep (pe_lst (pa_cons pe_int pa_nil)) (pe_op op_sub (pe_op op_add (pe_callB (r := rLen K) call_lenQ (by rfl) B.n_len boot_len (pa_cons (pv 0) pa_nil)) (pe_callB (r := rLen K) call_lenQ (by rfl) B.n_len boot_len (pa_cons (pv 1) pa_nil))) pe_int)))
    (pss_cons (ps_for PassesOwn.never rfl (pi_enum (by rfl) B.n_enumerate (pa_cons (pv 0) pa_nil)) (pg_tup rfl (pgs_cons (pg_name (i := 3) sc_times.nd rfl (Or.inl rfl)) (pgs_cons (pg_name (i := 4) sc_times.nd rfl (Or.inl rfl)) pgs_nil)))
      (pss_one (ps_for PassesOwn.never rfl (pi_enum (by rfl) B.n_enumerate (pa_cons (pv 1) pa_nil)) (pg_tup rfl (pgs_cons (pg_name (i := 5) sc_times.nd rfl (Or.inl rfl)) (pgs_cons (pg_name (i := 6) sc_times.nd rfl (Or.inl rfl)) pgs_nil)))
      (pss_one (ps_augS (pv 2) (pe_op op_add (pv 3) (pv 5)) get_list (pe_op op_mul (pv 4) (pv 6)) ip_add set_list)))))
    (pss_one (ps_ret (pv 2))))), ?_⟩
    walk_at "ini"
    refine ⟨by show 1 ≤ sizeLine; rw [sizeLine_eq]; decide, fun z nz => ?_⟩
    have s0 := same_new (o := .lst [V.int 0]) nz
    have hz := upd_same (H := H) (a := z) (o := .lst [V.int 0])
    revert s0 hz
    generalize upd H z (.lst [V.int 0]) = H0
    intro s0 hz
    walk_at "rd"
    refine ⟨a, _, rfl, .inl (same_l s0 h1), ?_⟩
    walk_at "rd"
    refine ⟨b, _, rfl, .inl (same_l s0 h2), ?_⟩
    walk_at "rd"
    rw [List.length_map, List.length_map]
    have ek : ((one.length : Int) + (other.length : Int) - 1).toNat = one.length + other.length - 1 := by omega
    refine rd_rep hz (by omega) (by omega) (by rw [ek, sizeLine_eq]; show 1 * _ ≤ _; omega) (fun p np => ?_)
    rw [ek, flat_rep]
    walk_at "rd"
    have s1 : Same H (upd H0 p (.lst ((List.replicate (one.length + other.length - 1) (0 : Int)).map V.int))) := s0.trans (same_new np)
    have np0 : H p = none := s0.free np
    refine ⟨a, one.map V.int, rfl, same_l s1 h1, ?_⟩
    refine for_enumP V.int one (fun dn σ H1 => ∃ y3 y4 y5 y6, σ = [some (.ref a), some (.ref b), some (.ref p), y3, y4, y5, y6] ∧ Same H H1 ∧ H1 p = some (.lst ((efold (fun i m acc => rowT other i m acc) dn (List.replicate (one.length + other.length - 1) 0)).map V.int)))
      ⟨none, none, none, none, rfl, s1, upd_same⟩ (fun dn σ H1 ⟨_, _, _, _, _, s, _⟩ => same_l s h1) (fun dn m rs σ H1 t e ⟨y3, y4, y5, y6, eσ, s2, hp⟩ nt => ?_) (fun σ H1 ⟨y3, y4, y5, y6, eσ, s2, hp⟩ => ?_)
    · subst eσ
      refine rd_gtup (.of upd_same) rfl ?_
      have hp2 := keep_new (o := .tup [.int (dn.length : Nat), .int m]) nt hp
      have s3 := s2.trans (same_new (o := .tup [.int (dn.length : Nat), .int m]) nt)
      revert hp2 s3
      generalize upd H1 t (.tup [.int (dn.length : Nat), .int m]) = H2
      intro hp2 s3
      walk_at "rd"
      refine ⟨b, other.map V.int, rfl, same_l s3 h2, ?_⟩
      have lacc : (efold (fun i m acc => rowT other i m acc) dn (List.replicate (one.length + other.length - 1) 0)).length = one.length + other.length - 1 := by
        unfold efold
        rw [len_efold _ (fun _ _ _ => len_rowT ..), List.length_replicate]
      revert lacc hp2
      generalize hA : efold (fun i m acc => rowT other i m acc) dn (List.replicate (one.length + other.length - 1) 0) = A0
      intro hp2 lacc
      have ldn : dn.length < one.length := by rw [e, List.length_append, List.length_cons]; omega
      refine for_enumP V.int other (fun dm σ H3 => ∃ y5 y6, σ = [some (.ref a), some (.ref b), some (.ref p), some (.int (dn.length : Nat)), some (.int m), y5, y6] ∧ Same H H3 ∧ H3 p = some (.lst ((efold (fun far y acc => addAt acc (dn.length + far) (m * y)) dm A0).map V.int)))
        ⟨_, _, rfl, s3, hp2⟩ (fun dm σ H3 ⟨_, _, _, s, _⟩ => same_l s h2) (fun dm y rs' σ H3 t' e' ⟨y5, y6, eσ, s4, hp4⟩ nt' => ?_) (fun σ H3 ⟨y5, y6, eσ, s4, hp4⟩ => ?_)
      · subst eσ
        refine rd_gtup (.of upd_same) rfl ?_
        have hp5 := keep_new (o := .tup [.int (dm.length : Nat), .int y]) nt' hp4
        have s5 := s4.trans (same_new (o := .tup [.int (dm.length : Nat), .int y]) nt')
        revert hp5 s5
        generalize upd H3 t' (.tup [.int (dm.length : Nat), .int y]) = H5
        intro hp5 s5
        walk_at "rd"
        have lA : (efold (fun far y acc => addAt acc (dn.length + far) (m * y)) dm A0).length = one.length + other.length - 1 := by
          unfold efold
          rw [len_efold _ (fun _ _ _ => len_addAt ..), lacc]
        have ldm : dm.length < other.length := by rw [e', List.length_append, List.length_cons]; omega
        refine rd_get (dn.length + dm.length) (by omega) hp5 (by omega) ?_
        walk_at "rd"
        have by' := sm y (by rw [e']; simp)
        refine rd_I (.inr ⟨by omega, by omega⟩) ?_
        walk_at "rd"
        refine rd_set (dn.length + dm.length) (by omega) hp5 (by omega) ?_
        refine ⟨_, _, rfl, same_mut s5 np0, ?_⟩
        rw [upd_same, efold_concat]
        rfl
      · subst eσ
        refine ⟨_, _, _, _, rfl, s4, ?_⟩
        rw [efold_concat, hA]
        exact hp4
    · subst eσ
      walk_at "rd"
      exact q _ p s2 np0 hp
end

end Tw
set_option Elab.async false
set_option linter.all false
set_option maxRecDepth 100000
set_option maxHeartbeats 4000000
namespace Tw
open PySem PySem.Spec PyProof.Rows L2
local macro_rules | `(tactic| walk_at "rd0") => `(tactic| first
  | with_reducible refine Tw.rd_seq ?_
  | with_reducible refine Tw.rd_asg ?_
  | with_reducible refine Tw.rd_drop ?_
  | with_reducible refine Tw.rd_ret ?_
  | with_reducible refine Tw.rd_retN ?_
  | with_reducible refine Tw.rd_next ?_
  | ((with_reducible refine Tw.rd_var (v := ?vv) ?hv ?_); (case hv => exact rfl))
  | with_reducible refine Tw.rd_c ?_
  | with_reducible refine Tw.rd_op ?_
  | with_reducible refine Tw.rd_un ?_
  | with_reducible refine Tw.rd_I0 ?_
  | with_reducible refine Tw.rd_U ?_
  | with_reducible refine Tw.rd_test ?_
  | with_reducible refine Tw.rd_tB ?_
  | with_reducible refine Tw.rd_bl ?_
  | with_reducible refine Tw.rd_not ?_
  | with_reducible refine Tw.rd_and ?_
  | with_reducible refine Tw.rd_or ?_
  | with_reducible refine Tw.rd_andV ?_
  | with_reducible refine Tw.rd_orV ?_
  | with_reducible refine Tw.rd_notV ?_
  | with_reducible refine Tw.rd_tIf ?_
  | with_reducible refine Tw.rd_cb ?_
  | with_reducible refine Tw.rd_cons ?_
  | with_reducible refine Tw.rd_nil ?_
  | with_reducible refine Tw.rd_call ?_
  | with_reducible refine Tw.rd_tup ?_
  | with_reducible refine Tw.rd_lst ?_
  | with_reducible refine Tw.rd_gname ?_
  | with_reducible refine Tw.rd_chain ?_
  | with_reducible refine Tw.rd_lc ?_
  | with_reducible refine Tw.rd_il ?_
  | with_reducible refine Tw.rd_it ?_
  | with_reducible refine Tw.rd_ie ?_
  | with_reducible refine Tw.rd_ir ?_
  | with_reducible refine Tw.rd_ir2 ?_
  | with_reducible refine Tw.rd_ir3 ?_
  | with_reducible refine Tw.rd_dput ?_
  | with_reducible refine Tw.rd_dget2 ?_
  | with_reducible refine Tw.rd_items ?_
  | with_reducible refine Tw.rd_sl ?_
  | with_reducible refine Tw.rd_nopart ?_
  | with_reducible refine Tw.rd_part ?_
  | with_reducible refine Tw.rd_int ?_
  | with_reducible refine Tw.rd_revL ?_
  | with_reducible refine Tw.rd_bm ?_
  | with_reducible refine Tw.rd_bm0 ?_
  | with_reducible refine Tw.rd_lrg ?_
  | with_reducible refine Tw.rd_rg2 ?_
  | with_reducible refine Tw.rd_rg1 ?_
  | with_reducible refine Tw.rd_int2 ?_
  | with_reducible refine Tw.rd_augS ?_
  | with_reducible refine Tw.rd_ipI ?_
  | with_reducible refine Tw.rd_gsub ?_
  | with_reducible refine Tw.rd_gcons ?_
  | with_reducible refine Tw.rd_gnil ?_
  | with_reducible refine Tw.rd_par ?_
  | with_reducible refine Tw.rd_par2 ?_
  | with_reducible refine Tw.rd_mk ?_
  | with_reducible refine Tw.rd_md ?_
  | with_reducible refine Tw.rd_fld ?_
  | with_reducible refine Tw.rd_sfld ?_)
local macro_rules | `(tactic| walk_at "rd1") => `(tactic| first
  | walk_at "rd0"
  | with_reducible refine Tw.rd_if ?_
  | with_reducible refine Tw.rd_for ?_)
local macro_rules | `(tactic| walk_at "rs") => `(tactic| repeat walk_at "rd0")
local macro_rules | `(tactic| walk_at "rd") => `(tactic| repeat walk_at "rd1")
local macro_rules | `(tactic| walk_at "ini") => `(tactic| (dsimp only [L2.cxOf, L2.start, L2.Cx.wish, L2.Cx.nox, List.map, List.length_cons, List.length_nil, Nat.reduceAdd, Nat.reduceSub, List.replicate, List.cons_append, List.nil_append]; walk_at "rd"))
local macro_rules | `(tactic| walk_at "num") => `(tactic| first
  | exact (show (0 : Int) < _ from by decide)
  | exact (show (0 : Int) < _ ∧ _ < (1073741824 : Int) from by decide)
  | exact (show (0 : Int) ≤ _ ∧ _ ≤ (1000000 : Int) ∧ _ < 2 ^ 64 from by decide))
local macro_rules | `(tactic| walk_at "rn") => `(tactic| repeat (first | walk_at "rd1" | ((with_reducible refine Tw.rd_I ?c ?_); (case c => walk_at "num"))))
theorem sc_over : FnScope ["row", "by", "left", "found", "at", "often", "far", "one"] ["row", "by"] (defScope s_over) := ⟨rfl, rfl, rfl, by decide +kernel, rfl, by decide +kernel, by decide +kernel⟩
section
variable {P : Program} {w : World} {K : PySem.W.Frag} {mg : Str → Option Value} {base : Heap}
theorem ok_over {f : Addr} {fd : FuncData} (F : Fun K "over" "over" s_over f fd) (B : Bn mg) : FnOk P w K mg base CX0 1 f fd ["row", "by"] (spOver K) := by
  refine F.ok sc_over (fun vs H Q E h => ?_) (fun cdv A outer s H vs Q E hr h => ?_)
  · obtain ⟨a, b, row, by', rfl, _⟩ := h
    rfl
  · obtain ⟨a, b, row, by', rfl, h1, h2, ⟨l1, l2, l3⟩, sm, q⟩ := h
    refine ⟨_, (pss_cons (ps_par (i := 2) (j := 3) (by rfl) sc_over.nd rfl rfl (by decide) rfl rfl (pa_cons (pe_callTy (r := rListOf K) call_listQ (by rfl) B.n_list boot_list (pa_cons (pv 0) pa_nil)) (pa_cons (pe_lst pa_nil) pa_nil)) (by rfl))
    (pss_cons (ps_for PassesOwn.never rfl (pi_range3 rfl B.n_range (pa_cons (pe_op op_sub (pe_callB (r := rLen K) call_lenQ (by rfl) B.n_len boot_len (pa_cons (pv 0) pa_nil)) (pe_callB (r := rLen K) call_lenQ (by rfl) B.n_len boot_len (pa_cons (pv 1) pa_nil))) (pa_cons (pe_un un_neg pe_int) (pa_cons (pe_un un_neg pe_int) pa_nil)))) (pg_name (i := 4) sc_over.nd rfl (Or.inl rfl))
      (pss_cons (ps_set (i := 5) sc_over.nd rfl (Or.inl rfl) (pe_ix (r := rIxL K) ix_list (pv 2) (pe_op op_sub (pe_op op_add (pv 4) (pe_callB (r := rLen K) call_lenQ (by rfl) B.n_len boot_len (pa_cons (pv 1) pa_nil))) pe_int) (fun _ _ => rfl)))
    (pss_cons (ps_expr (pe_bm PySem.F.plainAttrs_list PySem.F.slot_list_append PySem.F.type_list_append mt_append (pv 3) (pa_cons (pv 5) pa_nil)))
    (pss_one (ps_for PassesOwn.never rfl (pi_enum (by rfl) B.n_enumerate (pa_cons (pv 1) pa_nil)) (pg_tup rfl (pgs_cons (pg_name (i := 6) sc_over.nd rfl (Or.inl rfl)) (pgs_cons (pg_name (i := 7) sc_over.nd rfl (Or.inl rfl)) pgs_nil)))
      (pss_one (ps_augS (pv 2) (pe_op op_add (pv 4) (pv 6)) get_list (pe_op op_mul (pv 5) (pv 7)) ip_sub set_list)))))))
    (pss_one (ps_ret (pe_revL (pv 3)))))), ?_⟩
    walk_at "ini"
    refine ⟨a, _, rfl, .inl h1, fun p np => ?_⟩
    have s0 := same_new (o := .lst (row.map V.int)) np
    have hp := upd_same (H := H) (a := p) (o := .lst (row.map V.int))
    revert s0 hp
    generalize upd H p (.lst (row.map V.int)) = H0
    intro s0 hp
    walk_at "rd"
    refine ⟨by show 0 ≤ sizeLine; omega, fun r nr => ?_⟩
    have npr : p ≠ r := fun e => by
      rw [e, nr] at hp
      cases hp
    have hp1 := keep_new (o := .lst []) nr hp
    have s1 := s0.trans (same_new (o := .lst []) nr)
    have hr1 := upd_same (H := H0) (a := r) (o := .lst [])
    have nr0 : H r = none := s0.free nr
    revert hp1 s1 hr1
    generalize upd H0 r (.lst []) = H1
    intro hp1 s1 hr1
    walk_at "rd"
    refine ⟨a, _, rfl, .inl (same_l s1 h1), ?_⟩
    walk_at "rd"
    refine ⟨b, _, rfl, .inl (same_l s1 h2), ?_⟩
    walk_at "rd"
    rw [List.length_map, List.length_map]
    refine ⟨_, _, _, _, rfl, RgC.neg (by omega) (by omega) (by omega) (by omega), ?_⟩
    have en : ((row.length : Int) - (by'.length : Int) - -1).toNat = row.length - by'.length + 1 := by omega
    rw [en]
    have hS : ∀ i : Nat, (nfold (overS by' (row.length - by'.length)) i (row, [])).1.length = row.length := fun i => by
      induction i with
      | zero => rfl
      | succ i ih =>
        show (rowO _ _ _ _).length = _
        rw [len_rowO, ih]
    have hF : ∀ i : Nat, (nfold (overS by' (row.length - by'.length)) i (row, [])).2.length = i := fun i => by
      induction i with
      | zero => rfl
      | succ i ih =>
        show (_ ++ [_]).length = _
        rw [List.length_append, ih]
        rfl
    refine for_down (lo := (row.length : Int) - (by'.length : Int)) (n := row.length - by'.length + 1) (fun i σ H2 => ∃ y4 y5 y6 y7, σ = [some (.ref a), some (.ref b), some (.ref p), some (.ref r), y4, y5, y6, y7] ∧ Same H H2 ∧ H2 p = some (.lst ((nfold (overS by' (row.length - by'.length)) i (row, [])).1.map V.int)) ∧ H2 r = some (.lst ((nfold (overS by' (row.length - by'.length)) i (row, [])).2.map V.int)))
      ⟨none, none, none, none, rfl, s1, hp1, hr1⟩ (fun i σ H2 hi ⟨y4, y5, y6, y7, eσ, s2, hp2, hr2⟩ => ?_) (fun σ H2 ⟨y4, y5, y6, y7, eσ, s2, hp2, hr2⟩ => ?_)
    · subst eσ
      have lS := hS i
      have lF := hF i
      have eN : nfold (overS by' (row.length - by'.length)) (i + 1) (row, []) = overS by' (row.length - by'.length) i (nfold (overS by' (row.length - by'.length)) i (row, [])) := rfl
      rw [eN]
      revert hp2 hr2 lS lF
      generalize nfold (overS by' (row.length - by'.length)) i (row, []) = Z
      intro hp2 hr2 lS lF
      walk_at "rd"
      refine ⟨b, _, rfl, .inl (same_l s2 h2), ?_⟩
      walk_at "rd"
      rw [List.length_map, show (row.length : Int) - (by'.length : Int) - (i : Nat) + (by'.length : Int) - 1 = ((row.length - by'.length - i + by'.length - 1 : Nat) : Int) by omega]
      refine rd_ixL (.of hp2) (at_nat (by omega)) ?_
      walk_at "rd"
      refine rd_tyl (.of hr2) ?_
      walk_at "rd"
      refine rd_append hr2 (by rw [List.length_map, sizeLine_eq]; omega) ?_
      have hp3 : upd H2 r (.lst (Z.2.map V.int ++ [V.int (Z.1.getD (row.length - by'.length - i + by'.length - 1) 0)])) p = some (.lst (Z.1.map V.int)) := by
        rw [upd_ne npr]
        exact hp2
      have hr3 : upd H2 r (.lst (Z.2.map V.int ++ [V.int (Z.1.getD (row.length - by'.length - i + by'.length - 1) 0)])) r = some (.lst ((overS by' (row.length - by'.length) i Z).2.map V.int)) := by
        rw [upd_same]
        show _ = some (HO.lst ((Z.2 ++ [_]).map V.int))
        rw [List.map_append]
        rfl
      have s3 : Same H (upd H2 r (.lst (Z.2.map V.int ++ [V.int (Z.1.getD (row.length - by'.length - i + by'.length - 1) 0)]))) := same_mut s2 nr0
      revert hp3 hr3 s3
      generalize upd H2 r (.lst (Z.2.map V.int ++ [V.int (Z.1.getD (row.length - by'.length - i + by'.length - 1) 0)])) = H3
      intro hp3 hr3 s3
      walk_at "rd"
      refine ⟨b, by'.map V.int, rfl, same_l s3 h2, ?_⟩
      show ∃ W, _
      have e1 : (overS by' (row.length - by'.length) i Z).1 = rowO by' (row.length - by'.length - i) (Z.1.getD (row.length - by'.length - i + by'.length - 1) 0) Z.1 := rfl
      rw [e1]
      revert hr3
      generalize (overS by' (row.length - by'.length) i Z).2 = F2
      intro hr3
      generalize Z.1.getD (row.length - by'.length - i + by'.length - 1) 0 = o
      refine for_enumP V.int by' (fun dm σ H4 => ∃ y6 y7, σ = [some (.ref a), some (.ref b), some (.ref p), some (.ref r), some (.int ((row.length : Int) - (by'.length : Int) - (i : Nat))), some (.int o), y6, y7] ∧ Same H H4 ∧ H4 p = some (.lst ((efold (fun far y acc => subAt acc (row.length - by'.length - i + far) (o * y)) dm Z.1).map V.int)) ∧ H4 r = some (.lst (F2.map V.int)))
        ⟨_, _, rfl, s3, hp3, hr3⟩ (fun dm σ H4 ⟨_, _, _, s, _, _⟩ => same_l s h2) (fun dm y rs' σ H4 t' e' ⟨y6, y7, eσ, s4, hp4, hr4⟩ nt' => ?_) (fun σ H4 ⟨y6, y7, eσ, s4, hp4, hr4⟩ => ?_)
      · subst eσ
        refine rd_gtup (.of upd_same) rfl ?_
        have hp5 := keep_new (o := .tup [.int (dm.length : Nat), .int y]) nt' hp4
        have hr5 := keep_new (o := .tup [.int (dm.length : Nat), .int y]) nt' hr4
        have s5 := s4.trans (same_new (o := .tup [.int (dm.length : Nat), .int y]) nt')
        revert hp5 hr5 s5
        generalize upd H4 t' (.tup [.int (dm.length : Nat), .int y]) = H5
        intro hp5 hr5 s5
        walk_at "rd"
        have lA : (efold (fun far y acc => subAt acc (row.length - by'.length - i + far) (o * y)) dm Z.1).length = row.length := by
          unfold efold
          rw [len_efold _ (fun _ _ _ => len_subAt ..), lS]
        have ldm : dm.length < by'.length := by rw [e', List.length_append, List.length_cons]; omega
        refine rd_get (row.length - by'.length - i + dm.length) (by omega) hp5 (by omega) ?_
        walk_at "rd"
        have bb := sm y (by rw [e']; simp)
        refine rd_I (.inr ⟨by omega, by omega⟩) ?_
        walk_at "rd"
        refine rd_set (row.length - by'.length - i + dm.length) (by omega) hp5 (by omega) ?_
        refine ⟨_, _, rfl, same_mut s5 np, ?_, ?_⟩
        · rw [upd_same, efold_concat]
          rfl
        · rw [upd_ne (fun e => npr e.symm)]
          exact hr5
      · subst eσ
        exact ⟨_, _, _, _, rfl, s4, hp4, hr4⟩
    · subst eσ
      walk_at "rd"
      refine ⟨r, _, rfl, .of hr2, fun u nu => ?_⟩
      refine q _ u (s2.trans (same_new nu)) (s2.free nu) ?_
      rw [upd_same, ← List.map_reverse]
      rfl
end

end Tw
set_option Elab.async false
set_option linter.all false
set_option maxRecDepth 100000
set_option maxHeartbeats 4000000
namespace Tw
open PySem PySem.Spec PyProof.Rows L2
local macro_rules | `(tactic| walk_at "rd0") => `(tactic| first
  | with_reducible refine Tw.rd_seq ?_
  | with_reducible refine Tw.rd_asg ?_
  | with_reducible refine Tw.rd_drop ?_
  | with_reducible refine Tw.rd_ret ?_
  | with_reducible refine Tw.rd_retN ?_
  | with_reducible refine Tw.rd_next ?_
  | ((with_reducible refine Tw.rd_var (v := ?vv) ?hv ?_); (case hv => exact rfl))
  | with_reducible refine Tw.rd_c ?_
  | with_reducible refine Tw.rd_op ?_
  | with_reducible refine Tw.rd_un ?_
  | with_reducible refine Tw.rd_I0 ?_
  | with_reducible refine Tw.rd_U ?_
  | with_reducible refine Tw.rd_test ?_
  | with_reducible refine Tw.rd_tB ?_
  | with_reducible refine Tw.rd_bl ?_
  | with_reducible refine Tw.rd_not ?_
  | with_reducible refine Tw.rd_and ?_
  | with_reducible refine Tw.rd_or ?_
  | with_reducible refine Tw.rd_andV ?_
  | with_reducible refine Tw.rd_orV ?_
  | with_reducible refine Tw.rd_notV ?_
  | with_reducible refine Tw.rd_tIf ?_
  | with_reducible refine Tw.rd_cb ?_
  | with_reducible refine Tw.rd_cons ?_
  | with_reducible refine Tw.rd_nil ?_
  | with_reducible refine Tw.rd_call ?_
  | with_reducible refine Tw.rd_tup ?_
  | with_reducible refine Tw.rd_lst ?_
  | with_reducible refine Tw.rd_gname ?_
  | with_reducible refine Tw.rd_chain ?_
  | with_reducible refine Tw.rd_lc ?_
  | with_reducible refine Tw.rd_il ?_
  | with_reducible refine Tw.rd_it ?_
  | with_reducible refine Tw.rd_ie ?_
  | with_reducible refine Tw.rd_ir ?_
  | with_reducible refine Tw.rd_ir2 ?_
  | with_reducible refine Tw.rd_ir3 ?_
  | with_reducible refine Tw.rd_dput ?_
  | with_reducible refine Tw.rd_dget2 ?_
  | with_reducible refine Tw.rd_items ?_
  | with_reducible refine Tw.rd_sl ?_
  | with_reducible refine Tw.rd_nopart ?_
  | with_reducible refine Tw.rd_part ?_
  | with_reducible refine Tw.rd_int ?_
  | with_reducible refine Tw.rd_revL ?_
  | with_reducible refine Tw.rd_bm ?_
  | with_reducible refine Tw.rd_bm0 ?_
  | with_reducible refine Tw.rd_lrg ?_
  | with_reducible refine Tw.rd_rg2 ?_
  | with_reducible refine Tw.rd_rg1 ?_
  | with_reducible refine Tw.rd_int2 ?_
  | with_reducible refine Tw.rd_augS ?_
  | with_reducible refine Tw.rd_ipI ?_
  | with_reducible refine Tw.rd_gsub ?_
  | with_reducible refine Tw.rd_gcons ?_
  | with_reducible refine Tw.rd_gnil ?_
  | with_reducible refine Tw.rd_par ?_
  | with_reducible refine Tw.rd_par2 ?_
  | with_reducible refine Tw.rd_mk ?_
  | with_reducible refine Tw.rd_md ?_
  | with_reducible refine Tw.rd_fld ?_
  | with_reducible refine Tw.rd_sfld ?_)
local macro_rules | `(tactic| walk_at "rd1") => `(tactic| first
  | walk_at "rd0"
  | with_reducible refine Tw.rd_if ?_
  | with_reducible refine Tw.rd_for ?_)
local macro_rules | `(tactic| walk_at "rs") => `(tactic| repeat walk_at "rd0")
local macro_rules | `(tactic| walk_at "rd") => `(tactic| repeat walk_at "rd1")
local macro_rules | `(tactic| walk_at "ini") => `(tactic| (dsimp only [L2.cxOf, L2.start, L2.Cx.wish, L2.Cx.nox, List.map, List.length_cons, List.length_nil, Nat.reduceAdd, Nat.reduceSub, List.replicate, List.cons_append, List.nil_append]; walk_at "rd"))
local macro_rules | `(tactic| walk_at "num") => `(tactic| first
  | exact (show (0 : Int) < _ from by decide)
  | exact (show (0 : Int) < _ ∧ _ < (1073741824 : Int) from by decide)
  | exact (show (0 : Int) ≤ _ ∧ _ ≤ (1000000 : Int) ∧ _ < 2 ^ 64 from by decide))
local macro_rules | `(tactic| walk_at "rn") => `(tactic| repeat (first | walk_at "rd1" | ((with_reducible refine Tw.rd_I ?c ?_); (case c => walk_at "num"))))
theorem sc_raised : FnScope ["row", "part", "many", "time"] ["row", "part", "many"] (defScope s_raised) := ⟨rfl, rfl, rfl, by decide +kernel, rfl, by decide +kernel, by decide +kernel⟩
section
variable {P : Program} {w : World} {K : PySem.W.Frag} {mg : Str → Option Value} {base : Heap}
theorem ok_raised {f : Addr} {fd : FuncData} (F : Fun K "raised" "raised" s_raised f fd) (B : Bn mg) (d_times : Df P w K mg base CX0 1 "times" ["one", "other"] (spTimes K)) : FnOk P w K mg base CX0 2 f fd ["row", "part", "many"] (spRaised K) := by
  refine F.ok sc_raised (fun vs H Q E h => ?_) (fun cdv A outer s H vs Q E hr h => ?_)
  · obtain ⟨a, b, row, part, n, rfl, _⟩ := h
    rfl
  · obtain ⟨a, b, row, part, n, rfl, h1, h2, ⟨r1, r2⟩, ⟨p1, p2⟩, hn, sm, q⟩ := h
    refine ⟨_, (pss_cons (ps_for PassesOwn.never rfl (pi_range1 (by rfl) B.n_range (pa_cons (pv 2) pa_nil)) (pg_name (i := 3) sc_raised.nd rfl (Or.inl rfl))
      (pss_one (ps_set (i := 0) sc_raised.nd rfl (Or.inl rfl) (pe_df d_times (hr.mono (by decide)) (by rfl) pass0 (pa_cons (pv 0) (pa_cons (pv 1) pa_nil))))))
    (pss_one (ps_ret (pv 0)))), ?_⟩
    walk_at "ini"
    refine ⟨n, rfl, by omega, by omega, ?_⟩
    rw [Int.toNat_natCast]
    refine for_range (lo := 0) (n := n) (fun i σ H1 => ∃ a' y3, σ = [some (.ref a'), some (.ref b), some (.int n), y3] ∧ Same H H1 ∧ H1 a' = some (.lst ((raisedM row part i).map V.int)))
      ⟨a, none, rfl, Same.refl _, h1⟩ (fun i σ H1 hi ⟨a', y3, eσ, s1, h3⟩ => ?_) (fun σ H1 ⟨a', y3, eσ, s1, h3⟩ => ?_)
    · subst eσ
      walk_at "rd"
      have l1 := len_raised row part i
      have l2 := pos_raised r1 p1 i
      have l3 : i * part.length ≤ 10 * 20 := Nat.mul_le_mul (by omega) p2
      refine ⟨a', b, raisedM row part i, part, rfl, .of h3, same_l s1 h2, ⟨l2, by omega⟩, ⟨p1, by omega⟩, sm, fun H2 p s2 np hp => ?_⟩
      exact ⟨p, _, rfl, s1.trans s2, hp⟩
    · subst eσ
      walk_at "rd"
      exact q _ a' s1 h3
end

end Tw
set_option Elab.async false
set_option linter.all false
set_option maxRecDepth 100000
set_option maxHeartbeats 4000000
namespace Tw
open PySem PySem.Spec PyProof.Rows L2
local macro_rules | `(tactic| walk_at "rd0") => `(tactic| first
  | with_reducible refine Tw.rd_seq ?_
  | with_reducible refine Tw.rd_asg ?_
  | with_reducible refine Tw.rd_drop ?_
  | with_reducible refine Tw.rd_ret ?_
  | with_reducible refine Tw.rd_retN ?_
  | with_reducible refine Tw.rd_next ?_
  | ((with_reducible refine Tw.rd_var (v := ?vv) ?hv ?_); (case hv => exact rfl))
  | with_reducible refine Tw.rd_c ?_
  | with_reducible refine Tw.rd_op ?_
  | with_reducible refine Tw.rd_un ?_
  | with_reducible refine Tw.rd_I0 ?_
  | with_reducible refine Tw.rd_U ?_
  | with_reducible refine Tw.rd_test ?_
  | with_reducible refine Tw.rd_tB ?_
  | with_reducible refine Tw.rd_bl ?_
  | with_reducible refine Tw.rd_not ?_
  | with_reducible refine Tw.rd_and ?_
  | with_reducible refine Tw.rd_or ?_
  | with_reducible refine Tw.rd_andV ?_
  | with_reducible refine Tw.rd_orV ?_
  | with_reducible refine Tw.rd_notV ?_
  | with_reducible refine Tw.rd_tIf ?_
  | with_reducible refine Tw.rd_cb ?_
  | with_reducible refine Tw.rd_cons ?_
  | with_reducible refine Tw.rd_nil ?_
  | with_reducible refine Tw.rd_call ?_
  | with_reducible refine Tw.rd_tup ?_
  | with_reducible refine Tw.rd_lst ?_
  | with_reducible refine Tw.rd_gname ?_
  | with_reducible refine Tw.rd_chain ?_
  | with_reducible refine Tw.rd_lc ?_
  | with_reducible refine Tw.rd_il ?_
  | with_reducible refine Tw.rd_it ?_
  | with_reducible refine Tw.rd_ie ?_
  | with_reducible refine Tw.rd_ir ?_
  | with_reducible refine Tw.rd_ir2 ?_
  | with_reducible refine Tw.rd_ir3 ?_
  | with_reducible refine Tw.rd_dput ?_
  | with_reducible refine Tw.rd_dget2 ?_
  | with_reducible refine Tw.rd_items ?_
  | with_reducible refine Tw.rd_sl ?_
  | with_reducible refine Tw.rd_nopart ?_
  | with_reducible refine Tw.rd_part ?_
  | with_reducible refine Tw.rd_int ?_
  | with_reducible refine Tw.rd_revL ?_
  | with_reducible refine Tw.rd_bm ?_
  | with_reducible refine Tw.rd_bm0 ?_
  | with_reducible refine Tw.rd_lrg ?_
  | with_reducible refine Tw.rd_rg2 ?_
  | with_reducible refine Tw.rd_rg1 ?_
  | with_reducible refine Tw.rd_int2 ?_
  | with_reducible refine Tw.rd_augS ?_
  | with_reducible refine Tw.rd_ipI ?_
  | with_reducible refine Tw.rd_gsub ?_
  | with_reducible refine Tw.rd_gcons ?_
  | with_reducible refine Tw.rd_gnil ?_
  | with_reducible refine Tw.rd_par ?_
  | with_reducible refine Tw.rd_par2 ?_
  | with_reducible refine Tw.rd_mk ?_
  | with_reducible refine Tw.rd_md ?_
  | with_reducible refine Tw.rd_fld ?_
  | with_reducible refine Tw.rd_sfld ?_)
local macro_rules | `(tactic| walk_at "rd1") => `(tactic| first
  | walk_at "rd0"
  | with_reducible refine Tw.rd_if ?_
  | with_reducible refine Tw.rd_for ?_)
local macro_rules | `(tactic| walk_at "rs") => `(tactic| repeat walk_at "rd0")
local macro_rules | `(tactic| walk_at "rd") => `(tactic| repeat walk_at "rd1")
local macro_rules | `(tactic| walk_at "ini") => `(tactic| (dsimp only [L2.cxOf, L2.start, L2.Cx.wish, L2.Cx.nox, List.map, List.length_cons, List.length_nil, Nat.reduceAdd, Nat.reduceSub, List.replicate, List.cons_append, List.nil_append]; walk_at "rd"))
local macro_rules | `(tactic| walk_at "num") => `(tactic| first
  | exact (show (0 : Int) < _ from by decide)
  | exact (show (0 : Int) < _ ∧ _ < (1073741824 : Int) from by decide)
  | exact (show (0 : Int) ≤ _ ∧ _ ≤ (1000000 : Int) ∧ _ < 2 ^ 64 from by decide))
local macro_rules | `(tactic| walk_at "rn") => `(tactic| repeat (first | walk_at "rd1" | ((with_reducible refine Tw.rd_I ?c ?_); (case c => walk_at "num"))))
theorem sc_die_of : FnScope ["row", "found", "at", "often"] ["row"] (defScope s_die_of) := ⟨rfl, rfl, rfl, by decide +kernel, rfl, by decide +kernel, by decide +kernel⟩
section
variable {P : Program} {w : World} {K : PySem.W.Frag} {mg : Str → Option Value} {base : Heap}
theorem ok_die_of {f : Addr} {fd : FuncData} (F : Fun K "die_of" "die_of" s_die_of f fd) (B : Bn mg) : FnOk P w K mg base CX0 1 f fd ["row"] (spDieOf K) := by
  refine F.ok sc_die_of (fun vs H Q E h => ?_) (fun cdv A outer s H vs Q E hr h => ?_)
  · obtain ⟨a, row, rfl, _⟩ := h
    rfl
  · obtain ⟨a, row, rfl, h1, hp, hs, q⟩ := h
    refine ⟨_, (pss_cons (ps_set (i := 1) sc_die_of.nd rfl (Or.inl rfl) (pe_lst pa_nil))
    (pss_cons (ps_for PassesOwn.never rfl (pi_enum (by rfl) B.n_enumerate (pa_cons (pv 0) pa_nil)) (pg_tup rfl (pgs_cons (pg_name (i := 2) sc_die_of.nd rfl (Or.inl rfl)) (pgs_cons (pg_name (i := 3) sc_die_of.nd rfl (Or.inl rfl)) pgs_nil)))
      (pss_one (ps_expr (pe_bm PySem.F.plainAttrs_list PySem.F.slot_list_extend PySem.F.type_list_extend mt_extend (pv 1) (pa_cons (pe_op op_rep (pe_lst (pa_cons (pe_op op_add (pv 2) pe_int) pa_nil)) (pv 3)) pa_nil)))))
    (pss_one (ps_ret (pv 1))))), ?_⟩
    walk_at "ini"
    refine ⟨by show 0 ≤ sizeLine; omega, fun r nr => ?_⟩
    have s1 := same_new (o := .lst []) nr
    have hr1 := upd_same (H := H) (a := r) (o := .lst [])
    revert s1 hr1
    generalize upd H r (.lst []) = H1
    intro s1 hr1
    walk_at "rd"
    refine ⟨a, row.map V.int, rfl, same_l s1 h1, ?_⟩
    refine for_enumP V.int row (fun dn σ H2 => ∃ y2 y3, σ = [some (.ref a), some (.ref r), y2, y3] ∧ Same H H2 ∧ H2 r = some (.lst ((dieM dn).map V.int)))
      ⟨none, none, rfl, s1, hr1⟩ (fun dn σ H2 ⟨_, _, _, s, _⟩ => same_l s h1) (fun dn o rs σ H2 t e ⟨y2, y3, eσ, s2, h2⟩ nt => ?_) (fun σ H2 ⟨y2, y3, eσ, s2, h2⟩ => ?_)
    · subst eσ
      refine rd_gtup (.of upd_same) rfl ?_
      have h3 := keep_new (o := .tup [.int (dn.length : Nat), .int o]) nt h2
      have s3 := s2.trans (same_new (o := .tup [.int (dn.length : Nat), .int o]) nt)
      revert h3 s3
      generalize upd H2 t (.tup [.int (dn.length : Nat), .int o]) = H3
      intro h3 s3
      walk_at "rd"
      refine rd_tyl (.of h3) ?_
      walk_at "rd"
      have ho := hp o (by rw [e]; simp)
      have hsum : dn.sum + o ≤ 1000 := by
        have e2 : row.sum = dn.sum + (o + rs.sum) := by rw [e, List.sum_append, List.sum_cons]
        have := sum_nonneg (l := rs) (fun y hy => hp y (by rw [e]; simp [hy]))
        omega
      have hd0 := sum_nonneg (l := dn) (fun y hy => hp y (by rw [e]; simp [hy]))
      have ld := len_dieM dn (fun y hy => hp y (by rw [e]; simp [hy]))
      refine ⟨by show 1 ≤ sizeLine; rw [sizeLine_eq]; decide, fun z nz => ?_⟩
      have h4 := keep_new (o := .lst [V.int ((dn.length : Nat) + 1)]) nz h3
      have s4 := s3.trans (same_new (o := .lst [V.int ((dn.length : Nat) + 1)]) nz)
      have hz := upd_same (H := H3) (a := z) (o := .lst [V.int ((dn.length : Nat) + 1)])
      revert h4 s4 hz
      generalize upd H3 z (.lst [V.int ((dn.length : Nat) + 1)]) = H4
      intro h4 s4 hz
      walk_at "rd"
      refine rd_rep hz (by omega) (by omega) (by rw [sizeLine_eq]; show 1 * _ ≤ _; omega) (fun u nu => ?_)
      rw [flat_rep]
      have h5 := keep_new (o := .lst ((List.replicate o.toNat ((dn.length : Int) + 1)).map V.int)) nu h4
      have s5 := s4.trans (same_new (o := .lst ((List.replicate o.toNat ((dn.length : Int) + 1)).map V.int)) nu)
      have hu := upd_same (H := H4) (a := u) (o := .lst ((List.replicate o.toNat ((dn.length : Int) + 1)).map V.int))
      revert h5 s5 hu
      generalize upd H4 u (.lst ((List.replicate o.toNat ((dn.length : Int) + 1)).map V.int)) = H5
      intro h5 s5 hu
      walk_at "rd"
      refine ⟨r, u, _, _, rfl, rfl, h5, hu, by rw [List.length_map, List.length_map, List.length_replicate, sizeLine_eq]; omega, ?_⟩
      refine ⟨_, _, rfl, same_mut s5 nr, ?_⟩
      rw [upd_same]
      unfold dieM
      rw [efold_concat, List.map_append]
    · subst eσ
      walk_at "rd"
      exact q _ r s2 nr h2
end

end Tw
set_option Elab.async false
set_option linter.all false
set_option maxRecDepth 100000
set_option maxHeartbeats 4000000
namespace Tw
open PySem PySem.Spec PyProof.Rows L2
local macro_rules | `(tactic| walk_at "rd0") => `(tactic| first
  | with_reducible refine Tw.rd_seq ?_
  | with_reducible refine Tw.rd_asg ?_
  | with_reducible refine Tw.rd_drop ?_
  | with_reducible refine Tw.rd_ret ?_
  | with_reducible refine Tw.rd_retN ?_
  | with_reducible refine Tw.rd_next ?_
  | ((with_reducible refine Tw.rd_var (v := ?vv) ?hv ?_); (case hv => exact rfl))
  | with_reducible refine Tw.rd_c ?_
  | with_reducible refine Tw.rd_op ?_
  | with_reducible refine Tw.rd_un ?_
  | with_reducible refine Tw.rd_I0 ?_
  | with_reducible refine Tw.rd_U ?_
  | with_reducible refine Tw.rd_test ?_
  | with_reducible refine Tw.rd_tB ?_
  | with_reducible refine Tw.rd_bl ?_
  | with_reducible refine Tw.rd_not ?_
  | with_reducible refine Tw.rd_and ?_
  | with_reducible refine Tw.rd_or ?_
  | with_reducible refine Tw.rd_andV ?_
  | with_reducible refine Tw.rd_orV ?_
  | with_reducible refine Tw.rd_notV ?_
  | with_reducible refine Tw.rd_tIf ?_
  | with_reducible refine Tw.rd_cb ?_
  | with_reducible refine Tw.rd_cons ?_
  | with_reducible refine Tw.rd_nil ?_
  | with_reducible refine Tw.rd_call ?_
  | with_reducible refine Tw.rd_tup ?_
  | with_reducible refine Tw.rd_lst ?_
  | with_reducible refine Tw.rd_gname ?_
  | with_reducible refine Tw.rd_chain ?_
  | with_reducible refine Tw.rd_lc ?_
  | with_reducible refine Tw.rd_il ?_
  | with_reducible refine Tw.rd_it ?_
  | with_reducible refine Tw.rd_ie ?_
  | with_reducible refine Tw.rd_ir ?_
  | with_reducible refine Tw.rd_ir2 ?_
  | with_reducible refine Tw.rd_ir3 ?_
  | with_reducible refine Tw.rd_dput ?_
  | with_reducible refine Tw.rd_dget2 ?_
  | with_reducible refine Tw.rd_items ?_
  | with_reducible refine Tw.rd_sl ?_
  | with_reducible refine Tw.rd_nopart ?_
  | with_reducible refine Tw.rd_part ?_
  | with_reducible refine Tw.rd_int ?_
  | with_reducible refine Tw.rd_revL ?_
  | with_reducible refine Tw.rd_bm ?_
  | with_reducible refine Tw.rd_bm0 ?_
  | with_reducible refine Tw.rd_lrg ?_
  | with_reducible refine Tw.rd_rg2 ?_
  | with_reducible refine Tw.rd_rg1 ?_
  | with_reducible refine Tw.rd_int2 ?_
  | with_reducible refine Tw.rd_augS ?_
  | with_reducible refine Tw.rd_ipI ?_
  | with_reducible refine Tw.rd_gsub ?_
  | with_reducible refine Tw.rd_gcons ?_
  | with_reducible refine Tw.rd_gnil ?_
  | with_reducible refine Tw.rd_par ?_
  | with_reducible refine Tw.rd_par2 ?_
  | with_reducible refine Tw.rd_mk ?_
  | with_reducible refine Tw.rd_md ?_
  | with_reducible refine Tw.rd_fld ?_
  | with_reducible refine Tw.rd_sfld ?_)
local macro_rules | `(tactic| walk_at "rd1") => `(tactic| first
  | walk_at "rd0"
  | with_reducible refine Tw.rd_if ?_
  | with_reducible refine Tw.rd_for ?_)
local macro_rules | `(tactic| walk_at "rs") => `(tactic| repeat walk_at "rd0")
local macro_rules | `(tactic| walk_at "rd") => `(tactic| repeat walk_at "rd1")
local macro_rules | `(tactic| walk_at "ini") => `(tactic| (dsimp only [L2.cxOf, L2.start, L2.Cx.wish, L2.Cx.nox, List.map, List.length_cons, List.length_nil, Nat.reduceAdd, Nat.reduceSub, List.replicate, List.cons_append, List.nil_append]; walk_at "rd"))
local macro_rules | `(tactic| walk_at "num") => `(tactic| first
  | exact (show (0 : Int) < _ from by decide)
  | exact (show (0 : Int) < _ ∧ _ < (1073741824 : Int) from by decide)
  | exact (show (0 : Int) ≤ _ ∧ _ ≤ (1000000 : Int) ∧ _ < 2 ^ 64 from by decide))
local macro_rules | `(tactic| walk_at "rn") => `(tactic| repeat (first | walk_at "rd1" | ((with_reducible refine Tw.rd_I ?c ?_); (case c => walk_at "num"))))
theorem sc_least_factor : FnScope ["many", "found", "part"] ["many"] (defScope s_least_factor) := ⟨rfl, rfl, rfl, by decide +kernel, rfl, by decide +kernel, by decide +kernel⟩
section
variable {P : Program} {w : World} {K : PySem.W.Frag} {mg : Str → Option Value} {base : Heap}
theorem ok_least_factor {f : Addr} {fd : FuncData} (F : Fun K "least_factor" "least_factor" s_least_factor f fd) (B : Bn mg) (d_over : Df P w K mg base CX0 1 "over" ["row", "by"] (spOver K)) (mk : ∀ (k : Nat) (sp : Sp), FnOk P w K mg base CX0 k f fd ["many"] sp → Df P w K mg base CX0 k "least_factor" ["many"] sp) :
    ∀ n : Nat, n ≤ 12 → FnOk P w K mg base CX0 (n + 2) f fd ["many"] (spLF n) := by
  intro n
  induction n with
  | zero =>
    intro _
    refine F.ok sc_least_factor (fun vs H Q E h => ?_) (fun cdv A outer s H vs Q E hr h => ?_)
    · obtain ⟨m, rfl, _⟩ := h
      rfl
    · obtain ⟨m, rfl, h1, h2, _⟩ := h
      omega
  | succ n ih =>
    intro hn
    have d_least_factor := mk _ _ (ih (by omega))
    refine F.ok sc_least_factor (fun vs H Q E h => ?_) (fun cdv A outer s H vs Q E hr h => ?_)
    · obtain ⟨m, rfl, _⟩ := h
      rfl
    · obtain ⟨m, rfl, m1, m2, q⟩ := h
      refine ⟨_, (pss_cons (ps_set (i := 1) sc_least_factor.nd rfl (Or.inl rfl) (pe_op op_cat (pe_op op_cat (pe_lst (pa_cons (pe_un un_neg pe_int) pa_nil)) (pe_op op_rep (pe_lst (pa_cons pe_int pa_nil)) (pe_op op_sub (pv 0) pe_int))) (pe_lst (pa_cons pe_int pa_nil))))
    (pss_cons (ps_for PassesOwn.never rfl (pi_range2 (by rfl) B.n_range (pa_cons pe_int (pa_cons (pv 0) pa_nil))) (pg_name (i := 2) sc_least_factor.nd rfl (Or.inl rfl))
      (pss_one (ps_if (pt_cmpR op_eq (pe_op op_mod (pv 0) (pv 2)) pe_int (nomark _)) (pss_one (ps_set (i := 1) sc_least_factor.nd rfl (Or.inl rfl) (pe_df d_over (hr.mono (by omega)) (by rfl) pass0 (pa_cons (pv 1) (pa_cons (pe_df d_least_factor (hr.mono (by omega)) (by rfl) pass0 (pa_cons (pv 2) pa_nil)) pa_nil))))) pss_nil)))
    (pss_one (ps_ret (pv 1))))), ?_⟩
      walk_at "ini"
      have e1 : ((m : Int) - 1).toNat = m - 1 := by omega
      refine ⟨by show 1 ≤ sizeLine; rw [sizeLine_eq]; decide, fun z1 n1 => ?_⟩
      have s1 := same_new (o := .lst [V.int (-1)]) n1
      have h1 := upd_same (H := H) (a := z1) (o := .lst [V.int (-1)])
      revert s1 h1
      generalize upd H z1 (.lst [V.int (-1)]) = H1
      intro s1 h1
      walk_at "rd"
      refine ⟨by show 1 ≤ sizeLine; rw [sizeLine_eq]; decide, fun z2 n2 => ?_⟩
      have s2 := same_new (o := .lst [V.int 0]) n2
      have h2 := upd_same (H := H1) (a := z2) (o := .lst [V.int 0])
      revert s2 h2
      generalize upd H1 z2 (.lst [V.int 0]) = H2
      intro s2 h2
      walk_at "rd"
      refine rd_rep h2 (by omega) (by omega) (by rw [e1, sizeLine_eq]; show 1 * _ ≤ _; omega) (fun z3 n3 => ?_)
      rw [e1, flat_rep]
      have s3 := same_new (o := .lst ((List.replicate (m - 1) (0 : Int)).map V.int)) n3
      have h3 := upd_same (H := H2) (a := z3) (o := .lst ((List.replicate (m - 1) (0 : Int)).map V.int))
      revert s3 h3
      generalize upd H2 z3 (.lst ((List.replicate (m - 1) (0 : Int)).map V.int)) = H3
      intro s3 h3
      walk_at "rd"
      refine rd_cat (s3 _ _ (s2 _ _ h1)) h3 (by rw [List.length_map, List.length_replicate, sizeLine_eq]; show 1 + _ ≤ _; omega) (fun z4 n4 => ?_)
      have s4 := same_new (o := .lst ([V.int (-1)] ++ (List.replicate (m - 1) (0 : Int)).map V.int)) n4
      have h4 := upd_same (H := H3) (a := z4) (o := .lst ([V.int (-1)] ++ (List.replicate (m - 1) (0 : Int)).map V.int))
      revert s4 h4
      generalize upd H3 z4 (.lst ([V.int (-1)] ++ (List.replicate (m - 1) (0 : Int)).map V.int)) = H4
      intro s4 h4
      walk_at "rd"
      refine ⟨by show 1 ≤ sizeLine; rw [sizeLine_eq]; decide, fun z5 n5 => ?_⟩
      have s5 := same_new (o := .lst [V.int 1]) n5
      refine rd_cat (s5 _ _ h4) upd_same (by rw [List.length_append, List.length_map, List.length_replicate, sizeLine_eq]; show 1 + _ + 1 ≤ _; omega) (fun p np => ?_)
      have e6 : [V.int (-1)] ++ (List.replicate (m - 1) (0 : Int)).map V.int ++ [V.int 1] = (lfA m 0).map V.int := by
        show _ = ([-1] ++ List.replicate (m - 1) 0 ++ [1]).map V.int
        rw [List.map_append, List.map_append]
        rfl
      rw [e6]
      have s6 := (s1.trans (s2.trans (s3.trans (s4.trans s5)))).trans (same_new (o := .lst ((lfA m 0).map V.int)) np)
      have h6 := upd_same (H := upd H4 z5 (.lst [V.int 1])) (a := p) (o := .lst ((lfA m 0).map V.int))
      have np0 : H p = none := (s1.trans (s2.trans (s3.trans (s4.trans s5)))).free np
      revert s6 h6
      generalize upd (upd H4 z5 (.lst [V.int 1])) p (.lst ((lfA m 0).map V.int)) = H6
      intro s6 h6
      walk_at "rd"
      refine ⟨1, m, rfl, by omega, ?_⟩
      rw [e1]
      obtain ⟨fa, fb, fc, fd', fe⟩ := lf_fact m1 (by omega)
      refine for_range (lo := 1) (n := m - 1) (fun i σ H7 => ∃ p' y2, σ = [some (.int m), some (.ref p'), y2] ∧ Same H H7 ∧ H p' = none ∧ H7 p' = some (.lst ((lfA m i).map V.int)))
        ⟨p, none, rfl, s6, np0, h6⟩ (fun i σ H7 hi ⟨p', y2, eσ, s7, np', h7⟩ => ?_) (fun σ H7 ⟨p', y2, eσ, s7, np', h7⟩ => ?_)
      · subst eσ
        walk_at "rd"
        refine rd_I (by omega) ?_
        walk_at "rd"
        refine ⟨rfl, ?_⟩
        walk_at "rd"
        have eA : lfA m (i + 1) = if m % (i + 1) = 0 then overM (lfA m i) (lf (i + 1)) else lfA m i := rfl
        have em : ((m : Int) % (1 + (i : Int)) = 0) ↔ m % (i + 1) = 0 := by
          rw [show (1 + (i : Int)) = ((i + 1 : Nat) : Int) by omega]
          omega
        by_cases c : m % (i + 1) = 0
        · rw [decide_eq_true (show V.int ((m : Int) % (1 + (i : Int))) = V.int 0 by rw [em.mpr c])]
          refine iteT ?_
          walk_at "rd"
          rw [show (1 + (i : Int)) = ((i + 1 : Nat) : Int) by omega]
          refine ⟨i + 1, rfl, by omega, by omega, fun H8 z s8 nz hz => ?_⟩
          obtain ⟨_, gb, gc, gd, _⟩ := lf_fact (m := i + 1) (by omega) (by omega)
          have ge := fe i (by omega) c
          walk_at "rd"
          refine ⟨p', z, lfA m i, lf (i + 1), rfl, .of (s8 _ _ h7), .of hz, ⟨gb, ge.1, ge.2⟩, gd, fun H9 u s9 nu hu => ?_⟩
          refine ⟨u, _, rfl, s7.trans (s8.trans s9), s7.free (s8.free nu), ?_⟩
          rw [eA, if_pos c]
          exact hu
        · rw [decide_eq_false (fun z => c (em.mp (V.int.inj z)))]
          refine iteF ?_
          refine ⟨p', _, rfl, s7, np', ?_⟩
          rw [eA, if_neg c]
          exact h7
      · subst eσ
        walk_at "rd"
        rw [fa] at h7
        exact q _ p' s7 np' h7
end

end Tw
set_option Elab.async false
set_option linter.all false
set_option maxRecDepth 100000
set_option maxHeartbeats 4000000
namespace Tw
open PySem PySem.Spec PyProof.Rows L2
local macro_rules | `(tactic| walk_at "rd0") => `(tactic| first
  | with_reducible refine Tw.rd_seq ?_
  | with_reducible refine Tw.rd_asg ?_
  | with_reducible refine Tw.rd_drop ?_
  | with_reducible refine Tw.rd_ret ?_
  | with_reducible refine Tw.rd_retN ?_
  | with_reducible refine Tw.rd_next ?_
  | ((with_reducible refine Tw.rd_var (v := ?vv) ?hv ?_); (case hv => exact rfl))
  | with_reducible refine Tw.rd_c ?_
  | with_reducible refine Tw.rd_op ?_
  | with_reducible refine Tw.rd_un ?_
  | with_reducible refine Tw.rd_I0 ?_
  | with_reducible refine Tw.rd_U ?_
  | with_reducible refine Tw.rd_test ?_
  | with_reducible refine Tw.rd_tB ?_
  | with_reducible refine Tw.rd_bl ?_
  | with_reducible refine Tw.rd_not ?_
  | with_reducible refine Tw.rd_and ?_
  | with_reducible refine Tw.rd_or ?_
  | with_reducible refine Tw.rd_andV ?_
  | with_reducible refine Tw.rd_orV ?_
  | with_reducible refine Tw.rd_notV ?_
  | with_reducible refine Tw.rd_tIf ?_
  | with_reducible refine Tw.rd_cb ?_
  | with_reducible refine Tw.rd_cons ?_
  | with_reducible refine Tw.rd_nil ?_
  | with_reducible refine Tw.rd_call ?_
  | with_reducible refine Tw.rd_tup ?_
  | with_reducible refine Tw.rd_lst ?_
  | with_reducible refine Tw.rd_gname ?_
  | with_reducible refine Tw.rd_chain ?_
  | with_reducible refine Tw.rd_lc ?_
  | with_reducible refine Tw.rd_il ?_
  | with_reducible refine Tw.rd_it ?_
  | with_reducible refine Tw.rd_ie ?_
  | with_reducible refine Tw.rd_ir ?_
  | with_reducible refine Tw.rd_ir2 ?_
  | with_reducible refine Tw.rd_ir3 ?_
  | with_reducible refine Tw.rd_dput ?_
  | with_reducible refine Tw.rd_dget2 ?_
  | with_reducible refine Tw.rd_items ?_
  | with_reducible refine Tw.rd_sl ?_
  | with_reducible refine Tw.rd_nopart ?_
  | with_reducible refine Tw.rd_part ?_
  | with_reducible refine Tw.rd_int ?_
  | with_reducible refine Tw.rd_revL ?_
  | with_reducible refine Tw.rd_bm ?_
  | with_reducible refine Tw.rd_bm0 ?_
  | with_reducible refine Tw.rd_lrg ?_
  | with_reducible refine Tw.rd_rg2 ?_
  | with_reducible refine Tw.rd_rg1 ?_
  | with_reducible refine Tw.rd_int2 ?_
  | with_reducible refine Tw.rd_augS ?_
  | with_reducible refine Tw.rd_ipI ?_
  | with_reducible refine Tw.rd_gsub ?_
  | with_reducible refine Tw.rd_gcons ?_
  | with_reducible refine Tw.rd_gnil ?_
  | with_reducible refine Tw.rd_par ?_
  | with_reducible refine Tw.rd_par2 ?_
  | with_reducible refine Tw.rd_mk ?_
  | with_reducible refine Tw.rd_md ?_
  | with_reducible refine Tw.rd_fld ?_
  | with_reducible refine Tw.rd_sfld ?_)
local macro_rules | `(tactic| walk_at "rd1") => `(tactic| first
  | walk_at "rd0"
  | with_reducible refine Tw.rd_if ?_
  | with_reducible refine Tw.rd_for ?_)
local macro_rules | `(tactic| walk_at "rs") => `(tactic| repeat walk_at "rd0")
local macro_rules | `(tactic| walk_at "rd") => `(tactic| repeat walk_at "rd1")
local macro_rules | `(tactic| walk_at "ini") => `(tactic| (dsimp only [L2.cxOf, L2.start, L2.Cx.wish, L2.Cx.nox, List.map, List.length_cons, List.length_nil, Nat.reduceAdd, Nat.reduceSub, List.replicate, List.cons_append, List.nil_append]; walk_at "rd"))
local macro_rules | `(tactic| walk_at "num") => `(tactic| first
  | exact (show (0 : Int) < _ from by decide)
  | exact (show (0 : Int) < _ ∧ _ < (1073741824 : Int) from by decide)
  | exact (show (0 : Int) ≤ _ ∧ _ ≤ (1000000 : Int) ∧ _ < 2 ^ 64 from by decide))
local macro_rules | `(tactic| walk_at "rn") => `(tactic| repeat (first | walk_at "rd1" | ((with_reducible refine Tw.rd_I ?c ?_); (case c => walk_at "num"))))
theorem sc_parts_of : FnScope ["first", "second", "found", "part", "often"] ["first", "second"] (defScope s_parts_of) := ⟨rfl, rfl, rfl, by decide +kernel, rfl, by decide +kernel, by decide +kernel⟩
section
variable {P : Program} {w : World} {K : PySem.W.Frag} {mg : Str → Option Value} {base : Heap}
theorem ok_parts_of {f : Addr} {fd : FuncData} (F : Fun K "parts_of" "parts_of" s_parts_of f fd) (B : Bn mg) (d_least_factor : Df P w K mg base CX0 14 "least_factor" ["many"] (spLF 12)) : FnOk P w K mg base CX0 15 f fd ["first", "second"] spParts := by
  refine F.ok sc_parts_of (fun vs H Q E h => ?_) (fun cdv A outer s H vs Q E hr h => ?_)
  · obtain ⟨f, s, rfl, _⟩ := h
    rfl
  · obtain ⟨f, s, rfl, ⟨f1, f2⟩, ⟨g1, g2⟩, q⟩ := h
    refine ⟨_, (pss_cons (ps_set (i := 2) sc_parts_of.nd rfl (Or.inl rfl) (pe_lst pa_nil))
    (pss_cons (ps_for PassesOwn.never rfl (pi_range2 (by rfl) B.n_range (pa_cons pe_int (pa_cons (pe_op op_add (pe_callB (call_max2 rfl) (by rfl) B.n_max boot_max (pa_cons (pv 0) (pa_cons (pv 1) pa_nil))) pe_int) pa_nil))) (pg_name (i := 3) sc_parts_of.nd rfl (Or.inl rfl))
      (pss_cons (ps_set (i := 4) sc_parts_of.nd rfl (Or.inl rfl) (pe_op op_add (pe_callTy call_int1 (by rfl) B.n_int boot_int (pa_cons (pe_cmpR op_eq (pe_op op_mod (pv 0) (pv 3)) pe_int (nomark _)) pa_nil)) (pe_callTy call_int1 (by rfl) B.n_int boot_int (pa_cons (pe_cmpR op_eq (pe_op op_mod (pv 1) (pv 3)) pe_int (nomark _)) pa_nil))))
    (pss_one (ps_if (pt_cmpR op_gt (pv 4) pe_int (nomark _)) (pss_one (ps_expr (pe_bm PySem.F.plainAttrs_list PySem.F.slot_list_append PySem.F.type_list_append mt_append (pv 2) (pa_cons (pe_tup (pa_cons (pe_df d_least_factor (hr.mono (by decide)) (by rfl) pass0 (pa_cons (pv 3) pa_nil)) (pa_cons (pv 4) pa_nil))) pa_nil)))) pss_nil))))
    (pss_one (ps_ret (pv 2))))), ?_⟩
    walk_at "ini"
    refine ⟨by show 0 ≤ sizeLine; omega, fun r nr => ?_⟩
    have s1 := same_new (o := .lst []) nr
    have hr1 := upd_same (H := H) (a := r) (o := .lst [])
    revert s1 hr1
    generalize upd H r (.lst []) = H1
    intro s1 hr1
    walk_at "rd"
    refine ⟨f, s, rfl, ?_⟩
    generalize hM : (if s > f then s else f) = M
    have M1 : 2 ≤ M ∧ M ≤ 12 := by
      rw [← hM]
      split <;> omega
    walk_at "rd"
    refine ⟨2, M + 1, rfl, by omega, ?_⟩
    rw [show (M + 1 - 2).toNat = (M - 1).toNat by omega]
    refine for_range (lo := 2) (n := (M - 1).toNat) (fun i σ H2 => ∃ y3 y4, σ = [some (.int f), some (.int s), some (.ref r), y3, y4] ∧ Same H H2 ∧ ∃ rs : List PRow, rs.length ≤ i ∧ H2 r = some (.lst (rs.map fun r => .ref r.t)) ∧ (rs.map fun r => (r.row, r.n)) = nfold (partsS f s) i [] ∧ ∀ z ∈ rs, z.At H2 ∧ z.t ≠ r ∧ z.a ≠ r)
      ⟨none, none, rfl, s1, [], Nat.le_refl _, hr1, rfl, fun _ h => nomatch h⟩ (fun i σ H2 hi ⟨y3, y4, eσ, s2, rs, hl, hr2, er, ha⟩ => ?_) (fun σ H2 ⟨y3, y4, eσ, s2, rs, hl, hr2, er, ha⟩ => ?_)
    · subst eσ
      have eA : nfold (partsS f s) (i + 1) [] = partsS f s i (nfold (partsS f s) i []) := rfl
      rw [eA, ← er]
      walk_at "rd"
      refine rd_I (by omega) ?_
      walk_at "rd"
      refine ⟨rfl, ?_⟩
      walk_at "rd"
      refine .inr ⟨_, rfl, ?_⟩
      walk_at "rd"
      refine rd_I (by omega) ?_
      walk_at "rd"
      refine ⟨rfl, ?_⟩
      walk_at "rd"
      refine .inr ⟨_, rfl, ?_⟩
      walk_at "rd"
      rw [dec_int, dec_int]
      have eo : ((if decide (f % (2 + (i : Int)) = 0) = true then (1 : Int) else 0) + if decide (s % (2 + (i : Int)) = 0) = true then (1 : Int) else 0) = oftenM f s (2 + i) := rfl
      rw [eo]
      by_cases c : 0 < oftenM f s (2 + i)
      · rw [decide_eq_true c]
        refine iteT ?_
        walk_at "rd"
        refine rd_tyl (.of hr2) ?_
        walk_at "rd"
        rw [show (2 + (i : Int)) = ((2 + i : Nat) : Int) by omega]
        refine ⟨2 + i, rfl, by omega, by omega, fun H3 z s3 nz hz => ?_⟩
        walk_at "rd"
        refine ⟨by show 2 ≤ sizeLine; rw [sizeLine_eq]; decide, fun t nt => ?_⟩
        have s4 := same_new (o := .tup [V.ref z, V.int (oftenM f s (2 + i : Nat))]) nt
        have ht := upd_same (H := H3) (a := t) (o := .tup [V.ref z, V.int (oftenM f s (2 + i : Nat))])
        have hz4 := s4 _ _ hz
        have hr4 := s4 _ _ (s3 _ _ hr2)
        have ntr : t ≠ r := fun e => by
          rw [e, s3 _ _ hr2] at nt
          cases nt
        have nzr : z ≠ r := fun e => by
          rw [e, hr2] at nz
          cases nz
        revert s4 ht hz4 hr4
        generalize upd H3 t (.tup [V.ref z, V.int (oftenM f s (2 + i : Nat))]) = H4
        intro s4 ht hz4 hr4
        walk_at "rd"
        refine rd_append hr4 (by rw [List.length_map, sizeLine_eq]; omega) ?_
        have s24 := s3.trans s4
        refine ⟨_, _, rfl, same_mut (s2.trans s24) nr, rs ++ [⟨t, z, lf (2 + i), oftenM f s (2 + i : Nat)⟩], by rw [List.length_append]; exact Nat.succ_le_succ hl, by rw [upd_same, List.map_append]; rfl, ?_, fun y hy => ?_⟩
        · unfold partsS
          rw [if_pos c, List.map_append]
          rfl
        · rcases List.mem_append.mp hy with hy | hy
          · obtain ⟨⟨a1, a2⟩, a3, a4⟩ := ha y hy
            exact ⟨⟨by rw [upd_ne a3]; exact s24 _ _ a1, by rw [upd_ne a4]; exact s24 _ _ a2⟩, a3, a4⟩
          · rw [List.mem_singleton] at hy
            subst hy
            exact ⟨⟨by rw [upd_ne ntr]; exact ht, by rw [upd_ne nzr]; exact hz4⟩, ntr, nzr⟩
      · rw [decide_eq_false c]
        refine iteF ?_
        refine ⟨_, _, rfl, s2, rs, by omega, hr2, ?_, ha⟩
        unfold partsS
        rw [if_neg c]
    · subst eσ
      walk_at "rd"
      refine q _ r rs s2 nr hr2 ?_ (fun z hz => (ha z hz).1)
      rw [er]
      unfold partsM
      rw [hM]
end

end Tw
set_option Elab.async false
set_option linter.all false
set_option maxRecDepth 100000
set_option maxHeartbeats 4000000
namespace Tw
open PySem PySem.Spec PyProof.Rows L2
local macro_rules | `(tactic| walk_at "rd0") => `(tactic| first
  | with_reducible refine Tw.rd_seq ?_
  | with_reducible refine Tw.rd_asg ?_
  | with_reducible refine Tw.rd_drop ?_
  | with_reducible refine Tw.rd_ret ?_
  | with_reducible refine Tw.rd_retN ?_
  | with_reducible refine Tw.rd_next ?_
  | ((with_reducible refine Tw.rd_var (v := ?vv) ?hv ?_); (case hv => exact rfl))
  | with_reducible refine Tw.rd_c ?_
  | with_reducible refine Tw.rd_op ?_
  | with_reducible refine Tw.rd_un ?_
  | with_reducible refine Tw.rd_I0 ?_
  | with_reducible refine Tw.rd_U ?_
  | with_reducible refine Tw.rd_test ?_
  | with_reducible refine Tw.rd_tB ?_
  | with_reducible refine Tw.rd_bl ?_
  | with_reducible refine Tw.rd_not ?_
  | with_reducible refine Tw.rd_and ?_
  | with_reducible refine Tw.rd_or ?_
  | with_reducible refine Tw.rd_andV ?_
  | with_reducible refine Tw.rd_orV ?_
  | with_reducible refine Tw.rd_notV ?_
  | with_reducible refine Tw.rd_tIf ?_
  | with_reducible refine Tw.rd_cb ?_
  | with_reducible refine Tw.rd_cons ?_
  | with_reducible refine Tw.rd_nil ?_
  | with_reducible refine Tw.rd_call ?_
  | with_reducible refine Tw.rd_tup ?_
  | with_reducible refine Tw.rd_lst ?_
  | with_reducible refine Tw.rd_gname ?_
  | with_reducible refine Tw.rd_chain ?_
  | with_reducible refine Tw.rd_lc ?_
  | with_reducible refine Tw.rd_il ?_
  | with_reducible refine Tw.rd_it ?_
  | with_reducible refine Tw.rd_ie ?_
  | with_reducible refine Tw.rd_ir ?_
  | with_reducible refine Tw.rd_ir2 ?_
  | with_reducible refine Tw.rd_ir3 ?_
  | with_reducible refine Tw.rd_dput ?_
  | with_reducible refine Tw.rd_dget2 ?_
  | with_reducible refine Tw.rd_items ?_
  | with_reducible refine Tw.rd_sl ?_
  | with_reducible refine Tw.rd_nopart ?_
  | with_reducible refine Tw.rd_part ?_
  | with_reducible refine Tw.rd_int ?_
  | with_reducible refine Tw.rd_revL ?_
  | with_reducible refine Tw.rd_bm ?_
  | with_reducible refine Tw.rd_bm0 ?_
  | with_reducible refine Tw.rd_lrg ?_
  | with_reducible refine Tw.rd_rg2 ?_
  | with_reducible refine Tw.rd_rg1 ?_
  | with_reducible refine Tw.rd_int2 ?_
  | with_reducible refine Tw.rd_augS ?_
  | with_reducible refine Tw.rd_ipI ?_
  | with_reducible refine Tw.rd_gsub ?_
  | with_reducible refine Tw.rd_gcons ?_
  | with_reducible refine Tw.rd_gnil ?_
  | with_reducible refine Tw.rd_par ?_
  | with_reducible refine Tw.rd_par2 ?_
  | with_reducible refine Tw.rd_mk ?_
  | with_reducible refine Tw.rd_md ?_
  | with_reducible refine Tw.rd_fld ?_
  | with_reducible refine Tw.rd_sfld ?_)
local macro_rules | `(tactic| walk_at "rd1") => `(tactic| first
  | walk_at "rd0"
  | with_reducible refine Tw.rd_if ?_
  | with_reducible refine Tw.rd_for ?_)
local macro_rules | `(tactic| walk_at "rs") => `(tactic| repeat walk_at "rd0")
local macro_rules | `(tactic| walk_at "rd") => `(tactic| repeat walk_at "rd1")
local macro_rules | `(tactic| walk_at "ini") => `(tactic| (dsimp only [L2.cxOf, L2.start, L2.Cx.wish, L2.Cx.nox, List.map, List.length_cons, List.length_nil, Nat.reduceAdd, Nat.reduceSub, List.replicate, List.cons_append, List.nil_append]; walk_at "rd"))
local macro_rules | `(tactic| walk_at "num") => `(tactic| first
  | exact (show (0 : Int) < _ from by decide)
  | exact (show (0 : Int) < _ ∧ _ < (1073741824 : Int) from by decide)
  | exact (show (0 : Int) ≤ _ ∧ _ ≤ (1000000 : Int) ∧ _ < 2 ^ 64 from by decide))
local macro_rules | `(tactic| walk_at "rn") => `(tactic| repeat (first | walk_at "rd1" | ((with_reducible refine Tw.rd_I ?c ?_); (case c => walk_at "num"))))
theorem sc_dealt : FnScope ["first", "second", "found", "part", "often", "longer", "one", "other", "at"] ["first", "second"] (defScope s_dealt) := ⟨rfl, rfl, rfl, by decide +kernel, rfl, by decide +kernel, by decide +kernel⟩
section
variable {P : Program} {w : World} {K : PySem.W.Frag} {mg : Str → Option Value} {base : Heap}
theorem ok_dealt {f : Addr} {fd : FuncData} (F : Fun K "dealt" "dealt" s_dealt f fd) (B : Bn mg) (d_parts_of : Df P w K mg base CX0 15 "parts_of" ["first", "second"] spParts) (d_raised : Df P w K mg base CX0 2 "raised" ["row", "part", "many"] (spRaised K)) : FnOk P w K mg base CX0 16 f fd ["first", "second"] spDealt := by
  refine F.ok sc_dealt (fun vs H Q E h => ?_) (fun cdv A outer s H vs Q E hr h => ?_)
  · obtain ⟨f, s, rfl, _⟩ := h
    rfl
  · obtain ⟨f, s, rfl, hf, hs, q⟩ := h
    refine ⟨_, (pss_cons (ps_set (i := 2) sc_dealt.nd rfl (Or.inl rfl) (pe_lst (pa_cons (pe_tup (pa_cons (pe_lst (pa_cons pe_int pa_nil)) (pa_cons (pe_lst (pa_cons pe_int pa_nil)) pa_nil))) pa_nil)))
    (pss_cons (ps_for PassesOwn.never rfl (pi_list (pe_df d_parts_of (hr.mono (by decide)) (by rfl) pass0 (pa_cons (pv 0) (pa_cons (pv 1) pa_nil)))) (pg_tup rfl (pgs_cons (pg_name (i := 3) sc_dealt.nd rfl (Or.inr rfl)) (pgs_cons (pg_name (i := 4) sc_dealt.nd rfl (Or.inr rfl)) pgs_nil)))
      (pss_cons (ps_set (i := 5) sc_dealt.nd rfl (Or.inl rfl) (pe_lst pa_nil))
    (pss_cons (ps_for PassesOwn.never rfl (pi_list (pv 2)) (pg_tup rfl (pgs_cons (pg_name (i := 6) sc_dealt.nd rfl (Or.inr rfl)) (pgs_cons (pg_name (i := 7) sc_dealt.nd rfl (Or.inr rfl)) pgs_nil)))
      (pss_one (ps_expr (pe_bm PySem.F.plainAttrs_list PySem.F.slot_list_extend PySem.F.type_list_extend mt_extend (pv 5) (pa_cons (pe_lc (own := [("at", 8)]) (g := gName 8) rfl sc_dealt.nd (pi_range1 (by rfl) B.n_range (pa_cons (pe_op op_add (pv 4) pe_int) pa_nil)) (blkOk_by (own := [("at", 8)]) (N := ["first", "second", "found", "part", "often", "longer", "one", "other", "at"]) (sc := defScope s_dealt) (by decide +kernel)) (fun _ _ _ _ _ => pg_name (i := 8) sc_dealt.nd rfl (Or.inl rfl)) (fun _ _ _ _ _ => pts_nil) (fun _ _ _ _ _ => (pe_tup (pa_cons (pe_df d_raised (hr.mono (by decide)) (by rfl) pass0 (pa_cons (pv 6) (pa_cons (pv 3) (pa_cons (pv 8) pa_nil)))) (pa_cons (pe_df d_raised (hr.mono (by decide)) (by rfl) pass0 (pa_cons (pv 7) (pa_cons (pv 3) (pa_cons (pe_op op_sub (pv 4) (pv 8)) pa_nil)))) pa_nil))))) pa_nil)))))
    (pss_one (ps_set (i := 2) sc_dealt.nd rfl (Or.inl rfl) (pv 5))))))
    (pss_one (ps_ret (pv 2))))), ?_⟩
    obtain ⟨pl, pf⟩ := parts_fact hf hs
    walk_at "ini"
    refine ⟨by show 1 ≤ sizeLine; rw [sizeLine_eq]; decide, fun z1 n1 => ?_⟩
    have s1 := same_new (o := .lst [V.int 1]) n1
    have h1 := upd_same (H := H) (a := z1) (o := .lst [V.int 1])
    revert s1 h1
    generalize upd H z1 (.lst [V.int 1]) = H1
    intro s1 h1
    walk_at "rd"
    refine ⟨by show 1 ≤ sizeLine; rw [sizeLine_eq]; decide, fun z2 n2 => ?_⟩
    have s2 := same_new (o := .lst [V.int 1]) n2
    have h2 := upd_same (H := H1) (a := z2) (o := .lst [V.int 1])
    revert s2 h2
    generalize upd H1 z2 (.lst [V.int 1]) = H2
    intro s2 h2
    walk_at "rd"
    refine ⟨by show 2 ≤ sizeLine; rw [sizeLine_eq]; decide, fun z3 n3 => ?_⟩
    have s3 := same_new (o := .tup [V.ref z1, V.ref z2]) n3
    have h3 := upd_same (H := H2) (a := z3) (o := .tup [V.ref z1, V.ref z2])
    revert s3 h3
    generalize upd H2 z3 (.tup [V.ref z1, V.ref z2]) = H3
    intro s3 h3
    walk_at "rd"
    refine ⟨by show 1 ≤ sizeLine; rw [sizeLine_eq]; decide, fun z4 n4 => ?_⟩
    have s4 := same_new (o := .lst [V.ref z3]) n4
    have h4 := upd_same (H := H3) (a := z4) (o := .lst [V.ref z3])
    have s04 := s1.trans (s2.trans (s3.trans s4))
    have n40 : H z4 = none := (s1.trans (s2.trans s3)).free n4
    revert s4 h4 s04
    generalize upd H3 z4 (.lst [V.ref z3]) = H4
    intro s4 h4 s04
    have hA4 : DRow.At H4 ⟨z3, z1, z2, [1], [1]⟩ := ⟨s4 _ _ h3, s4 _ _ (s3 _ _ (s2 _ _ h1)), s4 _ _ (s3 _ _ h2)⟩
    walk_at "rd"
    refine ⟨f, s, rfl, hf, hs, fun H5 p5 rs s5 n5 h5 e5 a5 => ?_⟩
    rw [← e5] at pl pf
    rw [List.length_map] at pl
    refine ⟨p5, rfl, ⟨_, .of h5⟩, ?_⟩
    refine for_listP (fun r : PRow => V.ref r.t) rs (fun dn σ H6 => ∃ r6 y3 y4 y5 y6 y7 y8, σ = [some (.int f), some (.int s), some (.ref r6), y3, y4, y5, y6, y7, y8] ∧ Same H5 H6 ∧ H r6 = none ∧ ∃ ds : List DRow, ds.length ≤ 3 ^ dn.length ∧ H6 r6 = some (.lst (ds.map DRow.v)) ∧ ds.map DRow.pr = (dn.map fun r => (r.row, r.n)).foldl dealS [([1], [1])] ∧ ∀ z ∈ ds, z.At H6 ∧ z.Len (1 + 26 * dn.length))
      ⟨z4, none, none, none, none, none, none, rfl, Same.refl _, n40, [⟨z3, z1, z2, [1], [1]⟩], Nat.le_refl _, s5 _ _ h4, rfl, fun z hz => by
        rw [List.mem_singleton] at hz
        subst hz
        exact ⟨DRow.same s5 hA4, ⟨Nat.le_refl _, Nat.le_refl _⟩, ⟨Nat.le_refl _, Nat.le_refl _⟩⟩⟩
      (fun dn σ H6 ⟨_, _, _, _, _, _, _, _, s6, _⟩ => .of (s6 _ _ h5)) (fun dn pr rest σ H6 e ⟨r6, y3, y4, y5, y6, y7, y8, eσ, s6, n6, ds, dl, h6, e6, a6⟩ => ?_) (fun σ H6 ⟨r6, y3, y4, y5, y6, y7, y8, eσ, s6, n6, ds, dl, h6, e6, a6⟩ => ?_)
    · subst eσ
      have hpr : pr ∈ rs := by rw [e]; simp
      obtain ⟨b1, b2⟩ := a5 pr hpr
      obtain ⟨⟨c1, c2⟩, c3, c4, c5⟩ := pf _ (List.mem_map.mpr ⟨pr, hpr, rfl⟩)
      replace c1 : 1 ≤ pr.row.length := c1
      replace c2 : pr.row.length ≤ 13 := c2
      replace c3 : Sm pr.row := c3
      replace c4 : 1 ≤ pr.n := c4
      replace c5 : pr.n ≤ 2 := c5
      have ldn : dn.length < 11 := by
        have : rs.length = dn.length + (rest.length + 1) := by rw [e, List.length_append, List.length_cons]
        omega
      have l3 : 3 ^ dn.length ≤ 3 ^ 10 := Nat.pow_le_pow_right (by decide) (by omega)
      replace l3 : 3 ^ dn.length ≤ 59049 := l3
      refine rd_gtup (.of (s6 _ _ b1)) rfl ?_
      walk_at "rd"
      refine ⟨by show 0 ≤ sizeLine; omega, fun r7 n7 => ?_⟩
      have s7 := same_new (o := .lst []) n7
      have h7 := upd_same (H := H6) (a := r7) (o := .lst [])
      have n70 : H5 r7 = none := s6.free n7
      revert s7 h7
      generalize upd H6 r7 (.lst []) = H7
      intro s7 h7
      walk_at "rd"
      refine ⟨r6, rfl, ⟨_, .of (s7 _ _ h6)⟩, ?_⟩
      refine for_listP DRow.v ds (fun dm σ H8 => ∃ y6 y7 y8, σ = [some (.int f), some (.int s), some (.ref r6), some (.ref pr.a), some (.int pr.n), some (.ref r7), y6, y7, y8] ∧ Same H6 H8 ∧ ∃ es : List DRow, es.length ≤ 3 * dm.length ∧ H8 r7 = some (.lst (es.map DRow.v)) ∧ es.map DRow.pr = (dm.map DRow.pr).flatMap (dealR (pr.row, pr.n)) ∧ ∀ z ∈ es, z.At H8 ∧ z.Len (1 + 26 * (dn.length + 1)))
        ⟨_, _, _, rfl, s7, [], Nat.le_refl _, h7, rfl, fun _ h => nomatch h⟩ (fun dm σ H8 ⟨_, _, _, _, s8, _⟩ => .of (s8 _ _ h6)) (fun dm z rest' σ H8 e' ⟨y6, y7, y8, eσ, s8, es, el, h8, e8, a8⟩ => ?_) (fun σ H8 ⟨y6, y7, y8, eσ, s8, es, el, h8, e8, a8⟩ => ?_)
      · subst eσ
        have hz : z ∈ ds := by rw [e']; simp
        obtain ⟨⟨az1, az2, az3⟩, ⟨lz1, lz2⟩, ⟨lz3, lz4⟩⟩ := a6 z hz
        have ldm : dm.length < ds.length := by rw [e', List.length_append, List.length_cons]; omega
        refine rd_gtup (.of (s8 _ _ az1)) rfl ?_
        walk_at "rd"
        refine rd_tyl (.of h8) ?_
        walk_at "rd"
        refine ⟨pr.n + 1, rfl, by omega, by omega, fun D nD => ?_⟩
        refine lc_rows L2.walk_range DRow.objs DRow.v (fun i b => b.pr = (raisedM z.one pr.row i, raisedM z.other pr.row (pr.n - (i : Nat)).toNat) ∧ b.Len (1 + 26 * (dn.length + 1))) nD (by rw [sizeLine_eq]; omega) (fun _ _ => trivial) (fun i x H9 H9' bs hi s9 hD ⟨eH, ex⟩ Q' q' => ?_) (fun H9 bs s9 hD lb hR hA => ?_)
        · have ex' : x = V.int ((i : Nat) : Int) := by
            rw [ex]
            show V.int (0 + ((i : Nat) : Int)) = _
            rw [Int.zero_add]
          clear ex
          subst eH ex'
          refine ⟨rfl, ?_⟩
          have s69 := s8.trans s9
          walk_at "rd"
          have i2 : i ≤ 2 := by omega
          have m1 : i * pr.row.length ≤ 2 * 13 := Nat.mul_le_mul i2 c2
          have m2 : (pr.n - (i : Nat)).toNat * pr.row.length ≤ 2 * 13 := Nat.mul_le_mul (by omega) c2
          refine ⟨z.a, pr.a, z.one, pr.row, i, rfl, s69 _ _ az2, .of (s69 _ _ (s6 _ _ b2)), ⟨lz1, by omega⟩, ⟨c1, by omega⟩, by omega, c3, fun H10 u1 s10 hu1 => ?_⟩
          walk_at "rd"
          rw [show pr.n - ((i : Nat) : Int) = (((pr.n - (i : Nat)).toNat : Nat) : Int) by omega]
          refine ⟨z.b, pr.a, z.other, pr.row, (pr.n - (i : Nat)).toNat, rfl, s10 _ _ (s69 _ _ az3), .of (s10 _ _ (s69 _ _ (s6 _ _ b2))), ⟨lz3, by omega⟩, ⟨c1, by omega⟩, by omega, c3, fun H11 u2 s11 hu2 => ?_⟩
          walk_at "rd"
          refine ⟨by show 2 ≤ sizeLine; rw [sizeLine_eq]; decide, fun t nt => ?_⟩
          have hA : DRow.At (upd H11 t (.tup [V.ref u1, V.ref u2])) ⟨t, u1, u2, raisedM z.one pr.row i, raisedM z.other pr.row (pr.n - (i : Nat)).toNat⟩ := ⟨upd_same, keep_new nt (s11 _ _ hu1), keep_new nt hu2⟩
          have s12 := s10.trans (s11.trans (same_new (o := .tup [V.ref u1, V.ref u2]) nt))
          have l1 := len_raised z.one pr.row i
          have l2 := len_raised z.other pr.row (pr.n - (i : Nat)).toNat
          have g1 := pos_raised lz1 c1 i
          have g2 := pos_raised lz3 c1 (pr.n - (i : Nat)).toNat
          refine q' _ ⟨t, u1, u2, raisedM z.one pr.row i, raisedM z.other pr.row (pr.n - (i : Nat)).toNat⟩ s12 (DRow.has.mpr hA) (DRow.offs.mpr (DRow.off hA g1 g2 (s12 _ _ hD) (refs_v bs))) ⟨rfl, ⟨g1, by show (raisedM z.one pr.row i).length ≤ _; omega⟩, ⟨g2, by show (raisedM z.other pr.row _).length ≤ _; omega⟩⟩
        · walk_at "rd"
          have s69 := s8.trans s9
          have hr9 := s9 _ _ h8
          refine ⟨r7, D, _, _, rfl, rfl, hr9, hD, by rw [List.length_map, List.length_map, lb, sizeLine_eq]; omega, ?_⟩
          have hall : ∀ y ∈ es ++ bs, y.At H9 ∧ y.Len (1 + 26 * (dn.length + 1)) := fun y hy => by
            rcases List.mem_append.mp hy with hy | hy
            · exact ⟨DRow.same s9 (a8 y hy).1, (a8 y hy).2⟩
            · obtain ⟨k, hk⟩ := List.getElem?_of_mem hy
              exact ⟨DRow.has.mp (hA y hy).1, (hR k y hk).2⟩
          refine ⟨_, _, _, rfl, same_mut s69 n7, es ++ bs, ?_, ?_, ?_, fun y hy => ?_⟩
          · rw [List.length_append, lb, List.length_append]
            show _ ≤ 3 * (dm.length + 1)
            omega
          · rw [upd_same, List.map_append]
          · rw [List.map_append, e8, List.map_append, List.flatMap_append, map_range DRow.pr (fun i => (raisedM z.one pr.row i, raisedM z.other pr.row (pr.n - (i : Nat)).toNat)) bs lb (fun i b hb => (hR i b hb).1)]
            congr 1
            show _ = dealR (pr.row, pr.n) z.pr ++ []
            rw [List.append_nil]
            rfl
          · obtain ⟨y1, y2⟩ := hall y hy
            exact ⟨DRow.upd y1 (DRow.off y1 y2.1.1 y2.2.1 hr9 (refs_v es)), y2⟩
      · subst eσ
        walk_at "rd"
        refine ⟨r7, _, _, _, _, _, _, rfl, s6.trans s8, s04.free (s5.free n70), es, ?_, h8, ?_, fun y hy => ?_⟩
        · rw [List.length_append]
          show _ ≤ 3 ^ (dn.length + 1)
          rw [Nat.pow_succ]
          omega
        · rw [e8, e6, List.map_append, List.foldl_append]
          rfl
        · obtain ⟨y1, y2⟩ := a8 y hy
          rw [List.length_append]
          exact ⟨y1, y2⟩
    · subst eσ
      walk_at "rd"
      refine q _ r6 ds (s04.trans (s5.trans s6)) n6 h6 ?_ (by have : 3 ^ rs.length ≤ 3 ^ 11 := Nat.pow_le_pow_right (by decide) pl; replace this : 3 ^ rs.length ≤ 177147 := this; omega) (fun z hz => ⟨(a6 z hz).1, ⟨(a6 z hz).2.1.1, by have := (a6 z hz).2.1.2; omega⟩, ⟨(a6 z hz).2.2.1, by have := (a6 z hz).2.2.2; omega⟩⟩)
      rw [e6, e5]
      rfl
end

end Tw
set_option Elab.async false
set_option linter.all false
set_option maxRecDepth 100000
set_option maxHeartbeats 4000000
namespace Tw
open PySem PySem.Spec PyProof.Rows L2
local macro_rules | `(tactic| walk_at "rd0") => `(tactic| first
  | with_reducible refine Tw.rd_seq ?_
  | with_reducible refine Tw.rd_asg ?_
  | with_reducible refine Tw.rd_drop ?_
  | with_reducible refine Tw.rd_ret ?_
  | with_reducible refine Tw.rd_retN ?_
  | with_reducible refine Tw.rd_next ?_
  | ((with_reducible refine Tw.rd_var (v := ?vv) ?hv ?_); (case hv => exact rfl))
  | with_reducible refine Tw.rd_c ?_
  | with_reducible refine Tw.rd_op ?_
  | with_reducible refine Tw.rd_un ?_
  | with_reducible refine Tw.rd_I0 ?_
  | with_reducible refine Tw.rd_U ?_
  | with_reducible refine Tw.rd_test ?_
  | with_reducible refine Tw.rd_tB ?_
  | with_reducible refine Tw.rd_bl ?_
  | with_reducible refine Tw.rd_not ?_
  | with_reducible refine Tw.rd_and ?_
  | with_reducible refine Tw.rd_or ?_
  | with_reducible refine Tw.rd_andV ?_
  | with_reducible refine Tw.rd_orV ?_
  | with_reducible refine Tw.rd_notV ?_
  | with_reducible refine Tw.rd_tIf ?_
  | with_reducible refine Tw.rd_cb ?_
  | with_reducible refine Tw.rd_cons ?_
  | with_reducible refine Tw.rd_nil ?_
  | with_reducible refine Tw.rd_call ?_
  | with_reducible refine Tw.rd_tup ?_
  | with_reducible refine Tw.rd_lst ?_
  | with_reducible refine Tw.rd_gname ?_
  | with_reducible refine Tw.rd_chain ?_
  | with_reducible refine Tw.rd_lc ?_
  | with_reducible refine Tw.rd_il ?_
  | with_reducible refine Tw.rd_it ?_
  | with_reducible refine Tw.rd_ie ?_
  | with_reducible refine Tw.rd_ir ?_
  | with_reducible refine Tw.rd_ir2 ?_
  | with_reducible refine Tw.rd_ir3 ?_
  | with_reducible refine Tw.rd_dput ?_
  | with_reducible refine Tw.rd_dget2 ?_
  | with_reducible refine Tw.rd_items ?_
  | with_reducible refine Tw.rd_sl ?_
  | with_reducible refine Tw.rd_nopart ?_
  | with_reducible refine Tw.rd_part ?_
  | with_reducible refine Tw.rd_int ?_
  | with_reducible refine Tw.rd_revL ?_
  | with_reducible refine Tw.rd_bm ?_
  | with_reducible refine Tw.rd_bm0 ?_
  | with_reducible refine Tw.rd_lrg ?_
  | with_reducible refine Tw.rd_rg2 ?_
  | with_reducible refine Tw.rd_rg1 ?_
  | with_reducible refine Tw.rd_int2 ?_
  | with_reducible refine Tw.rd_augS ?_
  | with_reducible refine Tw.rd_ipI ?_
  | with_reducible refine Tw.rd_gsub ?_
  | with_reducible refine Tw.rd_gcons ?_
  | with_reducible refine Tw.rd_gnil ?_
  | with_reducible refine Tw.rd_par ?_
  | with_reducible refine Tw.rd_par2 ?_
  | with_reducible refine Tw.rd_mk ?_
  | with_reducible refine Tw.rd_md ?_
  | with_reducible refine Tw.rd_fld ?_
  | with_reducible refine Tw.rd_sfld ?_)
local macro_rules | `(tactic| walk_at "rd1") => `(tactic| first
  | walk_at "rd0"
  | with_reducible refine Tw.rd_if ?_
  | with_reducible refine Tw.rd_for ?_)
local macro_rules | `(tactic| walk_at "rs") => `(tactic| repeat walk_at "rd0")
local macro_rules | `(tactic| walk_at "rd") => `(tactic| repeat walk_at "rd1")
local macro_rules | `(tactic| walk_at "ini") => `(tactic| (dsimp only [L2.cxOf, L2.start, L2.Cx.wish, L2.Cx.nox, List.map, List.length_cons, List.length_nil, Nat.reduceAdd, Nat.reduceSub, List.replicate, List.cons_append, List.nil_append]; walk_at "rd"))
local macro_rules | `(tactic| walk_at "num") => `(tactic| first
  | exact (show (0 : Int) < _ from by decide)
  | exact (show (0 : Int) < _ ∧ _ < (1073741824 : Int) from by decide)
  | exact (show (0 : Int) ≤ _ ∧ _ ≤ (1000000 : Int) ∧ _ < 2 ^ 64 from by decide))
local macro_rules | `(tactic| walk_at "rn") => `(tactic| repeat (first | walk_at "rd1" | ((with_reducible refine Tw.rd_I ?c ?_); (case c => walk_at "num"))))
theorem sc_twins_of : FnScope ["first", "second", "found", "one", "other", "mine", "theirs", "many"] ["first", "second"] (defScope s_twins_of) := ⟨rfl, rfl, rfl, by decide +kernel, rfl, by decide +kernel, by decide +kernel⟩
section
variable {P : Program} {w : World} {K : PySem.W.Frag} {mg : Str → Option Value} {base : Heap}
theorem ok_twins_of {f : Addr} {fd : FuncData} (F : Fun K "twins_of" "twins_of" s_twins_of f fd) (B : Bn mg) (d_dealt : Df P w K mg base CX0 16 "dealt" ["first", "second"] spDealt) (d_die_of : Df P w K mg base CX0 1 "die_of" ["row"] (spDieOf K)) : FnOk P w K mg base CX0 17 f fd ["first", "second"] spTwinsOf := by
  refine F.ok sc_twins_of (fun vs H Q E h => ?_) (fun cdv A outer s H vs Q E hr h => ?_)
  · obtain ⟨f, s, rfl, _⟩ := h
    rfl
  · obtain ⟨f, s, rfl, hf, hs, fit, q⟩ := h
    refine ⟨_, (pss_cons (ps_set (i := 2) sc_twins_of.nd rfl (Or.inl rfl) (pe_lst pa_nil))
    (pss_cons (ps_for PassesOwn.never rfl (pi_list (pe_df d_dealt (hr.mono (by decide)) (by rfl) pass0 (pa_cons (pv 0) (pa_cons (pv 1) pa_nil)))) (pg_tup rfl (pgs_cons (pg_name (i := 3) sc_twins_of.nd rfl (Or.inl rfl)) (pgs_cons (pg_name (i := 4) sc_twins_of.nd rfl (Or.inl rfl)) pgs_nil)))
      (pss_one (ps_if (PW.pt (pw_and (pt_cmpR op_ge (pe_callB (r := rMin K) (cr_min rfl) (by rfl) B.n_min boot_min (pa_cons (pv 3) pa_nil)) pe_int (nomark _)) (pw_and (pt_cmpR op_ge (pe_callB (r := rMin K) (cr_min rfl) (by rfl) B.n_min boot_min (pa_cons (pv 4) pa_nil)) pe_int (nomark _)) (pw_and (pt_cmpR op_gt (pe_callB (r := rSum K) (cr_sum rfl) (by rfl) B.n_sum boot_sum (pa_cons (pv 3) pa_nil)) pe_int (nomark _)) (pw_and1 (pt_cmpR op_gt (pe_callB (r := rSum K) (cr_sum rfl) (by rfl) B.n_sum boot_sum (pa_cons (pv 4) pa_nil)) pe_int (nomark _))))))) (pss_cons (ps_par (i := 5) (j := 6) (by rfl) sc_twins_of.nd rfl rfl (by decide) rfl rfl (pa_cons (pe_df d_die_of (hr.mono (by decide)) (by rfl) pass0 (pa_cons (pv 3) pa_nil)) (pa_cons (pe_df d_die_of (hr.mono (by decide)) (by rfl) pass0 (pa_cons (pv 4) pa_nil)) pa_nil)) (by rfl))
    (pss_one (ps_if (pt_cmpR (op_leD hr.units) (pe_tup (pa_cons (pe_callB (r := rLen K) call_lenQ (by rfl) B.n_len boot_len (pa_cons (pv 5) pa_nil)) (pa_cons (pv 5) pa_nil))) (pe_tup (pa_cons (pe_callB (r := rLen K) call_lenQ (by rfl) B.n_len boot_len (pa_cons (pv 6) pa_nil)) (pa_cons (pv 6) pa_nil))) (nomark _)) (pss_one (ps_expr (pe_bm PySem.F.plainAttrs_list PySem.F.slot_list_append PySem.F.type_list_append mt_append (pv 2) (pa_cons (pe_tup (pa_cons (pe_callB (r := rLen K) call_lenQ (by rfl) B.n_len boot_len (pa_cons (pv 5) pa_nil)) (pa_cons (pv 5) (pa_cons (pv 6) pa_nil)))) pa_nil)))) pss_nil))) pss_nil)))
    (pss_one (ps_ret (pe_lc (own := [("many", 7), ("mine", 5), ("theirs", 6)]) (g := gTup K 3 (gCons (gName 7) (gCons (gName 5) (gCons (gName 6) gNil)))) rfl sc_twins_of.nd (pi_list (pe_callB (r := rSortD K) (cr_sortD hr.units) (by rfl) B.n_sorted boot_sorted (pa_cons (pv 2) pa_nil))) (blkOk_by (own := [("many", 7), ("mine", 5), ("theirs", 6)]) (N := ["first", "second", "found", "one", "other", "mine", "theirs", "many"]) (sc := defScope s_twins_of) (by decide +kernel)) (fun _ _ _ _ _ => (pg_tup rfl (pgs_cons (pg_name (i := 7) sc_twins_of.nd rfl (Or.inl rfl)) (pgs_cons (pg_name (i := 5) sc_twins_of.nd rfl (Or.inl rfl)) (pgs_cons (pg_name (i := 6) sc_twins_of.nd rfl (Or.inl rfl)) pgs_nil))))) (fun _ _ _ _ _ => pts_nil) (fun _ _ _ _ _ => (pe_tup (pa_cons (pv 5) (pa_cons (pv 6) pa_nil))))))))), ?_⟩
    walk_at "ini"
    refine ⟨by show 0 ≤ sizeLine; omega, fun r nr => ?_⟩
    have s1 := same_new (o := .lst []) nr
    have hr1 := upd_same (H := H) (a := r) (o := .lst [])
    revert s1 hr1
    generalize upd H r (.lst []) = H1
    intro s1 hr1
    walk_at "rd"
    refine ⟨f, s, rfl, hf, hs, fun H5 p5 rs s5 n5 h5 e5 l5 a5 => ?_⟩
    have s15 := s1.trans s5
    refine ⟨p5, rfl, ⟨_, .of h5⟩, ?_⟩
    have p5r : p5 ≠ r := fun e => by
      rw [e, hr1] at n5
      cases n5
    have fits : ∀ z ∈ rs, fitR z.pr = true := fun z hz => by
      have := List.all_eq_true.mp fit z.pr (by rw [← e5]; exact List.mem_map.mpr ⟨z, hz, rfl⟩)
      exact this
    have offR : ∀ z ∈ rs, z.Off r := fun z hz => by
      obtain ⟨a, l⟩ := a5 z hz
      exact DRow.off (vs := []) a l.1.1 l.2.1 (s5 _ _ hr1) (fun _ h => nomatch h)
    refine for_listP DRow.v rs (fun dn σ H6 => ∃ y3 y4 y5 y6 y7, σ = [some (.int f), some (.int s), some (.ref r), y3, y4, y5, y6, y7] ∧ Same H H6 ∧ H6 p5 = some (.lst (rs.map DRow.v)) ∧ (∀ z ∈ rs, z.At H6) ∧ ∃ ts : List DRow, ts.length ≤ dn.length ∧ H6 r = some (.lst (ts.map DRow.v)) ∧ ts.map DRow.p3 = (dn.map DRow.pr).foldl twS [] ∧ ∀ z ∈ ts, z.At3 H6 ∧ z.Off r ∧ H z.a = none ∧ H z.b = none)
      ⟨none, none, none, none, none, rfl, s15, h5, fun z hz => (a5 z hz).1, [], Nat.le_refl _, s5 _ _ hr1, rfl, fun _ h => nomatch h⟩
      (fun dn σ H6 ⟨_, _, _, _, _, _, _, h6, _⟩ => .of h6) (fun dn z rest σ H6 e ⟨y3, y4, y5, y6, y7, eσ, s6, h56, a6, ts, tl, h6, e6, t6⟩ => ?_) (fun σ H6 ⟨y3, y4, y5, y6, y7, eσ, s6, h56, a6, ts, tl, h6, e6, t6⟩ => ?_)
    · subst eσ
      have hz : z ∈ rs := by rw [e]; simp
      obtain ⟨az1, az2, az3⟩ := a6 z hz
      obtain ⟨_, ⟨l1, _⟩, ⟨l2, _⟩⟩ := a5 z hz
      have fz := fits z hz
      have eS : ((dn ++ [z]).map DRow.pr).foldl twS [] = twS (ts.map DRow.p3) z.pr := by
        rw [List.map_append, List.foldl_append, ← e6]
        rfl
      rw [eS]
      have skip : okR z.pr = false → ∃ x3 x4 x5 x6 x7, [some (V.int f), some (V.int s), some (V.ref r), some (V.ref z.a), some (V.ref z.b), y5, y6, y7] = [some (.int f), some (.int s), some (.ref r), x3, x4, x5, x6, x7] ∧ Same H H6 ∧ H6 p5 = some (.lst (rs.map DRow.v)) ∧ (∀ z ∈ rs, z.At H6) ∧ ∃ ts' : List DRow, ts'.length ≤ (dn ++ [z]).length ∧ H6 r = some (.lst (ts'.map DRow.v)) ∧ ts'.map DRow.p3 = twS (ts.map DRow.p3) z.pr ∧ ∀ z ∈ ts', z.At3 H6 ∧ z.Off r ∧ H z.a = none ∧ H z.b = none := fun c => by
        refine ⟨_, _, _, _, _, rfl, s6, h56, a6, ts, by rw [List.length_append]; omega, h6, ?_, t6⟩
        unfold twS
        rw [if_neg (by rw [c]; decide)]
      refine rd_gtup (.of az1) rfl ?_
      walk_at "rd"
      refine ⟨z.a, z.one, rfl, .of az2, by omega, fun m hm hle => ?_⟩
      walk_at "rd"
      rw [min_all hm hle]
      cases c1 : z.one.all (fun x => decide (0 ≤ x)) with
      | false =>
        refine iteF (iteF ?_)
        exact skip (by unfold okR; show (z.one.all _ && _ && _ && _) = false; rw [c1]; rfl)
      | true =>
      refine iteT ?_
      walk_at "rd"
      refine ⟨z.b, z.other, rfl, .of az3, by omega, fun m' hm' hle' => ?_⟩
      walk_at "rd"
      rw [min_all hm' hle']
      cases c2 : z.other.all (fun x => decide (0 ≤ x)) with
      | false =>
        refine iteF (iteF ?_)
        exact skip (by unfold okR; show (z.one.all _ && z.other.all _ && _ && _) = false; rw [c2, Bool.and_false]; rfl)
      | true =>
      refine iteT ?_
      walk_at "rd"
      refine rd_sum (.of az2) ?_
      walk_at "rd"
      by_cases c3 : 1 < z.one.sum
      case neg =>
        rw [decide_eq_false c3]
        refine iteF (iteF ?_)
        exact skip (by unfold okR; show (_ && _ && decide (1 < z.one.sum) && _) = false; rw [decide_eq_false c3, Bool.and_false]; rfl)
      rw [decide_eq_true c3]
      refine iteT ?_
      walk_at "rd"
      refine rd_sum (.of az3) ?_
      walk_at "rd"
      by_cases c4 : 1 < z.other.sum
      case neg =>
        rw [decide_eq_false c4]
        refine iteF ?_
        exact skip (by unfold okR; show (_ && _ && _ && decide (1 < z.other.sum)) = false; rw [decide_eq_false c4, Bool.and_false])
      rw [decide_eq_true c4]
      refine iteT ?_
      have ok : okR z.pr = true := by
        unfold okR
        show (z.one.all _ && z.other.all _ && decide (1 < z.one.sum) && decide (1 < z.other.sum)) = true
        rw [c1, c2, decide_eq_true c3, decide_eq_true c4]
        rfl
      have sums : z.one.sum ≤ 1000 ∧ z.other.sum ≤ 1000 := by
        unfold fitR at fz
        rw [ok] at fz
        simp only [Bool.not_true, Bool.false_or, Bool.and_eq_true, decide_eq_true_eq] at fz
        exact fz
      have p1 : ∀ y ∈ z.one, 0 ≤ y := fun y hy => by simpa using List.all_eq_true.mp c1 y hy
      have p2 : ∀ y ∈ z.other, 0 ≤ y := fun y hy => by simpa using List.all_eq_true.mp c2 y hy
      walk_at "rd"
      refine ⟨z.a, z.one, rfl, .of az2, p1, sums.1, fun H7 u1 s7 nu1 hu1 => ?_⟩
      walk_at "rd"
      refine ⟨z.b, z.other, rfl, .of (s7 _ _ az3), p2, sums.2, fun H8 u2 s8 nu2 hu2 => ?_⟩
      walk_at "rd"
      have hu18 := s8 _ _ hu1
      have s68 := s7.trans s8
      have n1r : u1 ≠ r := fun e => by
        rw [e, h6] at nu1
        cases nu1
      have n2r : u2 ≠ r := fun e => by
        rw [e, s7 _ _ h6] at nu2
        cases nu2
      have f1 : H u1 = none := s6.free nu1
      have f2 : H u2 = none := s6.free (s7.free nu2)
      have z1 := len_dieM _ p1
      have z2 := len_dieM _ p2
      have eT : twS (ts.map DRow.p3) z.pr = if le2D (dieM z.one) (dieM z.other) = true then ts.map DRow.p3 ++ [(((dieM z.one).length : Int), dieM z.one, dieM z.other)] else ts.map DRow.p3 := by
        unfold twS
        rw [if_pos ok]
        rfl
      rw [eT]
      revert hu1 hu2 hu18 z1 z2
      generalize dieM z.one = M1
      generalize dieM z.other = M2
      intro hu1 hu2 hu18 z1 z2
      refine ⟨u1, _, rfl, .inl (.of hu18), ?_⟩
      walk_at "rd"
      refine ⟨by show 2 ≤ sizeLine; rw [sizeLine_eq]; decide, fun t1 nt1 => ?_⟩
      rw [List.length_map]
      have s9 := same_new (o := .tup [V.int (M1.length : Nat), V.ref u1]) nt1
      have k1 := upd_same (H := H8) (a := t1) (o := .tup [V.int (M1.length : Nat), V.ref u1])
      revert s9 k1
      generalize upd H8 t1 (.tup [V.int (M1.length : Nat), V.ref u1]) = H9
      intro s9 k1
      walk_at "rd"
      refine ⟨u2, _, rfl, .inl (.of (s9 _ _ hu2)), ?_⟩
      walk_at "rd"
      refine ⟨by show 2 ≤ sizeLine; rw [sizeLine_eq]; decide, fun t2 nt2 => ?_⟩
      rw [List.length_map]
      have s10 := same_new (o := .tup [V.int (M2.length : Nat), V.ref u2]) nt2
      have k2 := upd_same (H := H9) (a := t2) (o := .tup [V.int (M2.length : Nat), V.ref u2])
      revert s10 k2
      generalize upd H9 t2 (.tup [V.int (M2.length : Nat), V.ref u2]) = H10
      intro s10 k2
      have s810 := s9.trans s10
      have s610 := s68.trans s810
      have v1 := s810 _ _ hu18
      have v2 := s810 _ _ hu2
      have d1 : Dp K H10 (.ref t1) (d2 ((M1.length : Nat), M1)) := .tup (.of (s10 _ _ k1)) (.cons (.int _) (.cons (dp_ints (.of v1)) .nil))
      have d2' : Dp K H10 (.ref t2) (d2 ((M2.length : Nat), M2)) := .tup (.of k2) (.cons (.int _) (.cons (dp_ints (.of v2)) .nil))
      refine rd_leE ord2 (by decide) d1 d2' (fun h => nomatch h) ?_
      have eL : le2 ((M1.length : Nat), M1) ((M2.length : Nat), M2) = le2D M1 M2 := rfl
      rw [eL]
      have h610 := s610 _ _ h6
      walk_at "rd"
      cases c5 : le2D M1 M2 with
      | false =>
        refine iteF ?_
        refine ⟨_, _, _, _, _, rfl, s6.trans s610, s610 _ _ h56, fun y hy => DRow.same s610 (a6 y hy), ts, by rw [List.length_append]; omega, h610, ?_, fun y hy => ?_⟩
        · rw [if_neg (by decide)]
        · obtain ⟨y1, y2⟩ := t6 y hy
          exact ⟨DRow.same3 s610 y1, y2⟩
      | true =>
        refine iteT ?_
        walk_at "rd"
        refine rd_tyl (.of h610) ?_
        walk_at "rd"
        refine ⟨u1, _, rfl, .inl (.of v1), ?_⟩
        walk_at "rd"
        refine ⟨by show 3 ≤ sizeLine; rw [sizeLine_eq]; decide, fun t nt => ?_⟩
        rw [List.length_map]
        have s11 := same_new (o := .tup [V.int (M1.length : Nat), V.ref u1, V.ref u2]) nt
        have k3 := upd_same (H := H10) (a := t) (o := .tup [V.int (M1.length : Nat), V.ref u1, V.ref u2])
        have ntr : t ≠ r := fun e => by
          rw [e, h610] at nt
          cases nt
        revert s11 k3
        generalize upd H10 t (.tup [V.int (M1.length : Nat), V.ref u1, V.ref u2]) = H11
        intro s11 k3
        have s611 := s610.trans s11
        have h611 := s611 _ _ h6
        have lrs : dn.length < rs.length := by rw [e, List.length_append, List.length_cons]; omega
        walk_at "rd"
        refine rd_append h611 (by rw [List.length_map, sizeLine_eq]; omega) ?_
        have row : DRow.At3 H11 ⟨t, u1, u2, M1, M2⟩ := ⟨k3, s11 _ _ v1, s11 _ _ v2⟩
        refine ⟨_, _, _, _, _, rfl, same_mut (s6.trans s611) nr, ?_, fun y hy => ?_, ts ++ [⟨t, u1, u2, M1, M2⟩], ?_, ?_, ?_, fun y hy => ?_⟩
        · rw [upd_ne p5r]
          exact s611 _ _ h56
        · exact DRow.upd (DRow.same s611 (a6 y hy)) (offR y hy)
        · rw [List.length_append, List.length_append]
          exact Nat.succ_le_succ tl
        · rw [upd_same, List.map_append]
          rfl
        · rw [if_pos rfl, List.map_append]
          rfl
        · rcases List.mem_append.mp hy with hy | hy
          · obtain ⟨y1, y2, y3, y4⟩ := t6 y hy
            exact ⟨DRow.upd3 (DRow.same3 s611 y1) y2, y2, y3, y4⟩
          · rw [List.mem_singleton] at hy
            subst hy
            exact ⟨DRow.upd3 row ⟨ntr, n1r, n2r⟩, ⟨ntr, n1r, n2r⟩, f1, f2⟩
    · subst eσ
      walk_at "rd"
      refine rd_sortT srt3 (ts.map fun r => (r.v, r.p3)) (.of (by rw [h6, List.map_map]; rfl)) (fun z hz => ?_) (fun p7 zs n7 perm es => ?_)
      · obtain ⟨y, hy, rfl⟩ := List.mem_map.mp hz
        exact DRow.dp3 (t6 y hy).1
      obtain ⟨ts', ez, hts⟩ := lift_map (fun r : DRow => (r.v, r.p3)) (fun r => r ∈ ts) zs (fun z hz => by
        obtain ⟨y, hy, e⟩ := List.mem_map.mp (perm.mem_iff.mp hz)
        exact ⟨y, hy, e.symm⟩)
      have e1 : zs.map (·.1) = ts'.map DRow.v := by rw [ez, List.map_map]; rfl
      have e2 : ts'.map DRow.p3 = isort le3 ((dealtM f s).foldl twS []) := by
        have : zs.map (·.2) = ts'.map DRow.p3 := by rw [ez, List.map_map]; rfl
        rw [← this, es, List.map_map, ← e5, ← e6]
        rfl
      rw [e1]
      have s7 := same_new (o := .lst (ts'.map DRow.v)) n7
      have h7 := upd_same (H := H6) (a := p7) (o := .lst (ts'.map DRow.v))
      revert s7 h7
      generalize upd H6 p7 (.lst (ts'.map DRow.v)) = H7
      intro s7 h7
      walk_at "rd"
      refine ⟨p7, rfl, ⟨_, .of h7⟩, fun D nD => ?_⟩
      have lts : ts'.length ≤ rs.length := by
        have := perm.length_eq
        rw [ez, List.length_map, List.length_map] at this
        omega
      have lrs : rs.length ≤ sizeLine := by
        rw [sizeLine_eq]
        omega
      refine lc_rows (L2.walk_list (xs := ts'.map DRow.v)) DRow.objs DRow.v (fun i b => ∃ r, ts'[i]? = some r ∧ b.pr = r.p3.2 ∧ H b.a = none ∧ H b.b = none) nD (by rw [List.length_map]; omega) (fun _ s => .of (s _ _ h7)) (fun i x H9 H9' bs hi s9 hD ⟨eH, ex⟩ Q' q' => ?_) (fun H9 bs s9 hD lb hR hA => ?_)
      · subst eH
        rw [List.getElem?_map] at ex
        cases er : ts'[i]? with
        | none =>
          rw [er] at ex
          cases ex
        | some y =>
        rw [er] at ex
        have ex' : x = y.v := (Option.some.inj ex).symm
        subst ex'
        have hy := hts y (List.mem_of_getElem? er)
        obtain ⟨⟨y1, y2, y3⟩, _, y4, y5⟩ := t6 y hy
        have s79 := s7.trans s9
        refine rd_gtup (.of (s79 _ _ y1)) rfl ?_
        refine rd_gcons (rd_gname (rd_gcons (rd_gname (rd_gcons (rd_gname (rd_gnil ⟨rfl, ?_⟩))))))
        walk_at "rd"
        refine ⟨by show 2 ≤ sizeLine; rw [sizeLine_eq]; decide, fun t nt => ?_⟩
        have s10 := same_new (o := .tup [V.ref y.a, V.ref y.b]) nt
        have nd : ∀ (u : Addr) (o : HO), H7 u = some o → u ≠ D := fun u o h e => by
          rw [e, nD] at h
          cases h
        refine q' _ ⟨t, y.a, y.b, y.one, y.other⟩ s10 (DRow.has.mpr ⟨upd_same, s10 _ _ (s79 _ _ y2), s10 _ _ (s79 _ _ y3)⟩) (DRow.offs.mpr ⟨fun e => ?_, nd _ _ (s7 _ _ y2), nd _ _ (s7 _ _ y3)⟩) ⟨y, er, rfl, y4, y5⟩
        replace e : t = D := e
        rw [e, hD] at nt
        cases nt
      · refine q _ D bs (s6.trans (s7.trans s9)) ⟨hD, s6.free (s7.free nD), fun y hy => DRow.has.mp (hA y hy).1, fun y hy => ?_⟩ ?_
        · obtain ⟨k, hk⟩ := List.getElem?_of_mem hy
          obtain ⟨_, _, _, g1, g2⟩ := hR k y hk
          have o := DRow.offs.mp (hA y hy).2
          exact ⟨g1, g2, o.2.1, o.2.2⟩
        · rw [map_get DRow.pr (fun r => r.p3.2) bs ts' (by rw [lb, List.length_map]) (fun i b hb => (hR i b hb).imp fun r h => ⟨h.1, h.2.1⟩)]
          unfold twM
          rw [← e2, List.map_map]
          rfl
end

end Tw
set_option Elab.async false
set_option linter.all false
set_option maxRecDepth 100000
set_option maxHeartbeats 4000000
namespace Tw
open PySem PySem.Spec PyProof.Rows L2
local macro_rules | `(tactic| walk_at "rd0") => `(tactic| first
  | with_reducible refine Tw.rd_seq ?_
  | with_reducible refine Tw.rd_asg ?_
  | with_reducible refine Tw.rd_drop ?_
  | with_reducible refine Tw.rd_ret ?_
  | with_reducible refine Tw.rd_retN ?_
  | with_reducible refine Tw.rd_next ?_
  | ((with_reducible refine Tw.rd_var (v := ?vv) ?hv ?_); (case hv => exact rfl))
  | with_reducible refine Tw.rd_c ?_
  | with_reducible refine Tw.rd_op ?_
  | with_reducible refine Tw.rd_un ?_
  | with_reducible refine Tw.rd_I0 ?_
  | with_reducible refine Tw.rd_U ?_
  | with_reducible refine Tw.rd_test ?_
  | with_reducible refine Tw.rd_tB ?_
  | with_reducible refine Tw.rd_bl ?_
  | with_reducible refine Tw.rd_not ?_
  | with_reducible refine Tw.rd_and ?_
  | with_reducible refine Tw.rd_or ?_
  | with_reducible refine Tw.rd_andV ?_
  | with_reducible refine Tw.rd_orV ?_
  | with_reducible refine Tw.rd_notV ?_
  | with_reducible refine Tw.rd_tIf ?_
  | with_reducible refine Tw.rd_cb ?_
  | with_reducible refine Tw.rd_cons ?_
  | with_reducible refine Tw.rd_nil ?_
  | with_reducible refine Tw.rd_call ?_
  | with_reducible refine Tw.rd_tup ?_
  | with_reducible refine Tw.rd_lst ?_
  | with_reducible refine Tw.rd_gname ?_
  | with_reducible refine Tw.rd_chain ?_
  | with_reducible refine Tw.rd_lc ?_
  | with_reducible refine Tw.rd_il ?_
  | with_reducible refine Tw.rd_it ?_
  | with_reducible refine Tw.rd_ie ?_
  | with_reducible refine Tw.rd_ir ?_
  | with_reducible refine Tw.rd_ir2 ?_
  | with_reducible refine Tw.rd_ir3 ?_
  | with_reducible refine Tw.rd_dput ?_
  | with_reducible refine Tw.rd_dget2 ?_
  | with_reducible refine Tw.rd_items ?_
  | with_reducible refine Tw.rd_sl ?_
  | with_reducible refine Tw.rd_nopart ?_
  | with_reducible refine Tw.rd_part ?_
  | with_reducible refine Tw.rd_int ?_
  | with_reducible refine Tw.rd_revL ?_
  | with_reducible refine Tw.rd_bm ?_
  | with_reducible refine Tw.rd_bm0 ?_
  | with_reducible refine Tw.rd_lrg ?_
  | with_reducible refine Tw.rd_rg2 ?_
  | with_reducible refine Tw.rd_rg1 ?_
  | with_reducible refine Tw.rd_int2 ?_
  | with_reducible refine Tw.rd_augS ?_
  | with_reducible refine Tw.rd_ipI ?_
  | with_reducible refine Tw.rd_gsub ?_
  | with_reducible refine Tw.rd_gcons ?_
  | with_reducible refine Tw.rd_gnil ?_
  | with_reducible refine Tw.rd_par ?_
  | with_reducible refine Tw.rd_par2 ?_
  | with_reducible refine Tw.rd_mk ?_
  | with_reducible refine Tw.rd_md ?_
  | with_reducible refine Tw.rd_fld ?_
  | with_reducible refine Tw.rd_sfld ?_)
local macro_rules | `(tactic| walk_at "rd1") => `(tactic| first
  | walk_at "rd0"
  | with_reducible refine Tw.rd_if ?_
  | with_reducible refine Tw.rd_for ?_)
local macro_rules | `(tactic| walk_at "rs") => `(tactic| repeat walk_at "rd0")
local macro_rules | `(tactic| walk_at "rd") => `(tactic| repeat walk_at "rd1")
local macro_rules | `(tactic| walk_at "ini") => `(tactic| (dsimp only [L2.cxOf, L2.start, L2.Cx.wish, L2.Cx.nox, List.map, List.length_cons, List.length_nil, Nat.reduceAdd, Nat.reduceSub, List.replicate, List.cons_append, List.nil_append]; walk_at "rd"))
local macro_rules | `(tactic| walk_at "num") => `(tactic| first
  | exact (show (0 : Int) < _ from by decide)
  | exact (show (0 : Int) < _ ∧ _ < (1073741824 : Int) from by decide)
  | exact (show (0 : Int) ≤ _ ∧ _ ≤ (1000000 : Int) ∧ _ < 2 ^ 64 from by decide))
local macro_rules | `(tactic| walk_at "rn") => `(tactic| repeat (first | walk_at "rd1" | ((with_reducible refine Tw.rd_I ?c ?_); (case c => walk_at "num"))))
theorem sc_twins : FnScope ["first", "second"] ["first", "second"] (defScope s_twins) := ⟨rfl, rfl, rfl, by decide +kernel, rfl, by decide +kernel, by decide +kernel⟩
section
variable {P : Program} {w : World} {K : PySem.W.Frag} {mg : Str → Option Value} {base : Heap}
theorem ok_twins {f C : Addr} {fd : FuncData} (F : Fun K "twins" "twins" s_twins f fd) (d_check_sides : Df P w K mg base (L2.CX P w) 2 "check_sides" ["sides"] (spSides K C)) (d_twins_of : Df P w K mg base CX0 17 "twins_of" ["first", "second"] spTwinsOf) : FnOk P w K mg base (L2.CX P w) 18 f fd ["first", "second"] (spTwins K C) := by
  refine F.okX sc_twins (fun vs H Q E h => ?_) (fun cdv A outer s H vs Q E hr h => ?_)
  · obtain ⟨x, y, rfl, _⟩ := h
    rfl
  · obtain ⟨x, y, rfl, kx, bad, good⟩ := h
    refine ⟨_, (pss_cons (ps_expr (pe_df d_check_sides (hr.mono (by decide)) (by rfl) (passes_call (takes_of rfl rfl rfl rfl) (fun _ _ _ _ h => h)) (pa_cons (pv 0) pa_nil)))
    (pss_cons (ps_expr (pe_df d_check_sides (hr.mono (by decide)) (by rfl) (passes_call (takes_of rfl rfl rfl rfl) (fun _ _ _ _ h => h)) (pa_cons (pv 1) pa_nil)))
    (pss_one (ps_ret (pe_df d_twins_of (hr.mono (by decide)) (by rfl) pass0 (pa_cons (pv 0) (pa_cons (pv 1) pa_nil))))))), ?_⟩
    walk_at "ini"
    refine ⟨x, rfl, kx, fun c => ?_, bad⟩
    obtain ⟨ky, bad2, good2⟩ := good c
    walk_at "rd"
    refine ⟨y, rfl, ky, fun c2 => ?_, bad2⟩
    obtain ⟨f, s, rfl, rfl, fit, q⟩ := good2 c2
    walk_at "rd"
    exact ⟨f, s, rfl, side_ok c, side_ok c2, fit, q⟩
end

end Tw
set_option Elab.async false
set_option linter.all false
set_option maxRecDepth 100000
set_option maxHeartbeats 4000000
namespace Tw
open PySem PySem.Spec PyProof.Rows L2
local macro_rules | `(tactic| walk_at "rd0") => `(tactic| first
  | with_reducible refine Tw.rd_seq ?_
  | with_reducible refine Tw.rd_asg ?_
  | with_reducible refine Tw.rd_drop ?_
  | with_reducible refine Tw.rd_ret ?_
  | with_reducible refine Tw.rd_retN ?_
  | with_reducible refine Tw.rd_next ?_
  | ((with_reducible refine Tw.rd_var (v := ?vv) ?hv ?_); (case hv => exact rfl))
  | with_reducible refine Tw.rd_c ?_
  | with_reducible refine Tw.rd_op ?_
  | with_reducible refine Tw.rd_un ?_
  | with_reducible refine Tw.rd_I0 ?_
  | with_reducible refine Tw.rd_U ?_
  | with_reducible refine Tw.rd_test ?_
  | with_reducible refine Tw.rd_tB ?_
  | with_reducible refine Tw.rd_bl ?_
  | with_reducible refine Tw.rd_not ?_
  | with_reducible refine Tw.rd_and ?_
  | with_reducible refine Tw.rd_or ?_
  | with_reducible refine Tw.rd_andV ?_
  | with_reducible refine Tw.rd_orV ?_
  | with_reducible refine Tw.rd_notV ?_
  | with_reducible refine Tw.rd_tIf ?_
  | with_reducible refine Tw.rd_cb ?_
  | with_reducible refine Tw.rd_cons ?_
  | with_reducible refine Tw.rd_nil ?_
  | with_reducible refine Tw.rd_call ?_
  | with_reducible refine Tw.rd_tup ?_
  | with_reducible refine Tw.rd_lst ?_
  | with_reducible refine Tw.rd_gname ?_
  | with_reducible refine Tw.rd_chain ?_
  | with_reducible refine Tw.rd_lc ?_
  | with_reducible refine Tw.rd_il ?_
  | with_reducible refine Tw.rd_it ?_
  | with_reducible refine Tw.rd_ie ?_
  | with_reducible refine Tw.rd_ir ?_
  | with_reducible refine Tw.rd_ir2 ?_
  | with_reducible refine Tw.rd_ir3 ?_
  | with_reducible refine Tw.rd_dput ?_
  | with_reducible refine Tw.rd_dget2 ?_
  | with_reducible refine Tw.rd_items ?_
  | with_reducible refine Tw.rd_sl ?_
  | with_reducible refine Tw.rd_nopart ?_
  | with_reducible refine Tw.rd_part ?_
  | with_reducible refine Tw.rd_int ?_
  | with_reducible refine Tw.rd_revL ?_
  | with_reducible refine Tw.rd_bm ?_
  | with_reducible refine Tw.rd_bm0 ?_
  | with_reducible refine Tw.rd_lrg ?_
  | with_reducible refine Tw.rd_rg2 ?_
  | with_reducible refine Tw.rd_rg1 ?_
  | with_reducible refine Tw.rd_int2 ?_
  | with_reducible refine Tw.rd_augS ?_
  | with_reducible refine Tw.rd_ipI ?_
  | with_reducible refine Tw.rd_gsub ?_
  | with_reducible refine Tw.rd_gcons ?_
  | with_reducible refine Tw.rd_gnil ?_
  | with_reducible refine Tw.rd_par ?_
  | with_reducible refine Tw.rd_par2 ?_
  | with_reducible refine Tw.rd_mk ?_
  | with_reducible refine Tw.rd_md ?_
  | with_reducible refine Tw.rd_fld ?_
  | with_reducible refine Tw.rd_sfld ?_)
local macro_rules | `(tactic| walk_at "rd1") => `(tactic| first
  | walk_at "rd0"
  | with_reducible refine Tw.rd_if ?_
  | with_reducible refine Tw.rd_for ?_)
local macro_rules | `(tactic| walk_at "rs") => `(tactic| repeat walk_at "rd0")
local macro_rules | `(tactic| walk_at "rd") => `(tactic| repeat walk_at "rd1")
local macro_rules | `(tactic| walk_at "ini") => `(tactic| (dsimp only [L2.cxOf, L2.start, L2.Cx.wish, L2.Cx.nox, List.map, List.length_cons, List.length_nil, Nat.reduceAdd, Nat.reduceSub, List.replicate, List.cons_append, List.nil_append]; walk_at "rd"))
local macro_rules | `(tactic| walk_at "num") => `(tactic| first
  | exact (show (0 : Int) < _ from by decide)
  | exact (show (0 : Int) < _ ∧ _ < (1073741824 : Int) from by decide)
  | exact (show (0 : Int) ≤ _ ∧ _ ≤ (1000000 : Int) ∧ _ < 2 ^ 64 from by decide))
local macro_rules | `(tactic| walk_at "rn") => `(tactic| repeat (first | walk_at "rd1" | ((with_reducible refine Tw.rd_I ?c ?_); (case c => walk_at "num"))))
theorem sc_judged : FnScope ["first", "second", "one", "other", "found"] ["first", "second", "one", "other"] (defScope s_judged) := ⟨rfl, rfl, rfl, by decide +kernel, rfl, by decide +kernel, by decide +kernel⟩
section
variable {P : Program} {w : World} {K : PySem.W.Frag} {mg : Str → Option Value} {base : Heap}
theorem ok_judged {f C CB CT CO : Addr} {fd : FuncData} (F : Fun K "judged" "judged" s_judged f fd) (d_check_sides : Df P w K mg base (L2.CX P w) 2 "check_sides" ["sides"] (spSides K C)) (d_check_die : Df P w K mg base (L2.CX P w) 2 "check_die" ["die"] (spDie K CB))
    (d_first_off : Df P w K mg base CX0 2 "first_off" ["first", "second", "one", "other"] (spFirstOff K)) (c_Twin : Cl0 K mg "Twin" CT) (k_Off : ClM P w K mg base "Off" CO 1 ["self", "total"] (spOInit CO)) : FnOk P w K mg base (L2.CX P w) 3 f fd ["first", "second", "one", "other"] (spJudged K C CB CT CO) := by
  refine F.okX sc_judged (fun vs H Q E h => ?_) (fun cdv A outer s H vs Q E hr h => ?_)
  · obtain ⟨x, y, u, v, rfl, _⟩ := h
    rfl
  · obtain ⟨x, y, u, v, rfl, kx, bad, good⟩ := h
    refine ⟨_, (pss_cons (ps_expr (pe_df d_check_sides (hr.mono (by decide)) (by rfl) (passes_call (takes_of rfl rfl rfl rfl) (fun _ _ _ _ h => h)) (pa_cons (pv 0) pa_nil)))
    (pss_cons (ps_expr (pe_df d_check_sides (hr.mono (by decide)) (by rfl) (passes_call (takes_of rfl rfl rfl rfl) (fun _ _ _ _ h => h)) (pa_cons (pv 1) pa_nil)))
    (pss_cons (ps_expr (pe_df d_check_die (hr.mono (by decide)) (by rfl) (passes_call (takes_of rfl rfl rfl rfl) (fun _ _ _ _ h => h)) (pa_cons (pv 2) pa_nil)))
    (pss_cons (ps_expr (pe_df d_check_die (hr.mono (by decide)) (by rfl) (passes_call (takes_of rfl rfl rfl rfl) (fun _ _ _ _ h => h)) (pa_cons (pv 3) pa_nil)))
    (pss_cons (ps_set (i := 4) sc_judged.nd rfl (Or.inl rfl) (pe_df d_first_off (hr.mono (by decide)) (by rfl) pass0 (pa_cons (pv 0) (pa_cons (pv 1) (pa_cons (pv 2) (pa_cons (pv 3) pa_nil))))))
    (pss_one (ps_ret (pe_ifExp (pt_cmpR op_eq (pv 4) pe_int (nomark _)) (pe_new0 c_Twin (by rfl)) (pe_mk k_Off (hr.mono (by decide)) (by rfl) (pa_cons (pv 4) pa_nil)))))))))), ?_⟩
    walk_at "ini"
    refine ⟨x, rfl, kx, fun c => ?_, bad⟩
    obtain ⟨ky, bad2, good2⟩ := good c
    walk_at "rd"
    refine ⟨y, rfl, ky, fun c2 => ?_, bad2⟩
    walk_at "rd"
    refine ⟨u, rfl, ?_⟩
    rcases good2 c2 with ⟨nu, qe⟩ | ⟨a, one, du, good3⟩
    · exact .inl ⟨nu, qe⟩
    refine .inr ⟨a, one, du, fun H1 s1 => ?_⟩
    walk_at "rd"
    refine ⟨v, rfl, ?_⟩
    rcases good3 with ⟨nv, qe⟩ | ⟨b, other, dv, f, s, rfl, rfl, q⟩
    · exact .inl ⟨same_nodie s1 nv, fun H2 s2 => qe _ (s1.trans s2)⟩
    refine .inr ⟨b, other, same_die s1 dv, fun H2 s2 => ?_⟩
    have s02 := s1.trans s2
    obtain ⟨rfl, ha, da⟩ := du
    obtain ⟨rfl, hb, db⟩ := dv
    have la := dieI_len da
    have lb := dieI_len db
    walk_at "rd"
    refine ⟨f, s, a, b, one, other, rfl, side_ok c, side_ok c2, same_l s02 ha, same_l s02 hb, by omega, by omega, fun H3 s3 => ?_⟩
    have s03 := s02.trans s3
    walk_at "rd"
    refine ⟨rfl, ?_⟩
    rw [dec_int]
    by_cases z : foM f s one other = 0
    · rw [decide_eq_true z]
      walk_at "rd"
      refine iteT ?_
      refine rd_new0 fun x dx nx ndx nxd => ?_
      exact q.1 z _ x dx (s03.trans (sameI nx ndx)) (s03.free nx) upd_same
    · rw [decide_eq_false z]
      walk_at "rd"
      refine iteF ?_
      walk_at "rd"
      intro x dx nx ndx nxd
      refine ⟨x, dx, _, rfl, upd_same, rfl, ?_⟩
      rw [upd_upd]
      exact q.2 z _ x dx (s03.trans (sameI nx ndx)) (s03.free nx) upd_same
end

end Tw
set_option Elab.async false
set_option linter.all false
set_option maxRecDepth 100000
set_option maxHeartbeats 4000000
namespace Tw
open PySem PySem.Spec PyProof.Rows L2
local macro_rules | `(tactic| walk_at "rd0") => `(tactic| first
  | with_reducible refine Tw.rd_seq ?_
  | with_reducible refine Tw.rd_asg ?_
  | with_reducible refine Tw.rd_drop ?_
  | with_reducible refine Tw.rd_ret ?_
  | with_reducible refine Tw.rd_retN ?_
  | with_reducible refine Tw.rd_next ?_
  | ((with_reducible refine Tw.rd_var (v := ?vv) ?hv ?_); (case hv => exact rfl))
  | with_reducible refine Tw.rd_c ?_
  | with_reducible refine Tw.rd_op ?_
  | with_reducible refine Tw.rd_un ?_
  | with_reducible refine Tw.rd_I0 ?_
  | with_reducible refine Tw.rd_U ?_
  | with_reducible refine Tw.rd_test ?_
  | with_reducible refine Tw.rd_tB ?_
  | with_reducible refine Tw.rd_bl ?_
  | with_reducible refine Tw.rd_not ?_
  | with_reducible refine Tw.rd_and ?_
  | with_reducible refine Tw.rd_or ?_
  | with_reducible refine Tw.rd_andV ?_
  | with_reducible refine Tw.rd_orV ?_
  | with_reducible refine Tw.rd_notV ?_
  | with_reducible refine Tw.rd_tIf ?_
  | with_reducible refine Tw.rd_cb ?_
  | with_reducible refine Tw.rd_cons ?_
  | with_reducible refine Tw.rd_nil ?_
  | with_reducible refine Tw.rd_call ?_
  | with_reducible refine Tw.rd_tup ?_
  | with_reducible refine Tw.rd_lst ?_
  | with_reducible refine Tw.rd_gname ?_
  | with_reducible refine Tw.rd_chain ?_
  | with_reducible refine Tw.rd_lc ?_
  | with_reducible refine Tw.rd_il ?_
  | with_reducible refine Tw.rd_it ?_
  | with_reducible refine Tw.rd_ie ?_
  | with_reducible refine Tw.rd_ir ?_
  | with_reducible refine Tw.rd_ir2 ?_
  | with_reducible refine Tw.rd_ir3 ?_
  | with_reducible refine Tw.rd_dput ?_
  | with_reducible refine Tw.rd_dget2 ?_
  | with_reducible refine Tw.rd_items ?_
  | with_reducible refine Tw.rd_sl ?_
  | with_reducible refine Tw.rd_nopart ?_
  | with_reducible refine Tw.rd_part ?_
  | with_reducible refine Tw.rd_int ?_
  | with_reducible refine Tw.rd_revL ?_
  | with_reducible refine Tw.rd_bm ?_
  | with_reducible refine Tw.rd_bm0 ?_
  | with_reducible refine Tw.rd_lrg ?_
  | with_reducible refine Tw.rd_rg2 ?_
  | with_reducible refine Tw.rd_rg1 ?_
  | with_reducible refine Tw.rd_int2 ?_
  | with_reducible refine Tw.rd_augS ?_
  | with_reducible refine Tw.rd_ipI ?_
  | with_reducible refine Tw.rd_gsub ?_
  | with_reducible refine Tw.rd_gcons ?_
  | with_reducible refine Tw.rd_gnil ?_
  | with_reducible refine Tw.rd_par ?_
  | with_reducible refine Tw.rd_par2 ?_
  | with_reducible refine Tw.rd_mk ?_
  | with_reducible refine Tw.rd_md ?_
  | with_reducible refine Tw.rd_fld ?_
  | with_reducible refine Tw.rd_sfld ?_)
local macro_rules | `(tactic| walk_at "rd1") => `(tactic| first
  | walk_at "rd0"
  | with_reducible refine Tw.rd_if ?_
  | with_reducible refine Tw.rd_for ?_)
local macro_rules | `(tactic| walk_at "rs") => `(tactic| repeat walk_at "rd0")
local macro_rules | `(tactic| walk_at "rd") => `(tactic| repeat walk_at "rd1")
local macro_rules | `(tactic| walk_at "ini") => `(tactic| (dsimp only [L2.cxOf, L2.start, L2.Cx.wish, L2.Cx.nox, List.map, List.length_cons, List.length_nil, Nat.reduceAdd, Nat.reduceSub, List.replicate, List.cons_append, List.nil_append]; walk_at "rd"))
local macro_rules | `(tactic| walk_at "num") => `(tactic| first
  | exact (show (0 : Int) < _ from by decide)
  | exact (show (0 : Int) < _ ∧ _ < (1073741824 : Int) from by decide)
  | exact (show (0 : Int) ≤ _ ∧ _ ≤ (1000000 : Int) ∧ _ < 2 ^ 64 from by decide))
local macro_rules | `(tactic| walk_at "rn") => `(tactic| repeat (first | walk_at "rd1" | ((with_reducible refine Tw.rd_I ?c ?_); (case c => walk_at "num"))))
theorem sc__law_number : FnScope ["_law_cell", "_law_at", "_law_whole_here", "_law_mixed", "_law_more"] ["_law_cell", "_law_at", "_law_whole_here"] (defScope s__law_number) := ⟨rfl, rfl, rfl, by decide +kernel, rfl, by decide +kernel, by decide +kernel⟩
section
variable {P : Program} {w : World} {K : PySem.W.Frag} {mg : Str → Option Value} {base : Heap}
theorem ok__law_number {f : Addr} {fd : FuncData} (F : Fun K "_law_number" "_law_number" s__law_number f fd) : FnOk P w K mg base CX0 1 f fd ["_law_cell", "_law_at", "_law_whole_here"] spNum := by
  refine F.ok sc__law_number (fun vs H Q E h => ?_) (fun cdv A outer s H vs Q E hr h => ?_)
  · obtain ⟨c, a, w, rfl, _⟩ := h
    rfl
  · obtain ⟨c, a, w, rfl, hc, ha, hw, q⟩ := h
    refine ⟨_, (pss_cons (ps_if (pt_cmpR op_ge (pv 0) (pe_op op_pow pe_int pe_int) (nomark _)) (pss_one (ps_ret (pv 0))) pss_nil)
    (pss_cons (ps_set (i := 3) sc__law_number.nd rfl (Or.inl rfl) (pe_op op_mod (pe_op op_add (pe_op op_mulX (pe_op op_add (pv 0) (pe_op op_mulX pe_int (pv 1))) pe_int) (pv 2)) pe_int))
    (pss_cons (ps_set (i := 4) sc__law_number.nd rfl (Or.inl rfl) (pe_op op_mulX (pe_op op_mulX (pv 3) (pe_op op_add (pe_op op_add (pv 3) (pe_op op_mulX pe_int (pv 1))) pe_int)) (pe_op op_add (pe_op op_add (pv 3) (pv 0)) pe_int)))
    (pss_one (ps_ret (pe_op op_fdiv (pe_op op_mulX (pv 4) (pe_op op_add (pv 4) pe_int)) pe_int)))))), ?_⟩
    walk_at "ini"
    refine rd_I (show (0 : Int) ≤ 18 ∧ (18 : Int) ≤ 1000000 ∧ (10 : Int).natAbs < 2 ^ 64 by decide) ?_
    walk_at "rd"
    refine ite2 (fun _ => ?_) (fun _ => ?_)
    · walk_at "rd"
      exact q _
    have h64 : ∀ x : Int, -100000 ≤ x → x ≤ 10000000000 → Bd 64 x := fun x h1 h2 => by
      unfold Bd
      omega
    have ba : Bd 64 a := h64 a (by omega) (by omega)
    walk_at "rd"
    refine rd_I (Bd.mulx (h64 977 (by decide) (by decide)) ba (by decide)) ?_
    walk_at "rd"
    have b1 : Bd 1048577 (c + 977 * a) := Bd.add hc ((h64 (977 * a) (by omega) (by omega)).mono (by decide))
    refine rd_I (b1.mulx (h64 48271 (by decide) (by decide)) (by decide)) ?_
    walk_at "rd"
    refine rd_I (show (0 : Int) < 2147483647 by decide) ?_
    generalize hm : ((c + 977 * a) * 48271 + w) % 2147483647 = m
    have m0 : 0 ≤ m := by
      rw [← hm]
      exact Int.emod_nonneg _ (by decide)
    have m1 : m < 2147483647 := by
      rw [← hm]
      exact Int.emod_lt_of_pos _ (by decide)
    have bm : Bd 64 m := h64 m (by omega) (by omega)
    walk_at "rd"
    refine rd_I (Bd.mulx (h64 31 (by decide) (by decide)) ba (by decide)) ?_
    walk_at "rd"
    have b2 : Bd 64 (m + 31 * a + 7) := h64 _ (by omega) (by omega)
    refine rd_I (bm.mulx b2 (by decide)) ?_
    walk_at "rd"
    have b3 : Bd 1048578 (m + c + 5) := Bd.add (Bd.add (bm.mono (by decide)) hc) ((h64 5 (by decide) (by decide)).mono (by decide))
    refine rd_I ((bm.mul b2).mulx b3 (by decide)) ?_
    have b4 : Bd (64 + 64 + 1048578) (m * (m + 31 * a + 7) * (m + c + 5)) := (bm.mul b2).mul b3
    generalize m * (m + 31 * a + 7) * (m + c + 5) = r at b4
    walk_at "rd"
    refine rd_I (b4.mulx (Bd.add b4 ((h64 48271 (by decide) (by decide)).mono (by decide))) (by decide)) ?_
    refine rd_I (show (0 : Int) < 1009 ∧ (1009 : Int) < 1073741824 by decide) ?_
    exact q _
end

end Tw
set_option Elab.async false
set_option linter.all false
set_option maxRecDepth 100000
set_option maxHeartbeats 4000000
namespace Tw
open PySem PySem.Spec PyProof.Rows L2
local macro_rules | `(tactic| walk_at "rd0") => `(tactic| first
  | with_reducible refine Tw.rd_seq ?_
  | with_reducible refine Tw.rd_asg ?_
  | with_reducible refine Tw.rd_drop ?_
  | with_reducible refine Tw.rd_ret ?_
  | with_reducible refine Tw.rd_retN ?_
  | with_reducible refine Tw.rd_next ?_
  | ((with_reducible refine Tw.rd_var (v := ?vv) ?hv ?_); (case hv => exact rfl))
  | with_reducible refine Tw.rd_c ?_
  | with_reducible refine Tw.rd_op ?_
  | with_reducible refine Tw.rd_un ?_
  | with_reducible refine Tw.rd_I0 ?_
  | with_reducible refine Tw.rd_U ?_
  | with_reducible refine Tw.rd_test ?_
  | with_reducible refine Tw.rd_tB ?_
  | with_reducible refine Tw.rd_bl ?_
  | with_reducible refine Tw.rd_not ?_
  | with_reducible refine Tw.rd_and ?_
  | with_reducible refine Tw.rd_or ?_
  | with_reducible refine Tw.rd_andV ?_
  | with_reducible refine Tw.rd_orV ?_
  | with_reducible refine Tw.rd_notV ?_
  | with_reducible refine Tw.rd_tIf ?_
  | with_reducible refine Tw.rd_cb ?_
  | with_reducible refine Tw.rd_cons ?_
  | with_reducible refine Tw.rd_nil ?_
  | with_reducible refine Tw.rd_call ?_
  | with_reducible refine Tw.rd_tup ?_
  | with_reducible refine Tw.rd_lst ?_
  | with_reducible refine Tw.rd_gname ?_
  | with_reducible refine Tw.rd_chain ?_
  | with_reducible refine Tw.rd_lc ?_
  | with_reducible refine Tw.rd_il ?_
  | with_reducible refine Tw.rd_it ?_
  | with_reducible refine Tw.rd_ie ?_
  | with_reducible refine Tw.rd_ir ?_
  | with_reducible refine Tw.rd_ir2 ?_
  | with_reducible refine Tw.rd_ir3 ?_
  | with_reducible refine Tw.rd_dput ?_
  | with_reducible refine Tw.rd_dget2 ?_
  | with_reducible refine Tw.rd_items ?_
  | with_reducible refine Tw.rd_sl ?_
  | with_reducible refine Tw.rd_nopart ?_
  | with_reducible refine Tw.rd_part ?_
  | with_reducible refine Tw.rd_int ?_
  | with_reducible refine Tw.rd_revL ?_
  | with_reducible refine Tw.rd_bm ?_
  | with_reducible refine Tw.rd_bm0 ?_
  | with_reducible refine Tw.rd_lrg ?_
  | with_reducible refine Tw.rd_rg2 ?_
  | with_reducible refine Tw.rd_rg1 ?_
  | with_reducible refine Tw.rd_int2 ?_
  | with_reducible refine Tw.rd_augS ?_
  | with_reducible refine Tw.rd_ipI ?_
  | with_reducible refine Tw.rd_gsub ?_
  | with_reducible refine Tw.rd_gcons ?_
  | with_reducible refine Tw.rd_gnil ?_
  | with_reducible refine Tw.rd_par ?_
  | with_reducible refine Tw.rd_par2 ?_
  | with_reducible refine Tw.rd_mk ?_
  | with_reducible refine Tw.rd_md ?_
  | with_reducible refine Tw.rd_fld ?_
  | with_reducible refine Tw.rd_sfld ?_)
local macro_rules | `(tactic| walk_at "rd1") => `(tactic| first
  | walk_at "rd0"
  | with_reducible refine Tw.rd_if ?_
  | with_reducible refine Tw.rd_for ?_)
local macro_rules | `(tactic| walk_at "rs") => `(tactic| repeat walk_at "rd0")
local macro_rules | `(tactic| walk_at "rd") => `(tactic| repeat walk_at "rd1")
local macro_rules | `(tactic| walk_at "ini") => `(tactic| (dsimp only [L2.cxOf, L2.start, L2.Cx.wish, L2.Cx.nox, List.map, List.length_cons, List.length_nil, Nat.reduceAdd, Nat.reduceSub, List.replicate, List.cons_append, List.nil_append]; walk_at "rd"))
local macro_rules | `(tactic| walk_at "num") => `(tactic| first
  | exact (show (0 : Int) < _ from by decide)
  | exact (show (0 : Int) < _ ∧ _ < (1073741824 : Int) from by decide)
  | exact (show (0 : Int) ≤ _ ∧ _ ≤ (1000000 : Int) ∧ _ < 2 ^ 64 from by decide))
local macro_rules | `(tactic| walk_at "rn") => `(tactic| repeat (first | walk_at "rd1" | ((with_reducible refine Tw.rd_I ?c ?_); (case c => walk_at "num"))))
theorem sc__law_whole : FnScope ["_law_found"] ["_law_found"] (defScope s__law_whole) := ⟨rfl, rfl, rfl, by decide +kernel, rfl, by decide +kernel, by decide +kernel⟩
section
variable {P : Program} {w : World} {K : PySem.W.Frag} {mg : Str → Option Value} {base : Heap}
theorem ok__law_whole {f : Addr} {fd : FuncData} (F : Fun K "_law_whole" "_law_whole" s__law_whole f fd) (B : Bn mg) : FnOk P w K mg base CX0 1 f fd ["_law_found"] (spIsWhole K) := by
  refine F.ok sc__law_whole (fun vs H Q E h => ?_) (fun cdv A outer s H vs Q E hr h => ?_)
  · obtain ⟨x, rfl, _⟩ := h
    rfl
  · obtain ⟨x, rfl, ⟨t, ty, e1, e2⟩, q⟩ := h
    rw [← wh_eq] at q
    refine ⟨_, (pss_one (ps_ret (pe_and (pe_callB (r := rIsi K) call_isi (by rfl) B.n_isinstance boot_isinstance (pa_cons (pv 0) (pa_cons (pe_ty B.n_int boot_int) pa_nil))) (pe_one (pe_not (pe_callB (r := rIsi K) call_isi (by rfl) B.n_isinstance boot_isinstance (pa_cons (pv 0) (pa_cons (pe_ty B.n_bool boot_bool) pa_nil)))))))), ?_⟩
    walk_at "rd"
    refine rd_isi (.ty _) ty e1 ?_
    walk_at "rd"
    cases h1 : intV x with
    | false =>
      rw [h1] at q
      exact iteF q
    | true =>
      rw [h1] at q
      refine iteT ?_
      walk_at "rd"
      refine rd_isi (.ty _) ty e2 ?_
      walk_at "rd"
      exact q
end


end Tw
set_option Elab.async false
set_option linter.all false
set_option maxRecDepth 100000
set_option maxHeartbeats 4000000
namespace Tw
open PySem PySem.Spec PyProof.Rows L2
local macro_rules | `(tactic| walk_at "rd0") => `(tactic| first
  | with_reducible refine Tw.rd_seq ?_
  | with_reducible refine Tw.rd_asg ?_
  | with_reducible refine Tw.rd_drop ?_
  | with_reducible refine Tw.rd_ret ?_
  | with_reducible refine Tw.rd_retN ?_
  | with_reducible refine Tw.rd_next ?_
  | ((with_reducible refine Tw.rd_var (v := ?vv) ?hv ?_); (case hv => exact rfl))
  | with_reducible refine Tw.rd_c ?_
  | with_reducible refine Tw.rd_op ?_
  | with_reducible refine Tw.rd_un ?_
  | with_reducible refine Tw.rd_I0 ?_
  | with_reducible refine Tw.rd_U ?_
  | with_reducible refine Tw.rd_test ?_
  | with_reducible refine Tw.rd_tB ?_
  | with_reducible refine Tw.rd_bl ?_
  | with_reducible refine Tw.rd_not ?_
  | with_reducible refine Tw.rd_and ?_
  | with_reducible refine Tw.rd_or ?_
  | with_reducible refine Tw.rd_andV ?_
  | with_reducible refine Tw.rd_orV ?_
  | with_reducible refine Tw.rd_notV ?_
  | with_reducible refine Tw.rd_tIf ?_
  | with_reducible refine Tw.rd_cb ?_
  | with_reducible refine Tw.rd_cons ?_
  | with_reducible refine Tw.rd_nil ?_
  | with_reducible refine Tw.rd_call ?_
  | with_reducible refine Tw.rd_tup ?_
  | with_reducible refine Tw.rd_lst ?_
  | with_reducible refine Tw.rd_gname ?_
  | with_reducible refine Tw.rd_chain ?_
  | with_reducible refine Tw.rd_lc ?_
  | with_reducible refine Tw.rd_il ?_
  | with_reducible refine Tw.rd_it ?_
  | with_reducible refine Tw.rd_ie ?_
  | with_reducible refine Tw.rd_ir ?_
  | with_reducible refine Tw.rd_ir2 ?_
  | with_reducible refine Tw.rd_ir3 ?_
  | with_reducible refine Tw.rd_dput ?_
  | with_reducible refine Tw.rd_dget2 ?_
  | with_reducible refine Tw.rd_items ?_
  | with_reducible refine Tw.rd_sl ?_
  | with_reducible refine Tw.rd_nopart ?_
  | with_reducible refine Tw.rd_part ?_
  | with_reducible refine Tw.rd_int ?_
  | with_reducible refine Tw.rd_revL ?_
  | with_reducible refine Tw.rd_bm ?_
  | with_reducible refine Tw.rd_bm0 ?_
  | with_reducible refine Tw.rd_lrg ?_
  | with_reducible refine Tw.rd_rg2 ?_
  | with_reducible refine Tw.rd_rg1 ?_
  | with_reducible refine Tw.rd_int2 ?_
  | with_reducible refine Tw.rd_augS ?_
  | with_reducible refine Tw.rd_ipI ?_
  | with_reducible refine Tw.rd_gsub ?_
  | with_reducible refine Tw.rd_gcons ?_
  | with_reducible refine Tw.rd_gnil ?_
  | with_reducible refine Tw.rd_par ?_
  | with_reducible refine Tw.rd_par2 ?_
  | with_reducible refine Tw.rd_mk ?_
  | with_reducible refine Tw.rd_md ?_
  | with_reducible refine Tw.rd_fld ?_
  | with_reducible refine Tw.rd_sfld ?_)
local macro_rules | `(tactic| walk_at "rd1") => `(tactic| first
  | walk_at "rd0"
  | with_reducible refine Tw.rd_if ?_
  | with_reducible refine Tw.rd_for ?_)
local macro_rules | `(tactic| walk_at "rs") => `(tactic| repeat walk_at "rd0")
local macro_rules | `(tactic| walk_at "rd") => `(tactic| repeat walk_at "rd1")
local macro_rules | `(tactic| walk_at "ini") => `(tactic| (dsimp only [L2.cxOf, L2.start, L2.Cx.wish, L2.Cx.nox, List.map, List.length_cons, List.length_nil, Nat.reduceAdd, Nat.reduceSub, List.replicate, List.cons_append, List.nil_append]; walk_at "rd"))
local macro_rules | `(tactic| walk_at "num") => `(tactic| first
  | exact (show (0 : Int) < _ from by decide)
  | exact (show (0 : Int) < _ ∧ _ < (1073741824 : Int) from by decide)
  | exact (show (0 : Int) ≤ _ ∧ _ ≤ (1000000 : Int) ∧ _ < 2 ^ 64 from by decide))
local macro_rules | `(tactic| walk_at "rn") => `(tactic| repeat (first | walk_at "rd1" | ((with_reducible refine Tw.rd_I ?c ?_); (case c => walk_at "num"))))
theorem sc__law_die : FnScope ["_law_script", "_law_by", "_law_most", "_law_cells", "_law_whole_here", "_law_many", "_law_wide", "_law_found", "_law_at", "_law_number_here"] ["_law_script", "_law_by", "_law_most"] (defScope s__law_die) := ⟨rfl, rfl, rfl, by decide +kernel, rfl, by decide +kernel, by decide +kernel⟩
section
variable {P : Program} {w : World} {K : PySem.W.Frag} {mg : Str → Option Value} {base : Heap}
theorem ok__law_die {f : Addr} {fd : FuncData} (F : Fun K "_law_die" "_law_die" s__law_die f fd) (B : Bn mg) (d__law_number : Df P w K mg base CX0 1 "_law_number" ["_law_cell", "_law_at", "_law_whole_here"] spNum) : FnOk P w K mg base CX0 2 f fd ["_law_script", "_law_by", "_law_most"] (spLDie K) := by
  refine F.ok sc__law_die (fun vs H Q E h => ?_) (fun cdv A outer s H vs Q E hr h => ?_)
  · obtain ⟨a, ns, b, m, rfl, _⟩ := h
    rfl
  · obtain ⟨a, ns, b, m, rfl, hS, hl, hb, b0, b1, m0, m1, q⟩ := h
    refine ⟨_, (pss_cons (ps_set (i := 3) sc__law_die.nd rfl (Or.inl rfl) (pe_ifExp (pt_cmpR (op_neD hr.units) (pv 0) (pe_lst pa_nil) (nomark _)) (pe_slice (r := rSlL K) sl_list (pv 0) po_none (po_some pe_int)) (pe_lst (pa_cons pe_int pa_nil))))
    (pss_cons (ps_set (i := 4) sc__law_die.nd rfl (Or.inl rfl) (pe_op op_add (pe_callB (r := rSum K) (cr_sum rfl) (by rfl) B.n_sum boot_sum (pa_cons (pv 3) pa_nil)) (pv 1)))
    (pss_cons (ps_set (i := 5) sc__law_die.nd rfl (Or.inl rfl) (pe_op op_add pe_int (pe_op op_mod (pv 4) (pe_op op_sub (pv 2) pe_int))))
    (pss_cons (ps_set (i := 6) sc__law_die.nd rfl (Or.inl rfl) (pe_ix (r := rIxT K) ix_tup (pe_tup (pa_cons pe_int (pa_cons pe_int (pa_cons pe_int (pa_cons pe_int pa_nil))))) (pe_op op_mod (pe_op op_fdiv (pv 4) pe_int) pe_int) (fun _ _ => rfl)))
    (pss_cons (ps_set (i := 7) sc__law_die.nd rfl (Or.inl rfl) (pe_lst pa_nil))
    (pss_cons (ps_for PassesOwn.never rfl (pi_range1 (by rfl) B.n_range (pa_cons (pv 5) pa_nil)) (pg_name (i := 8) sc__law_die.nd rfl (Or.inl rfl))
      (pss_cons (ps_set (i := 9) sc__law_die.nd rfl (Or.inl rfl) (pe_df d__law_number (hr.mono (by decide)) (by rfl) pass0 (pa_cons (pe_ix (r := rIxL K) ix_list (pv 3) (pe_op op_mod (pe_op op_add (pv 8) (pv 1)) (pe_callB (r := rLen K) call_lenQ (by rfl) B.n_len boot_len (pa_cons (pv 3) pa_nil))) (fun _ _ => rfl)) (pa_cons (pe_op op_add (pv 8) (pv 1)) (pa_cons (pv 4) pa_nil)))))
    (pss_one (ps_expr (pe_bm PySem.F.plainAttrs_list PySem.F.slot_list_append PySem.F.type_list_append mt_append (pv 7) (pa_cons (pe_op op_add pe_int (pe_op op_mod (pe_op op_fdiv (pv 9) pe_int) (pv 6))) pa_nil))))))
    (pss_one (ps_ret (pe_callB (r := rSortedI K) cr_sortedI (by rfl) B.n_sorted boot_sorted (pa_cons (pv 7) pa_nil)))))))))), ?_⟩
    dsimp only [L2.cxOf, L2.start, L2.Cx.wish, L2.Cx.nox, List.map, List.length_cons, List.length_nil, Nat.reduceAdd, Nat.reduceSub, List.replicate, List.cons_append, List.nil_append]
    refine rd_seq (rd_asg (cutE (fun v H1 => ∃ c cs, v = .ref c ∧ Same H H1 ∧ H1 c = some (.lst (cs.map V.int)) ∧ cs ≠ [] ∧ cs.length ≤ 63 ∧ ∀ z ∈ cs, Bd 1048576 z) (fun Q' q' => ?_) (fun v H1 h1 => ?_)))
    · walk_at "rd"
      refine ⟨Nat.zero_le _, fun e ne => ?_⟩
      have s1 : Same H (upd H e (.lst [])) := same_new ne
      refine rd_neD (dp_ints (same_l s1 hS)) (dp_ints (ns := []) (.of upd_same)) (shaped_of (sh_ints (n := 0) _)) (shaped_of (sh_ints (n := 0) _)) ?_
      rw [eqv_dI]
      walk_at "rd"
      by_cases c : ns = []
      · rw [decide_eq_true c]
        refine iteF ?_
        walk_at "rd"
        refine ⟨by rw [sizeLine_eq]; decide, fun p np => q' _ _ ⟨p, [7], rfl, s1.trans (same_new np), upd_same, by decide, by decide, fun z hz => ?_⟩⟩
        rw [List.mem_singleton.mp hz]
        exact bd_lit (by decide) (by decide)
      · rw [decide_eq_false c]
        refine iteT ?_
        walk_at "rd"
        refine rd_slL (same_l s1 hS) (fun p np => q' _ _ ⟨p, ns, rfl, s1.trans (same_new np), ?_, c, hl, hb⟩)
        rw [upd_same, cut_63, List.take_of_length_le (by rw [List.length_map]; exact hl)]
    · obtain ⟨c, cs, rfl, s1, hc, cne, cl, cb⟩ := h1
      have bs : Bd 1048700 (cs.sum + b) := Bd.mono (Bd.add ((bd_sum cs cb).mono (Nat.add_le_add_left cl _)) ((show Bd 64 b by unfold Bd; omega).mono (by decide))) (by decide)
      have cpos : 0 < cs.length := List.length_pos_iff.mpr cne
      walk_at "rd"
      refine rd_sum (.of hc) ?_
      walk_at "rd"
      generalize hw : cs.sum + b = wh at bs
      refine rd_I (show (0 : Int) < m - 1 by omega) ?_
      walk_at "rd"
      have k0 : 0 ≤ wh % (m - 1) := Int.emod_nonneg _ (by omega)
      have k1 : wh % (m - 1) < m - 1 := Int.emod_lt_of_pos _ (by omega)
      generalize wh % (m - 1) = k at k0 k1
      refine ⟨by show 4 ≤ sizeLine; rw [sizeLine_eq]; decide, fun t nt => ?_⟩
      walk_at "rn"
      have i0 : 0 ≤ wh / 3 % 4 := Int.emod_nonneg _ (by decide)
      have i1 : wh / 3 % 4 < 4 := Int.emod_lt_of_pos _ (by decide)
      obtain ⟨wv, ew, mw⟩ := atI_mod [V.int 3, V.int 8, V.int 25, V.int 100] (wh / 3 % 4) i0 i1
      obtain ⟨wd, rfl, w0, w1⟩ : ∃ wd : Int, wv = .int wd ∧ 1 ≤ wd ∧ wd ≤ 100 := by
        simp only [List.mem_cons, List.not_mem_nil, or_false] at mw
        rcases mw with rfl | rfl | rfl | rfl
        · exact ⟨3, rfl, by decide, by decide⟩
        · exact ⟨8, rfl, by decide, by decide⟩
        · exact ⟨25, rfl, by decide, by decide⟩
        · exact ⟨100, rfl, by decide, by decide⟩
      refine rd_ixT (.of upd_same) ew ?_
      have s2 := s1.trans (same_new (o := .tup [V.int 3, V.int 8, V.int 25, V.int 100]) nt)
      have hc2 := keep_new (o := .tup [V.int 3, V.int 8, V.int 25, V.int 100]) nt hc
      revert s2 hc2
      generalize upd H1 t (.tup [V.int 3, V.int 8, V.int 25, V.int 100]) = H2
      intro s2 hc2
      walk_at "rd"
      refine ⟨Nat.zero_le _, fun l nl => ?_⟩
      walk_at "rd"
      refine ⟨2 + k, rfl, by omega, by omega, ?_⟩
      have ncl : c ≠ l := ne_of_none hc2 nl
      refine for_range (lo := 0) (n := (2 + k).toNat) (fun i σ H3 => ∃ (L : List Int) (y8 y9 : Option V), σ = [some (.ref a), some (.int b), some (.int m), some (.ref c), some (.int wh), some (.int (2 + k)), some (.int wd), some (.ref l), y8, y9] ∧ Same H H3 ∧ H3 c = some (.lst (cs.map V.int)) ∧ H3 l = some (.lst (L.map V.int)) ∧ L.length = i ∧ ∀ z ∈ L, 1 ≤ z ∧ z ≤ 100)
        ⟨[], none, none, rfl, s2.trans (same_new nl), keep_new nl hc2, upd_same, rfl, fun z hz => nomatch hz⟩ (fun i σ H3 hi ⟨L, y8, y9, eσ, s3, hc3, hl3, len, hL⟩ => ?_) (fun σ H3 ⟨L, y8, y9, eσ, s3, hc3, hl3, len, hL⟩ => ?_)
      · subst eσ
        walk_at "rd"
        refine ⟨c, _, rfl, .inl (.of hc3), ?_⟩
        refine rd_I (show (0 : Int) < ((cs.map V.int).length : Int) by rw [List.length_map]; omega) ?_
        have j0 : 0 ≤ (0 + (i : Int) + b) % ((cs.map V.int).length : Int) := Int.emod_nonneg _ (by rw [List.length_map]; omega)
        have j1 : (0 + (i : Int) + b) % ((cs.map V.int).length : Int) < ((cs.map V.int).length : Int) := Int.emod_lt_of_pos _ (by rw [List.length_map]; omega)
        obtain ⟨cv, ec, mc⟩ := atI_mod (cs.map V.int) _ j0 j1
        obtain ⟨z, hz, rfl⟩ := List.mem_map.mp mc
        refine rd_ixL (.of hc3) ec ?_
        walk_at "rd"
        refine ⟨z, 0 + (i : Int) + b, wh, rfl, cb z hz, ⟨by omega, by omega⟩, bs, fun n => ?_⟩
        walk_at "rd"
        refine rd_tyl (.of hl3) ?_
        walk_at "rn"
        refine rd_I (show (0 : Int) < wd by omega) ?_
        walk_at "rd"
        have v0 : 0 ≤ n / 3 % wd := Int.emod_nonneg _ (by omega)
        have v1 : n / 3 % wd < wd := Int.emod_lt_of_pos _ (by omega)
        refine rd_append hl3 (by rw [List.length_map, sizeLine_eq]; omega) ?_
        refine ⟨L ++ [1 + n / 3 % wd], _, _, rfl, same_mut s3 (s2.free nl), keep_ne ncl hc3, ?_, by rw [List.length_append, len]; rfl, fun x hx => ?_⟩
        · rw [upd_same, List.map_append]
          rfl
        · rcases List.mem_append.mp hx with hx | hx
          · exact hL x hx
          · rw [List.mem_singleton.mp hx]
            omega
      · subst eσ
        walk_at "rd"
        refine rd_sortI (.of hl3) (fun L' p perm srt np => q _ p L' (s3.trans (same_new np)) (s3.free np) upd_same ?_ ?_)
        · have e := perm.length_eq
          unfold dieI
          simp only [Bool.and_eq_true, decide_eq_true_eq, List.all_eq_true]
          refine ⟨by omega, by omega, fun x hx => hL x (perm.mem_iff.mp hx), srt⟩
        · rw [perm.length_eq]
          omega
end

end Tw
set_option Elab.async false
set_option linter.all false
set_option maxRecDepth 100000
set_option maxHeartbeats 4000000
namespace Tw
open PySem PySem.Spec PyProof.Rows L2
local macro_rules | `(tactic| walk_at "rd0") => `(tactic| first
  | with_reducible refine Tw.rd_seq ?_
  | with_reducible refine Tw.rd_asg ?_
  | with_reducible refine Tw.rd_drop ?_
  | with_reducible refine Tw.rd_ret ?_
  | with_reducible refine Tw.rd_retN ?_
  | with_reducible refine Tw.rd_next ?_
  | ((with_reducible refine Tw.rd_var (v := ?vv) ?hv ?_); (case hv => exact rfl))
  | with_reducible refine Tw.rd_c ?_
  | with_reducible refine Tw.rd_op ?_
  | with_reducible refine Tw.rd_un ?_
  | with_reducible refine Tw.rd_I0 ?_
  | with_reducible refine Tw.rd_U ?_
  | with_reducible refine Tw.rd_test ?_
  | with_reducible refine Tw.rd_tB ?_
  | with_reducible refine Tw.rd_bl ?_
  | with_reducible refine Tw.rd_not ?_
  | with_reducible refine Tw.rd_and ?_
  | with_reducible refine Tw.rd_or ?_
  | with_reducible refine Tw.rd_andV ?_
  | with_reducible refine Tw.rd_orV ?_
  | with_reducible refine Tw.rd_notV ?_
  | with_reducible refine Tw.rd_tIf ?_
  | with_reducible refine Tw.rd_cb ?_
  | with_reducible refine Tw.rd_cons ?_
  | with_reducible refine Tw.rd_nil ?_
  | with_reducible refine Tw.rd_call ?_
  | with_reducible refine Tw.rd_tup ?_
  | with_reducible refine Tw.rd_lst ?_
  | with_reducible refine Tw.rd_gname ?_
  | with_reducible refine Tw.rd_chain ?_
  | with_reducible refine Tw.rd_lc ?_
  | with_reducible refine Tw.rd_il ?_
  | with_reducible refine Tw.rd_it ?_
  | with_reducible refine Tw.rd_ie ?_
  | with_reducible refine Tw.rd_ir ?_
  | with_reducible refine Tw.rd_ir2 ?_
  | with_reducible refine Tw.rd_ir3 ?_
  | with_reducible refine Tw.rd_dput ?_
  | with_reducible refine Tw.rd_dget2 ?_
  | with_reducible refine Tw.rd_items ?_
  | with_reducible refine Tw.rd_sl ?_
  | with_reducible refine Tw.rd_nopart ?_
  | with_reducible refine Tw.rd_part ?_
  | with_reducible refine Tw.rd_int ?_
  | with_reducible refine Tw.rd_revL ?_
  | with_reducible refine Tw.rd_bm ?_
  | with_reducible refine Tw.rd_bm0 ?_
  | with_reducible refine Tw.rd_lrg ?_
  | with_reducible refine Tw.rd_rg2 ?_
  | with_reducible refine Tw.rd_rg1 ?_
  | with_reducible refine Tw.rd_int2 ?_
  | with_reducible refine Tw.rd_augS ?_
  | with_reducible refine Tw.rd_ipI ?_
  | with_reducible refine Tw.rd_gsub ?_
  | with_reducible refine Tw.rd_gcons ?_
  | with_reducible refine Tw.rd_gnil ?_
  | with_reducible refine Tw.rd_par ?_
  | with_reducible refine Tw.rd_par2 ?_
  | with_reducible refine Tw.rd_mk ?_
  | with_reducible refine Tw.rd_md ?_
  | with_reducible refine Tw.rd_fld ?_
  | with_reducible refine Tw.rd_sfld ?_)
local macro_rules | `(tactic| walk_at "rd1") => `(tactic| first
  | walk_at "rd0"
  | with_reducible refine Tw.rd_if ?_
  | with_reducible refine Tw.rd_for ?_)
local macro_rules | `(tactic| walk_at "rs") => `(tactic| repeat walk_at "rd0")
local macro_rules | `(tactic| walk_at "rd") => `(tactic| repeat walk_at "rd1")
local macro_rules | `(tactic| walk_at "ini") => `(tactic| (dsimp only [L2.cxOf, L2.start, L2.Cx.wish, L2.Cx.nox, List.map, List.length_cons, List.length_nil, Nat.reduceAdd, Nat.reduceSub, List.replicate, List.cons_append, List.nil_append]; walk_at "rd"))
local macro_rules | `(tactic| walk_at "num") => `(tactic| first
  | exact (show (0 : Int) < _ from by decide)
  | exact (show (0 : Int) < _ ∧ _ < (1073741824 : Int) from by decide)
  | exact (show (0 : Int) ≤ _ ∧ _ ≤ (1000000 : Int) ∧ _ < 2 ^ 64 from by decide))
local macro_rules | `(tactic| walk_at "rn") => `(tactic| repeat (first | walk_at "rd1" | ((with_reducible refine Tw.rd_I ?c ?_); (case c => walk_at "num"))))
theorem sc__law_two_sides : FnScope ["_law_script", "_law_by", "_law_most", "_law_cells", "_law_number_here"] ["_law_script", "_law_by", "_law_most"] (defScope s__law_two_sides) := ⟨rfl, rfl, rfl, by decide +kernel, rfl, by decide +kernel, by decide +kernel⟩
section
variable {P : Program} {w : World} {K : PySem.W.Frag} {mg : Str → Option Value} {base : Heap}
theorem ok__law_two_sides {f : Addr} {fd : FuncData} (F : Fun K "_law_two_sides" "_law_two_sides" s__law_two_sides f fd) (B : Bn mg) (d__law_number : Df P w K mg base CX0 1 "_law_number" ["_law_cell", "_law_at", "_law_whole_here"] spNum) : FnOk P w K mg base CX0 2 f fd ["_law_script", "_law_by", "_law_most"] (spTwo K) := by
  refine F.ok sc__law_two_sides (fun vs H Q E h => ?_) (fun cdv A outer s H vs Q E hr h => ?_)
  · obtain ⟨a, ns, b, m, rfl, _⟩ := h
    rfl
  · obtain ⟨a, ns, b, m, rfl, hS, hl, hb, b0, b1, m0, m1, q⟩ := h
    refine ⟨_, (pss_cons (ps_set (i := 3) sc__law_two_sides.nd rfl (Or.inl rfl) (pe_ifExp (pt_cmpR (op_neD hr.units) (pv 0) (pe_lst pa_nil) (nomark _)) (pe_slice (r := rSlL K) sl_list (pv 0) po_none (po_some pe_int)) (pe_lst (pa_cons pe_int pa_nil))))
    (pss_cons (ps_set (i := 4) sc__law_two_sides.nd rfl (Or.inl rfl) (pe_df d__law_number (hr.mono (by decide)) (by rfl) pass0 (pa_cons (pe_ix (r := rIxL K) ix_list (pv 3) (pe_op op_mod (pv 1) (pe_callB (r := rLen K) call_lenQ (by rfl) B.n_len boot_len (pa_cons (pv 3) pa_nil))) (fun _ _ => rfl)) (pa_cons (pe_op op_add (pv 1) pe_int) (pa_cons (pe_callB (r := rLen K) call_lenQ (by rfl) B.n_len boot_len (pa_cons (pv 3) pa_nil)) pa_nil)))))
    (pss_one (ps_ret (pe_tup (pa_cons (pe_op op_add pe_int (pe_op op_mod (pv 4) (pe_op op_sub (pv 2) pe_int))) (pa_cons (pe_op op_add pe_int (pe_op op_mod (pe_op op_fdiv (pv 4) pe_int) (pe_op op_sub (pv 2) pe_int))) pa_nil))))))), ?_⟩
    dsimp only [L2.cxOf, L2.start, L2.Cx.wish, L2.Cx.nox, List.map, List.length_cons, List.length_nil, Nat.reduceAdd, Nat.reduceSub, List.replicate, List.cons_append, List.nil_append]
    refine rd_seq (rd_asg (cutE (fun v H1 => ∃ c cs, v = .ref c ∧ Same H H1 ∧ H1 c = some (.lst (cs.map V.int)) ∧ cs ≠ [] ∧ cs.length ≤ 63 ∧ ∀ z ∈ cs, Bd 1048576 z) (fun Q' q' => ?_) (fun v H1 h1 => ?_)))
    · walk_at "rd"
      refine ⟨Nat.zero_le _, fun e ne => ?_⟩
      have s1 : Same H (upd H e (.lst [])) := same_new ne
      refine rd_neD (dp_ints (same_l s1 hS)) (dp_ints (ns := []) (.of upd_same)) (shaped_of (sh_ints (n := 0) _)) (shaped_of (sh_ints (n := 0) _)) ?_
      rw [eqv_dI]
      walk_at "rd"
      by_cases c : ns = []
      · rw [decide_eq_true c]
        refine iteF ?_
        walk_at "rd"
        refine ⟨by rw [sizeLine_eq]; decide, fun p np => q' _ _ ⟨p, [7], rfl, s1.trans (same_new np), upd_same, by decide, by decide, fun z hz => ?_⟩⟩
        rw [List.mem_singleton.mp hz]
        exact bd_lit (by decide) (by decide)
      · rw [decide_eq_false c]
        refine iteT ?_
        walk_at "rd"
        refine rd_slL (same_l s1 hS) (fun p np => q' _ _ ⟨p, ns, rfl, s1.trans (same_new np), ?_, c, hl, hb⟩)
        rw [upd_same, cut_63, List.take_of_length_le (by rw [List.length_map]; exact hl)]
    · obtain ⟨c, cs, rfl, s1, hc, cne, cl, cb⟩ := h1
      have cpos : 0 < cs.length := List.length_pos_iff.mpr cne
      walk_at "rd"
      refine ⟨c, _, rfl, .inl (.of hc), ?_⟩
      refine rd_I (show (0 : Int) < ((cs.map V.int).length : Int) by rw [List.length_map]; omega) ?_
      have j0 : 0 ≤ b % ((cs.map V.int).length : Int) := Int.emod_nonneg _ (by rw [List.length_map]; omega)
      have j1 : b % ((cs.map V.int).length : Int) < ((cs.map V.int).length : Int) := Int.emod_lt_of_pos _ (by rw [List.length_map]; omega)
      obtain ⟨cv, ec, mc⟩ := atI_mod (cs.map V.int) _ j0 j1
      obtain ⟨z, hz, rfl⟩ := List.mem_map.mp mc
      refine rd_ixL (.of hc) ec ?_
      walk_at "rd"
      refine ⟨c, _, rfl, .inl (.of hc), ?_⟩
      walk_at "rd"
      refine ⟨z, b + 2, _, rfl, cb z hz, ⟨by omega, by omega⟩, ?_, fun n => ?_⟩
      · refine bd_lit ?_ (by decide)
        rw [List.length_map]
        omega
      walk_at "rd"
      refine rd_I (show (0 : Int) < m - 1 by omega) ?_
      walk_at "rn"
      refine rd_I (show (0 : Int) < m - 1 by omega) ?_
      walk_at "rd"
      have k0 : 0 ≤ n % (m - 1) := Int.emod_nonneg _ (by omega)
      have k1 : n % (m - 1) < m - 1 := Int.emod_lt_of_pos _ (by omega)
      have k2 : 0 ≤ n / 13 % (m - 1) := Int.emod_nonneg _ (by omega)
      have k3 : n / 13 % (m - 1) < m - 1 := Int.emod_lt_of_pos _ (by omega)
      refine ⟨by show 2 ≤ sizeLine; rw [sizeLine_eq]; decide, fun t nt => ?_⟩
      exact q _ t _ _ (s1.trans (same_new nt)) upd_same (by omega) (by omega) (by omega) (by omega)
end

end Tw
set_option Elab.async false
set_option linter.all false
set_option maxRecDepth 100000
set_option maxHeartbeats 4000000
namespace Tw
open PySem PySem.Spec PyProof.Rows L2
local macro_rules | `(tactic| walk_at "rd0") => `(tactic| first
  | with_reducible refine Tw.rd_seq ?_
  | with_reducible refine Tw.rd_asg ?_
  | with_reducible refine Tw.rd_drop ?_
  | with_reducible refine Tw.rd_ret ?_
  | with_reducible refine Tw.rd_retN ?_
  | with_reducible refine Tw.rd_next ?_
  | ((with_reducible refine Tw.rd_var (v := ?vv) ?hv ?_); (case hv => exact rfl))
  | with_reducible refine Tw.rd_c ?_
  | with_reducible refine Tw.rd_op ?_
  | with_reducible refine Tw.rd_un ?_
  | with_reducible refine Tw.rd_I0 ?_
  | with_reducible refine Tw.rd_U ?_
  | with_reducible refine Tw.rd_test ?_
  | with_reducible refine Tw.rd_tB ?_
  | with_reducible refine Tw.rd_bl ?_
  | with_reducible refine Tw.rd_not ?_
  | with_reducible refine Tw.rd_and ?_
  | with_reducible refine Tw.rd_or ?_
  | with_reducible refine Tw.rd_andV ?_
  | with_reducible refine Tw.rd_orV ?_
  | with_reducible refine Tw.rd_notV ?_
  | with_reducible refine Tw.rd_tIf ?_
  | with_reducible refine Tw.rd_cb ?_
  | with_reducible refine Tw.rd_cons ?_
  | with_reducible refine Tw.rd_nil ?_
  | with_reducible refine Tw.rd_call ?_
  | with_reducible refine Tw.rd_tup ?_
  | with_reducible refine Tw.rd_lst ?_
  | with_reducible refine Tw.rd_gname ?_
  | with_reducible refine Tw.rd_chain ?_
  | with_reducible refine Tw.rd_lc ?_
  | with_reducible refine Tw.rd_il ?_
  | with_reducible refine Tw.rd_it ?_
  | with_reducible refine Tw.rd_ie ?_
  | with_reducible refine Tw.rd_ir ?_
  | with_reducible refine Tw.rd_ir2 ?_
  | with_reducible refine Tw.rd_ir3 ?_
  | with_reducible refine Tw.rd_dput ?_
  | with_reducible refine Tw.rd_dget2 ?_
  | with_reducible refine Tw.rd_items ?_
  | with_reducible refine Tw.rd_sl ?_
  | with_reducible refine Tw.rd_nopart ?_
  | with_reducible refine Tw.rd_part ?_
  | with_reducible refine Tw.rd_int ?_
  | with_reducible refine Tw.rd_revL ?_
  | with_reducible refine Tw.rd_bm ?_
  | with_reducible refine Tw.rd_bm0 ?_
  | with_reducible refine Tw.rd_lrg ?_
  | with_reducible refine Tw.rd_rg2 ?_
  | with_reducible refine Tw.rd_rg1 ?_
  | with_reducible refine Tw.rd_int2 ?_
  | with_reducible refine Tw.rd_augS ?_
  | with_reducible refine Tw.rd_ipI ?_
  | with_reducible refine Tw.rd_gsub ?_
  | with_reducible refine Tw.rd_gcons ?_
  | with_reducible refine Tw.rd_gnil ?_
  | with_reducible refine Tw.rd_par ?_
  | with_reducible refine Tw.rd_par2 ?_
  | with_reducible refine Tw.rd_mk ?_
  | with_reducible refine Tw.rd_md ?_
  | with_reducible refine Tw.rd_fld ?_
  | with_reducible refine Tw.rd_sfld ?_)
local macro_rules | `(tactic| walk_at "rd1") => `(tactic| first
  | walk_at "rd0"
  | with_reducible refine Tw.rd_if ?_
  | with_reducible refine Tw.rd_for ?_)
local macro_rules | `(tactic| walk_at "rs") => `(tactic| repeat walk_at "rd0")
local macro_rules | `(tactic| walk_at "rd") => `(tactic| repeat walk_at "rd1")
local macro_rules | `(tactic| walk_at "ini") => `(tactic| (dsimp only [L2.cxOf, L2.start, L2.Cx.wish, L2.Cx.nox, List.map, List.length_cons, List.length_nil, Nat.reduceAdd, Nat.reduceSub, List.replicate, List.cons_append, List.nil_append]; walk_at "rd"))
local macro_rules | `(tactic| walk_at "num") => `(tactic| first
  | exact (show (0 : Int) < _ from by decide)
  | exact (show (0 : Int) < _ ∧ _ < (1073741824 : Int) from by decide)
  | exact (show (0 : Int) ≤ _ ∧ _ ≤ (1000000 : Int) ∧ _ < 2 ^ 64 from by decide))
local macro_rules | `(tactic| walk_at "rn") => `(tactic| repeat (first | walk_at "rd1" | ((with_reducible refine Tw.rd_I ?c ?_); (case c => walk_at "num"))))
theorem sc__law_counts : FnScope ["_law_one", "_law_other", "_law_found", "_law_mine", "_law_theirs"] ["_law_one", "_law_other"] (defScope s__law_counts) := ⟨rfl, rfl, rfl, by decide +kernel, rfl, by decide +kernel, by decide +kernel⟩
section
variable {P : Program} {w : World} {K : PySem.W.Frag} {mg : Str → Option Value} {base : Heap}
theorem ok__law_counts {f : Addr} {fd : FuncData} (F : Fun K "_law_counts" "_law_counts" s__law_counts f fd) : FnOk P w K mg base CX0 1 f fd ["_law_one", "_law_other"] (spCounts K) := by
  refine F.ok sc__law_counts (fun vs H Q E h => ?_) (fun cdv A outer s H vs Q E hr h => ?_)
  · obtain ⟨a, b, one, other, rfl, _⟩ := h
    rfl
  · obtain ⟨a, b, one, other, rfl, h1, h2, l1, l2, q⟩ := h
    refine ⟨_, (pss_cons (ps_set (i := 2) sc__law_counts.nd rfl (Or.inl rfl) pe_dnewK)
    (pss_cons (ps_for PassesOwn.never rfl (pi_list (pv 0)) (pg_name (i := 3) sc__law_counts.nd rfl (Or.inl rfl))
      (pss_one (ps_for PassesOwn.never rfl (pi_list (pv 1)) (pg_name (i := 4) sc__law_counts.nd rfl (Or.inl rfl))
      (pss_one (ps_dput (hu_of hr) (pv 2) (pe_op op_add (pv 3) (pv 4)) (pe_op op_add (pe_dget2 (hu_of hr) (pv 2) (pe_op op_add (pv 3) (pv 4)) pe_int ⟨rfl, rfl, rfl, rfl⟩) pe_int) rfl)))))
    (pss_one (ps_ret (pv 2))))), ?_⟩
    walk_at "ini"
    refine rd_dnew fun d nd => ?_
    walk_at "rd"
    have s0 : Same H (upd H d (.dK [])) := same_new nd
    refine ⟨a, rfl, ⟨_, same_l s0 h1⟩, ?_⟩
    refine for_listP V.int one (fun dn σ H1 => ∃ y3 y4, σ = [some (.ref a), some (.ref b), some (.ref d), y3, y4] ∧ Same H H1 ∧ dn.length ≤ one.length ∧ H1 d = some (.dK (kvs (tally (allS dn other)))))
      ⟨none, none, rfl, s0, Nat.zero_le _, upd_same⟩ (fun dn σ H1 ⟨_, _, _, s1, _⟩ => same_l s1 h1) (fun dn m rs σ H1 e ⟨y3, y4, eσ, s1, hl, hd⟩ => ?_) (fun σ H1 ⟨y3, y4, eσ, s1, _, hd⟩ => ?_)
    · subst eσ
      have hl' : (dn ++ [m]).length ≤ one.length := by
        rw [e]
        simp
      walk_at "rd"
      refine ⟨b, rfl, ⟨_, same_l s1 h2⟩, ?_⟩
      refine for_listP V.int other (fun dn2 σ H2 => ∃ y4, σ = [some (.ref a), some (.ref b), some (.ref d), some (.int m), y4] ∧ Same H H2 ∧ dn2.length ≤ other.length ∧ H2 d = some (.dK (kvs (tallyF (tally (allS dn other)) (dn2.map fun t => m + t)))))
        ⟨y4, rfl, s1, Nat.zero_le _, hd⟩ (fun dn2 σ H2 ⟨_, _, s2, _⟩ => same_l s2 h2) (fun dn2 t rs2 σ H2 e2 ⟨y4, eσ, s2, hl2, hd2⟩ => ?_) (fun σ H2 ⟨y4, eσ, s2, _, hd2⟩ => ?_)
      · subst eσ
        walk_at "rd"
        refine ⟨d, rfl, .inl ⟨_, .inl hd2⟩, ?_⟩
        walk_at "rd"
        refine ⟨_, DGet.k (k := Sum.inl (m + t)) hd2, ?_⟩
        rw [getD_kvs]
        walk_at "rd"
        refine ⟨d, _, rfl, DPut.k (k := Sum.inl (m + t)) hd2 ?_, ?_⟩
        · have z1 := tallyF_len (dn2.map fun t => m + t) (tally (allS dn other))
          have z2 := tallyF_len (allS dn other) []
          rw [allS_len] at z2
          have z3 : dn.length * other.length ≤ 100 * 100 := Nat.mul_le_mul (by omega) l2
          have z4 : (tally (allS dn other)).length ≤ 0 + dn.length * other.length := z2
          rw [List.length_map] at z1
          have z5 : sizeLine = 16777216 := sizeLine_eq
          unfold kvs
          rw [List.length_map, z5]
          omega
        · refine ⟨some (.int t), rfl, same_mut s2 nd, ?_, ?_⟩
          · rw [e2]
            simp
          · rw [upd_same, put_kvs, List.map_append, tallyF_app]
            rfl
      · subst eσ
        refine ⟨some (.int m), y4, rfl, s2, hl', ?_⟩
        rw [hd2, allS_app, allS_one]
        unfold tally
        rw [tallyF_app]
    · subst eσ
      walk_at "rd"
      exact q H1 d s1 nd hd
end


end Tw
set_option Elab.async false
set_option linter.all false
set_option maxRecDepth 100000
set_option maxHeartbeats 4000000
namespace Tw
open PySem PySem.Spec PyProof.Rows L2
local macro_rules | `(tactic| walk_at "rd0") => `(tactic| first
  | with_reducible refine Tw.rd_seq ?_
  | with_reducible refine Tw.rd_asg ?_
  | with_reducible refine Tw.rd_drop ?_
  | with_reducible refine Tw.rd_ret ?_
  | with_reducible refine Tw.rd_retN ?_
  | with_reducible refine Tw.rd_next ?_
  | ((with_reducible refine Tw.rd_var (v := ?vv) ?hv ?_); (case hv => exact rfl))
  | with_reducible refine Tw.rd_c ?_
  | with_reducible refine Tw.rd_op ?_
  | with_reducible refine Tw.rd_un ?_
  | with_reducible refine Tw.rd_I0 ?_
  | with_reducible refine Tw.rd_U ?_
  | with_reducible refine Tw.rd_test ?_
  | with_reducible refine Tw.rd_tB ?_
  | with_reducible refine Tw.rd_bl ?_
  | with_reducible refine Tw.rd_not ?_
  | with_reducible refine Tw.rd_and ?_
  | with_reducible refine Tw.rd_or ?_
  | with_reducible refine Tw.rd_andV ?_
  | with_reducible refine Tw.rd_orV ?_
  | with_reducible refine Tw.rd_notV ?_
  | with_reducible refine Tw.rd_tIf ?_
  | with_reducible refine Tw.rd_cb ?_
  | with_reducible refine Tw.rd_cons ?_
  | with_reducible refine Tw.rd_nil ?_
  | with_reducible refine Tw.rd_call ?_
  | with_reducible refine Tw.rd_tup ?_
  | with_reducible refine Tw.rd_lst ?_
  | with_reducible refine Tw.rd_gname ?_
  | with_reducible refine Tw.rd_chain ?_
  | with_reducible refine Tw.rd_lc ?_
  | with_reducible refine Tw.rd_il ?_
  | with_reducible refine Tw.rd_it ?_
  | with_reducible refine Tw.rd_ie ?_
  | with_reducible refine Tw.rd_ir ?_
  | with_reducible refine Tw.rd_ir2 ?_
  | with_reducible refine Tw.rd_ir3 ?_
  | with_reducible refine Tw.rd_dput ?_
  | with_reducible refine Tw.rd_dget2 ?_
  | with_reducible refine Tw.rd_items ?_
  | with_reducible refine Tw.rd_sl ?_
  | with_reducible refine Tw.rd_nopart ?_
  | with_reducible refine Tw.rd_part ?_
  | with_reducible refine Tw.rd_int ?_
  | with_reducible refine Tw.rd_revL ?_
  | with_reducible refine Tw.rd_bm ?_
  | with_reducible refine Tw.rd_bm0 ?_
  | with_reducible refine Tw.rd_lrg ?_
  | with_reducible refine Tw.rd_rg2 ?_
  | with_reducible refine Tw.rd_rg1 ?_
  | with_reducible refine Tw.rd_int2 ?_
  | with_reducible refine Tw.rd_augS ?_
  | with_reducible refine Tw.rd_ipI ?_
  | with_reducible refine Tw.rd_gsub ?_
  | with_reducible refine Tw.rd_gcons ?_
  | with_reducible refine Tw.rd_gnil ?_
  | with_reducible refine Tw.rd_par ?_
  | with_reducible refine Tw.rd_par2 ?_
  | with_reducible refine Tw.rd_mk ?_
  | with_reducible refine Tw.rd_md ?_
  | with_reducible refine Tw.rd_fld ?_
  | with_reducible refine Tw.rd_sfld ?_)
local macro_rules | `(tactic| walk_at "rd1") => `(tactic| first
  | walk_at "rd0"
  | with_reducible refine Tw.rd_if ?_
  | with_reducible refine Tw.rd_for ?_)
local macro_rules | `(tactic| walk_at "rs") => `(tactic| repeat walk_at "rd0")
local macro_rules | `(tactic| walk_at "rd") => `(tactic| repeat walk_at "rd1")
local macro_rules | `(tactic| walk_at "ini") => `(tactic| (dsimp only [L2.cxOf, L2.start, L2.Cx.wish, L2.Cx.nox, List.map, List.length_cons, List.length_nil, Nat.reduceAdd, Nat.reduceSub, List.replicate, List.cons_append, List.nil_append]; walk_at "rd"))
local macro_rules | `(tactic| walk_at "num") => `(tactic| first
  | exact (show (0 : Int) < _ from by decide)
  | exact (show (0 : Int) < _ ∧ _ < (1073741824 : Int) from by decide)
  | exact (show (0 : Int) ≤ _ ∧ _ ≤ (1000000 : Int) ∧ _ < 2 ^ 64 from by decide))
local macro_rules | `(tactic| walk_at "rn") => `(tactic| repeat (first | walk_at "rd1" | ((with_reducible refine Tw.rd_I ?c ?_); (case c => walk_at "num"))))
theorem sc__law_plain : FnScope ["_law_sides"] ["_law_sides"] (defScope s__law_plain) := ⟨rfl, rfl, rfl, by decide +kernel, rfl, by decide +kernel, by decide +kernel⟩
section
variable {P : Program} {w : World} {K : PySem.W.Frag} {mg : Str → Option Value} {base : Heap}
theorem ok__law_plain {f : Addr} {fd : FuncData} (F : Fun K "_law_plain" "_law_plain" s__law_plain f fd) (B : Bn mg) : FnOk P w K mg base CX0 1 f fd ["_law_sides"] spPlain := by
  refine F.ok sc__law_plain (fun vs H Q E h => ?_) (fun cdv A outer s H vs Q E hr h => ?_)
  · obtain ⟨n, rfl, _⟩ := h
    rfl
  · obtain ⟨n, rfl, n0, n1, q⟩ := h
    refine ⟨_, (pss_one (ps_ret (pe_listRg rfl (by rfl) B.n_list (prg_2 (by rfl) B.n_range pe_int (pe_op op_add (pv 0) pe_int))))), ?_⟩
    walk_at "ini"
    refine ⟨.of_le (by decide) (by omega) (by decide) (by omega), fun p np => ?_⟩
    refine q _ p (same_new np) np ?_
    rw [upd_same, rgV_rgI]
end

end Tw
set_option Elab.async false
set_option linter.all false
set_option maxRecDepth 100000
set_option maxHeartbeats 4000000
namespace Tw
open PySem PySem.Spec PyProof.Rows L2
local macro_rules | `(tactic| walk_at "rd0") => `(tactic| first
  | with_reducible refine Tw.rd_seq ?_
  | with_reducible refine Tw.rd_asg ?_
  | with_reducible refine Tw.rd_drop ?_
  | with_reducible refine Tw.rd_ret ?_
  | with_reducible refine Tw.rd_retN ?_
  | with_reducible refine Tw.rd_next ?_
  | ((with_reducible refine Tw.rd_var (v := ?vv) ?hv ?_); (case hv => exact rfl))
  | with_reducible refine Tw.rd_c ?_
  | with_reducible refine Tw.rd_op ?_
  | with_reducible refine Tw.rd_un ?_
  | with_reducible refine Tw.rd_I0 ?_
  | with_reducible refine Tw.rd_U ?_
  | with_reducible refine Tw.rd_test ?_
  | with_reducible refine Tw.rd_tB ?_
  | with_reducible refine Tw.rd_bl ?_
  | with_reducible refine Tw.rd_not ?_
  | with_reducible refine Tw.rd_and ?_
  | with_reducible refine Tw.rd_or ?_
  | with_reducible refine Tw.rd_andV ?_
  | with_reducible refine Tw.rd_orV ?_
  | with_reducible refine Tw.rd_notV ?_
  | with_reducible refine Tw.rd_tIf ?_
  | with_reducible refine Tw.rd_cb ?_
  | with_reducible refine Tw.rd_cons ?_
  | with_reducible refine Tw.rd_nil ?_
  | with_reducible refine Tw.rd_call ?_
  | with_reducible refine Tw.rd_tup ?_
  | with_reducible refine Tw.rd_lst ?_
  | with_reducible refine Tw.rd_gname ?_
  | with_reducible refine Tw.rd_chain ?_
  | with_reducible refine Tw.rd_lc ?_
  | with_reducible refine Tw.rd_il ?_
  | with_reducible refine Tw.rd_it ?_
  | with_reducible refine Tw.rd_ie ?_
  | with_reducible refine Tw.rd_ir ?_
  | with_reducible refine Tw.rd_ir2 ?_
  | with_reducible refine Tw.rd_ir3 ?_
  | with_reducible refine Tw.rd_dput ?_
  | with_reducible refine Tw.rd_dget2 ?_
  | with_reducible refine Tw.rd_items ?_
  | with_reducible refine Tw.rd_sl ?_
  | with_reducible refine Tw.rd_nopart ?_
  | with_reducible refine Tw.rd_part ?_
  | with_reducible refine Tw.rd_int ?_
  | with_reducible refine Tw.rd_revL ?_
  | with_reducible refine Tw.rd_bm ?_
  | with_reducible refine Tw.rd_bm0 ?_
  | with_reducible refine Tw.rd_lrg ?_
  | with_reducible refine Tw.rd_rg2 ?_
  | with_reducible refine Tw.rd_rg1 ?_
  | with_reducible refine Tw.rd_int2 ?_
  | with_reducible refine Tw.rd_augS ?_
  | with_reducible refine Tw.rd_ipI ?_
  | with_reducible refine Tw.rd_gsub ?_
  | with_reducible refine Tw.rd_gcons ?_
  | with_reducible refine Tw.rd_gnil ?_
  | with_reducible refine Tw.rd_par ?_
  | with_reducible refine Tw.rd_par2 ?_
  | with_reducible refine Tw.rd_mk ?_
  | with_reducible refine Tw.rd_md ?_
  | with_reducible refine Tw.rd_fld ?_
  | with_reducible refine Tw.rd_sfld ?_)
local macro_rules | `(tactic| walk_at "rd1") => `(tactic| first
  | walk_at "rd0"
  | with_reducible refine Tw.rd_if ?_
  | with_reducible refine Tw.rd_for ?_)
local macro_rules | `(tactic| walk_at "rs") => `(tactic| repeat walk_at "rd0")
local macro_rules | `(tactic| walk_at "rd") => `(tactic| repeat walk_at "rd1")
local macro_rules | `(tactic| walk_at "ini") => `(tactic| (dsimp only [L2.cxOf, L2.start, L2.Cx.wish, L2.Cx.nox, List.map, List.length_cons, List.length_nil, Nat.reduceAdd, Nat.reduceSub, List.replicate, List.cons_append, List.nil_append]; walk_at "rd"))
local macro_rules | `(tactic| walk_at "num") => `(tactic| first
  | exact (show (0 : Int) < _ from by decide)
  | exact (show (0 : Int) < _ ∧ _ < (1073741824 : Int) from by decide)
  | exact (show (0 : Int) ≤ _ ∧ _ ≤ (1000000 : Int) ∧ _ < 2 ^ 64 from by decide))
local macro_rules | `(tactic| walk_at "rn") => `(tactic| repeat (first | walk_at "rd1" | ((with_reducible refine Tw.rd_I ?c ?_); (case c => walk_at "num"))))
theorem sc__law_twins : FnScope ["_law_first", "_law_second", "_law_one", "_law_other"] ["_law_first", "_law_second", "_law_one", "_law_other"] (defScope s__law_twins) := ⟨rfl, rfl, rfl, by decide +kernel, rfl, by decide +kernel, by decide +kernel⟩
section
variable {P : Program} {w : World} {K : PySem.W.Frag} {mg : Str → Option Value} {base : Heap}
theorem ok__law_twins {f : Addr} {fd : FuncData} (F : Fun K "_law_twins" "_law_twins" s__law_twins f fd) (d__law_counts : Df P w K mg base CX0 1 "_law_counts" ["_law_one", "_law_other"] (spCounts K)) (d__law_plain : Df P w K mg base CX0 1 "_law_plain" ["_law_sides"] spPlain) : FnOk P w K mg base CX0 2 f fd ["_law_first", "_law_second", "_law_one", "_law_other"] (spLTwins K) := by
  refine F.ok sc__law_twins (fun vs H Q E h => ?_) (fun cdv A outer s H vs Q E hr h => ?_)
  · obtain ⟨_, _, _, _, _, _, rfl, _⟩ := h
    rfl
  · obtain ⟨f, s, a, b, one, other, rfl, ⟨f1, f2⟩, ⟨g1, g2⟩, h1, h2, l1, l2, q⟩ := h
    refine ⟨_, (pss_one (ps_ret (pe_cmpR (op_eqDict hr.units0) (pe_df d__law_counts (hr.mono (by decide)) (by rfl) pass0 (pa_cons (pv 2) (pa_cons (pv 3) pa_nil))) (pe_df d__law_counts (hr.mono (by decide)) (by rfl) pass0 (pa_cons (pe_df d__law_plain (hr.mono (by decide)) (by rfl) pass0 (pa_cons (pv 0) pa_nil)) (pa_cons (pe_df d__law_plain (hr.mono (by decide)) (by rfl) pass0 (pa_cons (pv 1) pa_nil)) pa_nil))) (nomark _)))), ?_⟩
    walk_at "ini"
    refine ⟨a, b, one, other, rfl, h1, h2, l1, l2, fun H1 d s1 nd hd => ?_⟩
    walk_at "rd"
    refine ⟨f, rfl, by omega, by omega, fun H2 p s2 np hp => ?_⟩
    walk_at "rd"
    refine ⟨s, rfl, by omega, by omega, fun H3 r s3 nr hr' => ?_⟩
    walk_at "rd"
    refine ⟨p, r, _, _, rfl, .of (s3 _ _ hp), .of hr', by rw [len_rgI]; omega, by rw [len_rgI]; omega, fun H4 d2 s4 nd2 hd2 => ?_⟩
    exact ⟨d, d2, _, _, rfl, rfl, s4 _ _ (s3 _ _ (s2 _ _ hd)), hd2, q _ (s1.trans (s2.trans (s3.trans s4)))⟩
end

end Tw
set_option Elab.async false
set_option linter.all false
set_option maxRecDepth 100000
set_option maxHeartbeats 4000000
namespace Tw
open PySem PySem.Spec PyProof.Rows L2
local macro_rules | `(tactic| walk_at "rd0") => `(tactic| first
  | with_reducible refine Tw.rd_seq ?_
  | with_reducible refine Tw.rd_asg ?_
  | with_reducible refine Tw.rd_drop ?_
  | with_reducible refine Tw.rd_ret ?_
  | with_reducible refine Tw.rd_retN ?_
  | with_reducible refine Tw.rd_next ?_
  | ((with_reducible refine Tw.rd_var (v := ?vv) ?hv ?_); (case hv => exact rfl))
  | with_reducible refine Tw.rd_c ?_
  | with_reducible refine Tw.rd_op ?_
  | with_reducible refine Tw.rd_un ?_
  | with_reducible refine Tw.rd_I0 ?_
  | with_reducible refine Tw.rd_U ?_
  | with_reducible refine Tw.rd_test ?_
  | with_reducible refine Tw.rd_tB ?_
  | with_reducible refine Tw.rd_bl ?_
  | with_reducible refine Tw.rd_not ?_
  | with_reducible refine Tw.rd_and ?_
  | with_reducible refine Tw.rd_or ?_
  | with_reducible refine Tw.rd_andV ?_
  | with_reducible refine Tw.rd_orV ?_
  | with_reducible refine Tw.rd_notV ?_
  | with_reducible refine Tw.rd_tIf ?_
  | with_reducible refine Tw.rd_cb ?_
  | with_reducible refine Tw.rd_cons ?_
  | with_reducible refine Tw.rd_nil ?_
  | with_reducible refine Tw.rd_call ?_
  | with_reducible refine Tw.rd_tup ?_
  | with_reducible refine Tw.rd_lst ?_
  | with_reducible refine Tw.rd_gname ?_
  | with_reducible refine Tw.rd_chain ?_
  | with_reducible refine Tw.rd_lc ?_
  | with_reducible refine Tw.rd_il ?_
  | with_reducible refine Tw.rd_it ?_
  | with_reducible refine Tw.rd_ie ?_
  | with_reducible refine Tw.rd_ir ?_
  | with_reducible refine Tw.rd_ir2 ?_
  | with_reducible refine Tw.rd_ir3 ?_
  | with_reducible refine Tw.rd_dput ?_
  | with_reducible refine Tw.rd_dget2 ?_
  | with_reducible refine Tw.rd_items ?_
  | with_reducible refine Tw.rd_sl ?_
  | with_reducible refine Tw.rd_nopart ?_
  | with_reducible refine Tw.rd_part ?_
  | with_reducible refine Tw.rd_int ?_
  | with_reducible refine Tw.rd_revL ?_
  | with_reducible refine Tw.rd_bm ?_
  | with_reducible refine Tw.rd_bm0 ?_
  | with_reducible refine Tw.rd_lrg ?_
  | with_reducible refine Tw.rd_rg2 ?_
  | with_reducible refine Tw.rd_rg1 ?_
  | with_reducible refine Tw.rd_int2 ?_
  | with_reducible refine Tw.rd_augS ?_
  | with_reducible refine Tw.rd_ipI ?_
  | with_reducible refine Tw.rd_gsub ?_
  | with_reducible refine Tw.rd_gcons ?_
  | with_reducible refine Tw.rd_gnil ?_
  | with_reducible refine Tw.rd_par ?_
  | with_reducible refine Tw.rd_par2 ?_
  | with_reducible refine Tw.rd_mk ?_
  | with_reducible refine Tw.rd_md ?_
  | with_reducible refine Tw.rd_fld ?_
  | with_reducible refine Tw.rd_sfld ?_)
local macro_rules | `(tactic| walk_at "rd1") => `(tactic| first
  | walk_at "rd0"
  | with_reducible refine Tw.rd_if ?_
  | with_reducible refine Tw.rd_for ?_)
local macro_rules | `(tactic| walk_at "rs") => `(tactic| repeat walk_at "rd0")
local macro_rules | `(tactic| walk_at "rd") => `(tactic| repeat walk_at "rd1")
local macro_rules | `(tactic| walk_at "ini") => `(tactic| (dsimp only [L2.cxOf, L2.start, L2.Cx.wish, L2.Cx.nox, List.map, List.length_cons, List.length_nil, Nat.reduceAdd, Nat.reduceSub, List.replicate, List.cons_append, List.nil_append]; walk_at "rd"))
local macro_rules | `(tactic| walk_at "num") => `(tactic| first
  | exact (show (0 : Int) < _ from by decide)
  | exact (show (0 : Int) < _ ∧ _ < (1073741824 : Int) from by decide)
  | exact (show (0 : Int) ≤ _ ∧ _ ≤ (1000000 : Int) ∧ _ < 2 ^ 64 from by decide))
local macro_rules | `(tactic| walk_at "rn") => `(tactic| repeat (first | walk_at "rd1" | ((with_reducible refine Tw.rd_I ?c ?_); (case c => walk_at "num"))))
theorem sc__law_says : FnScope ["_law_said", "_law_due_here"] ["_law_said", "_law_due_here"] (defScope s__law_says) := ⟨rfl, rfl, rfl, by decide +kernel, rfl, by decide +kernel, by decide +kernel⟩
section
variable {P : Program} {w : World} {K : PySem.W.Frag} {mg : Str → Option Value} {base : Heap}
theorem ok__law_says {f : Addr} {fd : FuncData} (F : Fun K "_law_says" "_law_says" s__law_says f fd) (B : Bn mg) : FnOk P w K mg base CX0 1 f fd ["_law_said", "_law_due_here"] spSays := by
  refine F.ok sc__law_says (fun vs H Q E h => ?_) (fun cdv A outer s H vs Q E hr h => ?_)
  · obtain ⟨_, _, rfl, _⟩ := h
    rfl
  · obtain ⟨b1, b2, rfl, q⟩ := h
    refine ⟨_, (pss_one (ps_ret (pe_and (pe_callB (r := rIsi K) call_isi (by rfl) B.n_isinstance boot_isinstance (pa_cons (pv 0) (pa_cons (pe_ty B.n_bool boot_bool) pa_nil))) (pe_one (pe_cmpR op_eq (pv 0) (pv 1) (nomark _)))))), ?_⟩
    walk_at "ini"
    refine rd_isi (.ty _) (.base (.bl b1)) kit_bb ?_
    walk_at "rd"
    refine iteT ?_
    walk_at "rd"
    refine ⟨rfl, ?_⟩
    have e : decide (V.bl b1 = V.bl b2) = decide (b1 = b2) := by cases b1 <;> cases b2 <;> rfl
    rw [e]
    exact q
end

end Tw
set_option Elab.async false
set_option linter.all false
set_option maxRecDepth 100000
set_option maxHeartbeats 4000000
namespace Tw
open PySem PySem.Spec PyProof.Rows L2
local macro_rules | `(tactic| walk_at "rd0") => `(tactic| first
  | with_reducible refine Tw.rd_seq ?_
  | with_reducible refine Tw.rd_asg ?_
  | with_reducible refine Tw.rd_drop ?_
  | with_reducible refine Tw.rd_ret ?_
  | with_reducible refine Tw.rd_retN ?_
  | with_reducible refine Tw.rd_next ?_
  | ((with_reducible refine Tw.rd_var (v := ?vv) ?hv ?_); (case hv => exact rfl))
  | with_reducible refine Tw.rd_c ?_
  | with_reducible refine Tw.rd_op ?_
  | with_reducible refine Tw.rd_un ?_
  | with_reducible refine Tw.rd_I0 ?_
  | with_reducible refine Tw.rd_U ?_
  | with_reducible refine Tw.rd_test ?_
  | with_reducible refine Tw.rd_tB ?_
  | with_reducible refine Tw.rd_bl ?_
  | with_reducible refine Tw.rd_not ?_
  | with_reducible refine Tw.rd_and ?_
  | with_reducible refine Tw.rd_or ?_
  | with_reducible refine Tw.rd_andV ?_
  | with_reducible refine Tw.rd_orV ?_
  | with_reducible refine Tw.rd_notV ?_
  | with_reducible refine Tw.rd_tIf ?_
  | with_reducible refine Tw.rd_cb ?_
  | with_reducible refine Tw.rd_cons ?_
  | with_reducible refine Tw.rd_nil ?_
  | with_reducible refine Tw.rd_call ?_
  | with_reducible refine Tw.rd_tup ?_
  | with_reducible refine Tw.rd_lst ?_
  | with_reducible refine Tw.rd_gname ?_
  | with_reducible refine Tw.rd_chain ?_
  | with_reducible refine Tw.rd_lc ?_
  | with_reducible refine Tw.rd_il ?_
  | with_reducible refine Tw.rd_it ?_
  | with_reducible refine Tw.rd_ie ?_
  | with_reducible refine Tw.rd_ir ?_
  | with_reducible refine Tw.rd_ir2 ?_
  | with_reducible refine Tw.rd_ir3 ?_
  | with_reducible refine Tw.rd_dput ?_
  | with_reducible refine Tw.rd_dget2 ?_
  | with_reducible refine Tw.rd_items ?_
  | with_reducible refine Tw.rd_sl ?_
  | with_reducible refine Tw.rd_nopart ?_
  | with_reducible refine Tw.rd_part ?_
  | with_reducible refine Tw.rd_int ?_
  | with_reducible refine Tw.rd_revL ?_
  | with_reducible refine Tw.rd_bm ?_
  | with_reducible refine Tw.rd_bm0 ?_
  | with_reducible refine Tw.rd_lrg ?_
  | with_reducible refine Tw.rd_rg2 ?_
  | with_reducible refine Tw.rd_rg1 ?_
  | with_reducible refine Tw.rd_int2 ?_
  | with_reducible refine Tw.rd_augS ?_
  | with_reducible refine Tw.rd_ipI ?_
  | with_reducible refine Tw.rd_gsub ?_
  | with_reducible refine Tw.rd_gcons ?_
  | with_reducible refine Tw.rd_gnil ?_
  | with_reducible refine Tw.rd_par ?_
  | with_reducible refine Tw.rd_par2 ?_
  | with_reducible refine Tw.rd_mk ?_
  | with_reducible refine Tw.rd_md ?_
  | with_reducible refine Tw.rd_fld ?_
  | with_reducible refine Tw.rd_sfld ?_)
local macro_rules | `(tactic| walk_at "rd1") => `(tactic| first
  | walk_at "rd0"
  | with_reducible refine Tw.rd_if ?_
  | with_reducible refine Tw.rd_for ?_)
local macro_rules | `(tactic| walk_at "rs") => `(tactic| repeat walk_at "rd0")
local macro_rules | `(tactic| walk_at "rd") => `(tactic| repeat walk_at "rd1")
local macro_rules | `(tactic| walk_at "ini") => `(tactic| (dsimp only [L2.cxOf, L2.start, L2.Cx.wish, L2.Cx.nox, List.map, List.length_cons, List.length_nil, Nat.reduceAdd, Nat.reduceSub, List.replicate, List.cons_append, List.nil_append]; walk_at "rd"))
local macro_rules | `(tactic| walk_at "num") => `(tactic| first
  | exact (show (0 : Int) < _ from by decide)
  | exact (show (0 : Int) < _ ∧ _ < (1073741824 : Int) from by decide)
  | exact (show (0 : Int) ≤ _ ∧ _ ≤ (1000000 : Int) ∧ _ < 2 ^ 64 from by decide))
local macro_rules | `(tactic| walk_at "rn") => `(tactic| repeat (first | walk_at "rd1" | ((with_reducible refine Tw.rd_I ?c ?_); (case c => walk_at "num"))))
theorem sc__law_due : FnScope ["_law_first", "_law_second", "_law_one", "_law_other", "_law_found", "_law_mine", "_law_theirs"] ["_law_first", "_law_second", "_law_one", "_law_other", "_law_found"] (defScope s__law_due) := ⟨rfl, rfl, rfl, by decide +kernel, rfl, by decide +kernel, by decide +kernel⟩
theorem sc__law_right : FnScope ["_law_first", "_law_second", "_law_one", "_law_other", "_law_others", "_law_handed", "_law_good", "_law_again", "_law_found", "_law_kinds", "_law_mine", "_law_theirs"] ["_law_first", "_law_second", "_law_one", "_law_other", "_law_others"] (defScope s__law_right) := ⟨rfl, rfl, rfl, by decide +kernel, rfl, by decide +kernel, by decide +kernel⟩
section
variable {P : Program} {w : World} {K : PySem.W.Frag} {mg : Str → Option Value} {base : Heap}
/-- the answer at x, and what is due of it -/
def AnsAt (H : Hp) (CT CO : Addr) (x : Addr) (f s : Int) (t : Option Int) : Prop := match t with
  | none => ∃ dx, H x = some (.ins CT dx [])
  | some t => ∃ dx, H x = some (.ins CO dx [("total", .int t)])
theorem AnsAt.same {H H' : Hp} {CT CO x : Addr} {f s : Int} {t : Option Int} (z : Same H H') (h : AnsAt H CT CO x f s t) : AnsAt H' CT CO x f s t := by
  cases t with
  | none => exact h.imp fun _ h => z _ _ h
  | some t => exact h.imp fun _ h => z _ _ h
/-- what is due -/
def dueM (f s : Int) (t : Option Int) (one other : List Int) : Bool := match t with
  | none => dEq (tally (allS one other)) (tally (plS f s))
  | some t => !decide (getN (tally (allS one other)) t = getN (tally (plS f s)) t)
def spDue (K : PySem.W.Frag) (CT CO : Addr) : Sp := fun vs H Q _ => ∃ (f s : Int) (a b x : Addr) (one other : List Int) (t : Option Int), vs = [.int f, .int s, .ref a, .ref b, .ref x] ∧ SidesOk f ∧ SidesOk s ∧ SqL K H a (one.map V.int) ∧ SqL K H b (other.map V.int) ∧ one.length ≤ 100 ∧ other.length ≤ 100 ∧ AnsAt H CT CO x f s t ∧
  ∀ H', Same H H' → Q (.bl (dueM f s t one other)) H'
theorem ok__law_due {f CT CO : Addr} {fd : FuncData} (F : Fun K "_law_due" "_law_due" s__law_due f fd) (B : Bn mg) (c_Twin : Cl0 K mg "Twin" CT) (iT : InsT K CT) (iO : InsT K CO) (nt : NoAttr K CO "total") (kTT : PySem.W.kitOne K (.ref CT) (.ref CT) = some true) (kOT : PySem.W.kitOne K (.ref CO) (.ref CT) = some false)
    (d__law_counts : Df P w K mg base CX0 1 "_law_counts" ["_law_one", "_law_other"] (spCounts K)) (d__law_plain : Df P w K mg base CX0 1 "_law_plain" ["_law_sides"] spPlain) (d__law_twins : Df P w K mg base CX0 2 "_law_twins" ["_law_first", "_law_second", "_law_one", "_law_other"] (spLTwins K)) : FnOk P w K mg base CX0 3 f fd ["_law_first", "_law_second", "_law_one", "_law_other", "_law_found"] (spDue K CT CO) := by
  refine F.ok sc__law_due (fun vs H Q E h => ?_) (fun cdv A outer s H vs Q E hr h => ?_)
  · obtain ⟨_, _, _, _, _, _, _, _, rfl, _⟩ := h
    rfl
  · obtain ⟨f, s, a, b, x, one, other, t, rfl, hf, hs, h1, h2, l1, l2, an, q⟩ := h
    refine ⟨_, (pss_cons (ps_if (pt_val (pe_callB (r := rIsi K) call_isi (by rfl) B.n_isinstance boot_isinstance (pa_cons (pv 4) (pa_cons (pe_ref c_Twin.g) pa_nil)))) (pss_one (ps_ret (pe_df d__law_twins (hr.mono (by decide)) (by rfl) pass0 (pa_cons (pv 0) (pa_cons (pv 1) (pa_cons (pv 2) (pa_cons (pv 3) pa_nil))))))) pss_nil)
    (pss_cons (ps_par (i := 5) (j := 6) (by rfl) sc__law_due.nd rfl rfl (by decide) rfl rfl (pa_cons (pe_df d__law_counts (hr.mono (by decide)) (by rfl) pass0 (pa_cons (pv 2) (pa_cons (pv 3) pa_nil))) (pa_cons (pe_df d__law_counts (hr.mono (by decide)) (by rfl) pass0 (pa_cons (pe_df d__law_plain (hr.mono (by decide)) (by rfl) pass0 (pa_cons (pv 0) pa_nil)) (pa_cons (pe_df d__law_plain (hr.mono (by decide)) (by rfl) pass0 (pa_cons (pv 1) pa_nil)) pa_nil))) pa_nil)) (by rfl))
    (pss_one (ps_ret (pe_cmpR op_ne (pe_dget2 (hu_of hr) (pv 5) (pe_fld (pv 4) rfl) pe_int ⟨rfl, rfl, rfl, rfl⟩) (pe_dget2 (hu_of hr) (pv 6) (pe_fld (pv 4) rfl) pe_int ⟨rfl, rfl, rfl, rfl⟩) (nomark _)))))), ?_⟩
    have f1 := hf.1
    have f2 := hf.2
    have g1 := hs.1
    have g2 := hs.2
    walk_at "ini"
    cases t with
    | none =>
      obtain ⟨dx, hx⟩ := an
      refine rd_isi (.own _) (iT.ty hx) kTT ?_
      walk_at "rd"
      refine iteT ?_
      walk_at "rd"
      exact ⟨f, s, a, b, one, other, rfl, hf, hs, h1, h2, l1, l2, q⟩
    | some t =>
      obtain ⟨dx, hx⟩ := an
      refine rd_isi (.own _) (iO.ty hx) kOT ?_
      walk_at "rd"
      refine iteF ?_
      walk_at "rd"
      refine ⟨a, b, one, other, rfl, h1, h2, l1, l2, fun H1 d s1 nd hd => ?_⟩
      walk_at "rd"
      refine ⟨f, rfl, by omega, by omega, fun H2 p s2 np hp => ?_⟩
      walk_at "rd"
      refine ⟨s, rfl, by omega, by omega, fun H3 r s3 nr hr' => ?_⟩
      walk_at "rd"
      refine ⟨p, r, _, _, rfl, .of (s3 _ _ hp), .of hr', by rw [len_rgI]; omega, by rw [len_rgI]; omega, fun H4 d2 s4 nd2 hd2 => ?_⟩
      have s24 := s2.trans (s3.trans s4)
      have hd4 := s24 _ _ hd
      have hx4 := s24 _ _ (s1 _ _ hx)
      walk_at "rd"
      refine ⟨d, rfl, .inl ⟨_, .inl hd4⟩, ?_⟩
      walk_at "rd"
      refine ⟨x, CO, dx, _, .int t, rfl, hx4, iO.c, nt, look_one _ _, ?_⟩
      walk_at "rd"
      refine ⟨_, DGet.k (k := Sum.inl t) hd4, ?_⟩
      rw [getD_kvs]
      walk_at "rd"
      refine ⟨d2, rfl, .inl ⟨_, .inl hd2⟩, ?_⟩
      walk_at "rd"
      refine ⟨x, CO, dx, _, .int t, rfl, hx4, iO.c, nt, look_one _ _, ?_⟩
      walk_at "rd"
      refine ⟨_, DGet.k (k := Sum.inl t) hd2, ?_⟩
      rw [getD_kvs]
      refine ⟨rfl, ?_⟩
      rw [dec_int]
      exact q _ (s1.trans s24)
/-- dice that law 4 asks of -/
structure DAsk (H : Hp) (r : DRow) : Prop where
  at_ : r.At H
  l1 : r.one.length ≤ 100
  l2 : r.other.length ≤ 100
  p1 : Pos r.one
  p2 : Pos r.other
theorem DAsk.same {H H' : Hp} {r : DRow} (s : Same H H') (h : DAsk H r) : DAsk H' r := ⟨DRow.same s h.at_, h.l1, h.l2, h.p1, h.p2⟩
def spRight (K : PySem.W.Frag) : Sp := fun vs H Q _ => ∃ (f s : Int) (a b p : Addr) (one other : List Int) (rs : List DRow), vs = [.int f, .int s, .ref a, .ref b, .ref p] ∧ SidesOk f ∧ SidesOk s ∧ H a = some (.lst (one.map V.int)) ∧ H b = some (.lst (other.map V.int)) ∧ dieI one = true ∧ dieI other = true ∧
  H p = some (.lst (rs.map DRow.v)) ∧ (∀ r ∈ rs, DAsk H r) ∧ ∀ H', Same H H' → Q (.bl true) H'
theorem ok__law_right {f C CB CT CO CA : Addr} {fd : FuncData} (F : Fun K "_law_right" "_law_right" s__law_right f fd) (B : Bn mg) (c_Twin : Cl0 K mg "Twin" CT) (c_Off : ClG K mg "Off" CO) (c_Answer : ClG K mg "Answer" CA) (iT : InsT K CT) (iO : InsT K CO) (nt : NoAttr K CO "total")
    (kTT : PySem.W.kitOne K (.ref CT) (.ref CT) = some true) (kOT : PySem.W.kitOne K (.ref CO) (.ref CT) = some false) (kOO : PySem.W.kitOne K (.ref CO) (.ref CO) = some true) (kTO : PySem.W.kitOne K (.ref CT) (.ref CO) = some false) (kTA : PySem.W.kitOne K (.ref CT) (.ref CA) = some true) (kOA : PySem.W.kitOne K (.ref CO) (.ref CA) = some true)
    (d_judged : Df P w K mg base (L2.CX P w) 3 "judged" ["first", "second", "one", "other"] (spJudged K C CB CT CO)) (md_Twin_shows : Md P w K mg base CT "shows" 3 ["self", "first", "second", "one", "other"] (spTShows K)) (md_Off_shows : Md P w K mg base CO "shows" 2 ["self", "first", "second", "one", "other"] (spOShows K CO))
    (d__law_twins : Df P w K mg base CX0 2 "_law_twins" ["_law_first", "_law_second", "_law_one", "_law_other"] (spLTwins K)) (d__law_whole : Df P w K mg base CX0 1 "_law_whole" ["_law_found"] (spIsWhole K)) (d__law_says : Df P w K mg base CX0 1 "_law_says" ["_law_said", "_law_due_here"] spSays) (d__law_due : Df P w K mg base CX0 3 "_law_due" ["_law_first", "_law_second", "_law_one", "_law_other", "_law_found"] (spDue K CT CO)) :
    FnOk P w K mg base CX0 4 f fd ["_law_first", "_law_second", "_law_one", "_law_other", "_law_others"] (spRight K) := by
  refine F.ok sc__law_right (fun vs H Q E h => ?_) (fun cdv A outer s H vs Q E hr h => ?_)
  · obtain ⟨_, _, _, _, _, _, _, _, rfl, _⟩ := h
    rfl
  · obtain ⟨f, s, a, b, p, one, other, rs, rfl, hf, hs, h1, h2, d1, d2, hp, hrs, q⟩ := h
    refine ⟨_, (pss_cons (ps_set (i := 5) sc__law_right.nd rfl (Or.inl rfl) (pe_lst (pa_cons (pe_callTy (r := rListOf K) call_listQ (by rfl) B.n_list boot_list (pa_cons (pv 2) pa_nil)) (pa_cons (pe_callTy (r := rListOf K) call_listQ (by rfl) B.n_list boot_list (pa_cons (pv 3) pa_nil)) pa_nil))))
    (pss_cons (ps_set (i := 6) sc__law_right.nd rfl (Or.inl rfl) (pe_df d__law_twins (hr.mono (by decide)) (by rfl) pass0 (pa_cons (pv 0) (pa_cons (pv 1) (pa_cons (pv 2) (pa_cons (pv 3) pa_nil))))))
    (pss_cons (ps_for PassesOwn.never rfl (pi_range1 (by rfl) B.n_range (pa_cons pe_int pa_nil)) (pg_name (i := 7) sc__law_right.nd rfl (Or.inl rfl))
      (pss_cons (ps_set (i := 8) sc__law_right.nd rfl (Or.inl rfl) (pe_df d_judged (hr.mono (by decide)) (by rfl) passL (pa_cons (pv 0) (pa_cons (pv 1) (pa_cons (pe_ix (r := rIxL K) ix_list (pv 5) pe_int (fun _ _ => rfl)) (pa_cons (pe_ix (r := rIxL K) ix_list (pv 5) pe_int (fun _ _ => rfl)) pa_nil))))))
    (pss_cons (ps_set (i := 9) sc__law_right.nd rfl (Or.inl rfl) (pe_lst (pa_cons (pe_callB (r := rIsi K) call_isi (by rfl) B.n_isinstance boot_isinstance (pa_cons (pv 8) (pa_cons (pe_ref c_Twin.g) pa_nil))) (pa_cons (pe_callB (r := rIsi K) call_isi (by rfl) B.n_isinstance boot_isinstance (pa_cons (pv 8) (pa_cons (pe_ref c_Off.g) pa_nil))) pa_nil))))
    (pss_cons (ps_if (PW.pt (pw_or (pt_not (pt_val (pe_callB (r := rIsi K) call_isi (by rfl) B.n_isinstance boot_isinstance (pa_cons (pv 8) (pa_cons (pe_ref c_Answer.g) pa_nil))))) (pw_or (pt_cmpR (op_neD hr.units) (pv 9) (pe_lst (pa_cons (pv 6) (pa_cons (pe_not (pv 6)) pa_nil))) (nomark _)) (pw_or1 (pt_cmpR (op_neD hr.units) (pv 5) (pe_lst (pa_cons (pv 2) (pa_cons (pv 3) pa_nil))) (nomark _)))))) (pss_one (ps_ret pe_bl)) pss_nil)
    (pss_cons (ps_if (PW.pt (pw_or (PW.pt (pw_and (pt_not (pt_val (pv 6))) (pw_and1 (pt_not (pt_val (pe_df d__law_whole (hr.mono (by decide)) (by rfl) pass0 (pa_cons (pe_fld (pv 8) rfl) pa_nil))))))) (pw_or1 (pt_not (pt_val (pe_df d__law_due (hr.mono (by decide)) (by rfl) pass0 (pa_cons (pv 0) (pa_cons (pv 1) (pa_cons (pv 2) (pa_cons (pv 3) (pa_cons (pv 8) pa_nil))))))))))) (pss_one (ps_ret pe_bl)) pss_nil)
    (pss_cons (ps_if (pt_cmpR op_notBl (pe_alt (pe_md (pv 8) md_Twin_shows (hr.mono (by decide)) (pa_cons (pv 0) (pa_cons (pv 1) (pa_cons (pv 2) (pa_cons (pv 3) pa_nil))))) (pe_md (pv 8) md_Off_shows (hr.mono (by decide)) (pa_cons (pv 0) (pa_cons (pv 1) (pa_cons (pv 2) (pa_cons (pv 3) pa_nil)))))) pe_bl (nomark _)) (pss_one (ps_ret pe_bl)) pss_nil)
    (pss_one (ps_for PassesOwn.never rfl (pi_list (pv 4)) (pg_tup rfl (pgs_cons (pg_name (i := 10) sc__law_right.nd rfl (Or.inl rfl)) (pgs_cons (pg_name (i := 11) sc__law_right.nd rfl (Or.inl rfl)) pgs_nil)))
      (pss_one (ps_if (pt_not (pt_val (pe_df d__law_says (hr.mono (by decide)) (by rfl) pass0 (pa_cons (pe_alt (pe_md (pv 8) md_Twin_shows (hr.mono (by decide)) (pa_cons (pv 0) (pa_cons (pv 1) (pa_cons (pv 10) (pa_cons (pv 11) pa_nil))))) (pe_md (pv 8) md_Off_shows (hr.mono (by decide)) (pa_cons (pv 0) (pa_cons (pv 1) (pa_cons (pv 10) (pa_cons (pv 11) pa_nil)))))) (pa_cons (pe_df d__law_due (hr.mono (by decide)) (by rfl) pass0 (pa_cons (pv 0) (pa_cons (pv 1) (pa_cons (pv 10) (pa_cons (pv 11) (pa_cons (pv 8) pa_nil)))))) pa_nil))))) (pss_one (ps_ret pe_bl)) pss_nil))))))))))
    (pss_one (ps_ret pe_bl))))), ?_⟩
    have b1 := dieI_len d1
    have b2 := dieI_len d2
    walk_at "ini"
    refine ⟨a, _, rfl, .inl (.of h1), fun u1 n1 => ?_⟩
    have s1 := same_new (o := .lst (one.map V.int)) n1
    have k1 := upd_same (H := H) (a := u1) (o := .lst (one.map V.int))
    revert s1 k1
    generalize upd H u1 (.lst (one.map V.int)) = H1
    intro s1 k1
    walk_at "rd"
    refine ⟨b, _, rfl, .inl (.of (s1 _ _ h2)), fun u2 n2 => ?_⟩
    have s2 := same_new (o := .lst (other.map V.int)) n2
    have k2 := upd_same (H := H1) (a := u2) (o := .lst (other.map V.int))
    revert s2 k2
    generalize upd H1 u2 (.lst (other.map V.int)) = H2
    intro s2 k2
    walk_at "rd"
    refine ⟨by show 2 ≤ sizeLine; rw [sizeLine_eq]; decide, fun hd nhd => ?_⟩
    have s3 := same_new (o := .lst [V.ref u1, V.ref u2]) nhd
    have k3 := upd_same (H := H2) (a := hd) (o := .lst [V.ref u1, V.ref u2])
    revert s3 k3
    generalize upd H2 hd (.lst [V.ref u1, V.ref u2]) = H3
    intro s3 k3
    have s03 := s1.trans (s2.trans s3)
    replace k1 := s3 _ _ (s2 _ _ k1)
    replace k2 := s3 _ _ k2
    walk_at "rd"
    refine ⟨f, s, a, b, one, other, rfl, hf, hs, .of (s03 _ _ h1), .of (s03 _ _ h2), by omega, by omega, fun H4 s4 => ?_⟩
    rw [twin_eq hf hs (pos_die d1) (pos_die d2)]
    replace k1 := s4 _ _ k1
    replace k2 := s4 _ _ k2
    replace k3 := s4 _ _ k3
    have s04 := s03.trans s4
    walk_at "rd"
    refine ⟨2, rfl, by decide, by decide, ?_⟩
    have sH : SeqAt.shaped (.list [dI one, dI other]) = true := shaped_of (n := 2) (sh_list (n := 1) fun d hd => by
      simp only [List.mem_cons, List.not_mem_nil, or_false] at hd
      rcases hd with rfl | rfl
      · exact sh_ints _
      · exact sh_ints _)
    have sB : ∀ x y : Bool, SeqAt.shaped (.list [.bool x, .bool y]) = true := fun x y => shaped_of (n := 1) (sh_list (n := 0) fun d hd => by
      simp only [List.mem_cons, List.not_mem_nil, or_false] at hd
      rcases hd with rfl | rfl <;> exact sh_bool)
    have eH : PyData.eqv (.list [dI one, dI other]) (.list [dI one, dI other]) = true := by
      simp [PyData.eqv, PyData.eqvAll, eqv_dI]
    have pp1 := pos_die d1
    have pp2 := pos_die d2
    generalize hG : decide (foM f s one other = 0) = G
    refine for_range (lo := 0) (n := 2) (fun i σ H5 => ∃ y7 y8 y9 y10 y11, σ = [some (.int f), some (.int s), some (.ref a), some (.ref b), some (.ref p), some (.ref hd), some (.bl G), y7, y8, y9, y10, y11] ∧ Same H4 H5)
      ⟨none, none, none, none, none, rfl, Same.refl _⟩ (fun i σ H5 hi ⟨y7, y8, y9, y10, y11, eσ, s5⟩ => ?_) (fun σ H5 ⟨y7, y8, y9, y10, y11, eσ, s5⟩ => ?_)
    · subst eσ
      walk_at "rd"
      refine rd_ixL (.of (s5 _ _ k3)) (v := .ref u1) rfl ?_
      walk_at "rd"
      refine rd_ixL (.of (s5 _ _ k3)) (v := .ref u2) rfl ?_
      walk_at "rd"
      refine ⟨.int f, .int s, .ref u1, .ref u2, rfl, kn_int, (fun z => by rw [side_of hf] at z; cases z), fun _ => ⟨kn_int, (fun z => by rw [side_of hs] at z; cases z), fun _ => .inr ⟨u1, one, ⟨rfl, .of (s5 _ _ k1), d1⟩, .inr ⟨u2, other, ⟨rfl, .of (s5 _ _ k2), d2⟩, f, s, rfl, rfl, fun z H6 x dx s6 nx hx => ?_, fun z H6 x dx s6 nx hx => ?_⟩⟩⟩⟩
      · have eG : G = true := by
          rw [← hG]
          exact decide_eq_true z
        subst eG
        have s46 := s5.trans s6
        have s06 := s04.trans s46
        walk_at "rd"
        refine rd_isi (.own _) (iT.ty hx) kTT ?_
        walk_at "rd"
        refine rd_isi (.own _) (iT.ty hx) kTO ?_
        walk_at "rd"
        refine ⟨by show 2 ≤ sizeLine; rw [sizeLine_eq]; decide, fun kd nkd => ?_⟩
        have s7 := same_new (o := .lst [V.bl true, V.bl false]) nkd
        have hkd := upd_same (H := H6) (a := kd) (o := .lst [V.bl true, V.bl false])
        replace hx := s7 _ _ hx
        revert s7 hkd hx
        generalize upd H6 kd (.lst [V.bl true, V.bl false]) = H7
        intro s7 hkd hx
        have s47 := s46.trans s7
        have s07 := s04.trans s47
        walk_at "rd"
        refine rd_isi (.own _) (iT.ty hx) kTA ?_
        walk_at "rd"
        refine iteF ?_
        walk_at "rd"
        refine ⟨by show 2 ≤ sizeLine; rw [sizeLine_eq]; decide, fun l1 nl1 => ?_⟩
        refine rd_neD (.lst (.of (keep_new nl1 hkd)) (.cons (.bl _) (.cons (.bl _) .nil))) (.lst (.of upd_same) (.cons (.bl _) (.cons (.bl _) .nil))) (sB _ _) (sB _ _) ?_
        rw [show PyData.eqv (.list [.bool true, .bool false]) (.list [.bool true, .bool !true]) = true by decide +kernel]
        have s8 := same_new (o := .lst [V.bl true, V.bl !true]) nl1
        replace hx := s8 _ _ hx
        revert s8 hx
        generalize upd H7 l1 (.lst [V.bl true, V.bl !true]) = H8
        intro s8 hx
        have s48 := s47.trans s8
        have s08 := s04.trans s48
        walk_at "rd"
        refine iteF ?_
        walk_at "rd"
        refine ⟨by show 2 ≤ sizeLine; rw [sizeLine_eq]; decide, fun l2 nl2 => ?_⟩
        have s9 := same_new (o := .lst [V.ref a, V.ref b]) nl2
        have s09 := s08.trans s9
        refine rd_neD (.lst (.of (s9 _ _ (s48 _ _ k3))) (.cons (dp_ints (.of (s9 _ _ (s48 _ _ k1)))) (.cons (dp_ints (.of (s9 _ _ (s48 _ _ k2)))) .nil))) (.lst (.of upd_same) (.cons (dp_ints (.of (s09 _ _ h1))) (.cons (dp_ints (.of (s09 _ _ h2))) .nil))) sH sH ?_
        rw [eH]
        have s49 := s48.trans s9
        replace hx := s9 _ _ hx
        revert s09 s49 hx
        generalize upd H8 l2 (.lst [V.ref a, V.ref b]) = H9
        intro s09 s49 hx
        walk_at "rd"
        refine iteF ?_
        walk_at "rd"
        refine iteF (iteF ?_)
        walk_at "rd"
        refine ⟨f, s, a, b, x, one, other, none, rfl, hf, hs, .of (s09 _ _ h1), .of (s09 _ _ h2), by omega, by omega, ⟨dx, hx⟩, fun H10 s10 => ?_⟩
        rw [show dueM f s none one other = true from (twin_eq hf hs pp1 pp2).trans (decide_eq_true z)]
        replace hx := s10 _ _ hx
        have s010 := s09.trans s10
        have s410 := s49.trans s10
        walk_at "rd"
        refine iteF ?_
        walk_at "rd"
        refine .inl ?_
        walk_at "rd"
        refine ⟨x, dx, _, rfl, hx, rfl, ?_⟩
        walk_at "rd"
        refine ⟨.ref x, f, s, a, b, one, other, rfl, hf, hs, .of (s010 _ _ h1), .of (s010 _ _ h2), by omega, by omega, fun H11 s11 => ?_⟩
        rw [decide_eq_true z]
        replace hx := s11 _ _ hx
        have s011 := s010.trans s11
        have s411 := s410.trans s11
        walk_at "rd"
        refine ⟨true, true, rfl, rfl, false, rfl, ?_⟩
        walk_at "rd"
        refine iteF ?_
        walk_at "rd"
        refine ⟨p, rfl, ⟨_, .of (s011 _ _ hp)⟩, ?_⟩
        refine for_listP DRow.v rs (fun dn σ H12 => ∃ y10 y11, σ = [some (.int f), some (.int s), some (.ref a), some (.ref b), some (.ref p), some (.ref hd), some (.bl true), some (.int (0 + (i : Nat))), some (.ref x), some (.ref kd), y10, y11] ∧ Same H11 H12)
          ⟨y10, y11, rfl, Same.refl _⟩ (fun dn σ H12 ⟨_, _, _, s12⟩ => .of (s12 _ _ (s011 _ _ hp))) (fun dn r rest σ H12 e ⟨y10, y11, eσ, s12⟩ => ?_) (fun σ H12 ⟨y10, y11, eσ, s12⟩ => ?_)
        · subst eσ
          have s012 := s011.trans s12
          obtain ⟨⟨r1, r2, r3⟩, lr1, lr2, pr1, pr2⟩ := DAsk.same s012 (hrs r (by rw [e]; simp))
          have hx12 := s12 _ _ hx
          refine rd_gtup (.of r1) rfl ?_
          walk_at "rd"
          refine .inl ?_
          walk_at "rd"
          refine ⟨x, dx, _, rfl, hx12, rfl, ?_⟩
          walk_at "rd"
          refine ⟨.ref x, f, s, r.a, r.b, r.one, r.other, rfl, hf, hs, .of r2, .of r3, lr1, lr2, fun H13 s13 => ?_⟩
          walk_at "rd"
          refine ⟨f, s, r.a, r.b, x, r.one, r.other, none, rfl, hf, hs, .of (s13 _ _ r2), .of (s13 _ _ r3), lr1, lr2, ⟨dx, s13 _ _ hx12⟩, fun H14 s14 => ?_⟩
          walk_at "rd"
          refine ⟨_, _, rfl, ?_⟩
          rw [show dueM f s none r.one r.other = _ from twin_eq hf hs pr1 pr2, decide_eq_true rfl]
          walk_at "rd"
          refine iteF ?_
          exact ⟨_, _, rfl, s12.trans (s13.trans s14)⟩
        · subst eσ
          exact ⟨_, _, _, _, _, rfl, s411.trans s12⟩
      · have eG : G = false := by
          rw [← hG]
          exact decide_eq_false z
        subst eG
        have s46 := s5.trans s6
        have s06 := s04.trans s46
        walk_at "rd"
        refine rd_isi (.own _) (iO.ty hx) kOT ?_
        walk_at "rd"
        refine rd_isi (.own _) (iO.ty hx) kOO ?_
        walk_at "rd"
        refine ⟨by show 2 ≤ sizeLine; rw [sizeLine_eq]; decide, fun kd nkd => ?_⟩
        have s7 := same_new (o := .lst [V.bl false, V.bl true]) nkd
        have hkd := upd_same (H := H6) (a := kd) (o := .lst [V.bl false, V.bl true])
        replace hx := s7 _ _ hx
        revert s7 hkd hx
        generalize upd H6 kd (.lst [V.bl false, V.bl true]) = H7
        intro s7 hkd hx
        have s47 := s46.trans s7
        have s07 := s04.trans s47
        walk_at "rd"
        refine rd_isi (.own _) (iO.ty hx) kOA ?_
        walk_at "rd"
        refine iteF ?_
        walk_at "rd"
        refine ⟨by show 2 ≤ sizeLine; rw [sizeLine_eq]; decide, fun l1 nl1 => ?_⟩
        refine rd_neD (.lst (.of (keep_new nl1 hkd)) (.cons (.bl _) (.cons (.bl _) .nil))) (.lst (.of upd_same) (.cons (.bl _) (.cons (.bl _) .nil))) (sB _ _) (sB _ _) ?_
        rw [show PyData.eqv (.list [.bool false, .bool true]) (.list [.bool false, .bool !false]) = true by decide +kernel]
        have s8 := same_new (o := .lst [V.bl false, V.bl !false]) nl1
        replace hx := s8 _ _ hx
        revert s8 hx
        generalize upd H7 l1 (.lst [V.bl false, V.bl !false]) = H8
        intro s8 hx
        have s48 := s47.trans s8
        have s08 := s04.trans s48
        walk_at "rd"
        refine iteF ?_
        walk_at "rd"
        refine ⟨by show 2 ≤ sizeLine; rw [sizeLine_eq]; decide, fun l2 nl2 => ?_⟩
        have s9 := same_new (o := .lst [V.ref a, V.ref b]) nl2
        have s09 := s08.trans s9
        refine rd_neD (.lst (.of (s9 _ _ (s48 _ _ k3))) (.cons (dp_ints (.of (s9 _ _ (s48 _ _ k1)))) (.cons (dp_ints (.of (s9 _ _ (s48 _ _ k2)))) .nil))) (.lst (.of upd_same) (.cons (dp_ints (.of (s09 _ _ h1))) (.cons (dp_ints (.of (s09 _ _ h2))) .nil))) sH sH ?_
        rw [eH]
        have s49 := s48.trans s9
        replace hx := s9 _ _ hx
        revert s09 s49 hx
        generalize upd H8 l2 (.lst [V.ref a, V.ref b]) = H9
        intro s09 s49 hx
        walk_at "rd"
        refine iteF ?_
        walk_at "rd"
        refine iteT ?_
        walk_at "rd"
        refine ⟨x, CO, dx, _, _, rfl, hx, iO.c, nt, look_one _ _, ?_⟩
        walk_at "rd"
        refine ⟨_, rfl, kn_int, ?_⟩
        walk_at "rd"
        refine iteF ?_
        walk_at "rd"
        refine ⟨f, s, a, b, x, one, other, (some (foM f s one other)), rfl, hf, hs, .of (s09 _ _ h1), .of (s09 _ _ h2), by omega, by omega, ⟨dx, hx⟩, fun H10 s10 => ?_⟩
        rw [show dueM f s (some (foM f s one other)) one other = true from (off_eq hf hs _ one other).symm.trans (fo_off z)]
        replace hx := s10 _ _ hx
        have s010 := s09.trans s10
        have s410 := s49.trans s10
        walk_at "rd"
        refine iteF ?_
        walk_at "rd"
        refine .inr ?_
        walk_at "rd"
        refine ⟨x, dx, _, rfl, hx, look_shows _, ?_⟩
        walk_at "rd"
        refine ⟨x, dx, _, f, s, a, b, one, other, rfl, hx, .of (s010 _ _ h1), .of (s010 _ _ h2), by omega, by omega, fun H11 s11 => ?_⟩
        rw [fo_off z]
        replace hx := s11 _ _ hx
        have s011 := s010.trans s11
        have s411 := s410.trans s11
        walk_at "rd"
        refine ⟨true, true, rfl, rfl, false, rfl, ?_⟩
        walk_at "rd"
        refine iteF ?_
        walk_at "rd"
        refine ⟨p, rfl, ⟨_, .of (s011 _ _ hp)⟩, ?_⟩
        refine for_listP DRow.v rs (fun dn σ H12 => ∃ y10 y11, σ = [some (.int f), some (.int s), some (.ref a), some (.ref b), some (.ref p), some (.ref hd), some (.bl false), some (.int (0 + (i : Nat))), some (.ref x), some (.ref kd), y10, y11] ∧ Same H11 H12)
          ⟨y10, y11, rfl, Same.refl _⟩ (fun dn σ H12 ⟨_, _, _, s12⟩ => .of (s12 _ _ (s011 _ _ hp))) (fun dn r rest σ H12 e ⟨y10, y11, eσ, s12⟩ => ?_) (fun σ H12 ⟨y10, y11, eσ, s12⟩ => ?_)
        · subst eσ
          have s012 := s011.trans s12
          obtain ⟨⟨r1, r2, r3⟩, lr1, lr2, pr1, pr2⟩ := DAsk.same s012 (hrs r (by rw [e]; simp))
          have hx12 := s12 _ _ hx
          refine rd_gtup (.of r1) rfl ?_
          walk_at "rd"
          refine .inr ?_
          walk_at "rd"
          refine ⟨x, dx, _, rfl, hx12, look_shows _, ?_⟩
          walk_at "rd"
          refine ⟨x, dx, _, f, s, r.a, r.b, r.one, r.other, rfl, hx12, .of r2, .of r3, lr1, lr2, fun H13 s13 => ?_⟩
          walk_at "rd"
          refine ⟨f, s, r.a, r.b, x, r.one, r.other, (some (foM f s one other)), rfl, hf, hs, .of (s13 _ _ r2), .of (s13 _ _ r3), lr1, lr2, ⟨dx, s13 _ _ hx12⟩, fun H14 s14 => ?_⟩
          walk_at "rd"
          refine ⟨_, _, rfl, ?_⟩
          rw [show dueM f s (some (foM f s one other)) r.one r.other = _ from (off_eq hf hs _ r.one r.other).symm, decide_eq_true rfl]
          walk_at "rd"
          refine iteF ?_
          exact ⟨_, _, rfl, s12.trans (s13.trans s14)⟩
        · subst eσ
          exact ⟨_, _, _, _, _, rfl, s411.trans s12⟩
    · subst eσ
      walk_at "rd"
      exact q _ (s04.trans s5)
end

end Tw
set_option Elab.async false
set_option linter.all false
set_option maxRecDepth 100000
set_option maxHeartbeats 4000000
namespace Tw
open PySem PySem.Spec PyProof.Rows L2
local macro_rules | `(tactic| walk_at "rd0") => `(tactic| first
  | with_reducible refine Tw.rd_seq ?_
  | with_reducible refine Tw.rd_asg ?_
  | with_reducible refine Tw.rd_drop ?_
  | with_reducible refine Tw.rd_ret ?_
  | with_reducible refine Tw.rd_retN ?_
  | with_reducible refine Tw.rd_next ?_
  | ((with_reducible refine Tw.rd_var (v := ?vv) ?hv ?_); (case hv => exact rfl))
  | with_reducible refine Tw.rd_c ?_
  | with_reducible refine Tw.rd_op ?_
  | with_reducible refine Tw.rd_un ?_
  | with_reducible refine Tw.rd_I0 ?_
  | with_reducible refine Tw.rd_U ?_
  | with_reducible refine Tw.rd_test ?_
  | with_reducible refine Tw.rd_tB ?_
  | with_reducible refine Tw.rd_bl ?_
  | with_reducible refine Tw.rd_not ?_
  | with_reducible refine Tw.rd_and ?_
  | with_reducible refine Tw.rd_or ?_
  | with_reducible refine Tw.rd_andV ?_
  | with_reducible refine Tw.rd_orV ?_
  | with_reducible refine Tw.rd_notV ?_
  | with_reducible refine Tw.rd_tIf ?_
  | with_reducible refine Tw.rd_cb ?_
  | with_reducible refine Tw.rd_cons ?_
  | with_reducible refine Tw.rd_nil ?_
  | with_reducible refine Tw.rd_call ?_
  | with_reducible refine Tw.rd_tup ?_
  | with_reducible refine Tw.rd_lst ?_
  | with_reducible refine Tw.rd_gname ?_
  | with_reducible refine Tw.rd_chain ?_
  | with_reducible refine Tw.rd_lc ?_
  | with_reducible refine Tw.rd_il ?_
  | with_reducible refine Tw.rd_it ?_
  | with_reducible refine Tw.rd_ie ?_
  | with_reducible refine Tw.rd_ir ?_
  | with_reducible refine Tw.rd_ir2 ?_
  | with_reducible refine Tw.rd_ir3 ?_
  | with_reducible refine Tw.rd_dput ?_
  | with_reducible refine Tw.rd_dget2 ?_
  | with_reducible refine Tw.rd_items ?_
  | with_reducible refine Tw.rd_sl ?_
  | with_reducible refine Tw.rd_nopart ?_
  | with_reducible refine Tw.rd_part ?_
  | with_reducible refine Tw.rd_int ?_
  | with_reducible refine Tw.rd_revL ?_
  | with_reducible refine Tw.rd_bm ?_
  | with_reducible refine Tw.rd_bm0 ?_
  | with_reducible refine Tw.rd_lrg ?_
  | with_reducible refine Tw.rd_rg2 ?_
  | with_reducible refine Tw.rd_rg1 ?_
  | with_reducible refine Tw.rd_int2 ?_
  | with_reducible refine Tw.rd_augS ?_
  | with_reducible refine Tw.rd_ipI ?_
  | with_reducible refine Tw.rd_gsub ?_
  | with_reducible refine Tw.rd_gcons ?_
  | with_reducible refine Tw.rd_gnil ?_
  | with_reducible refine Tw.rd_par ?_
  | with_reducible refine Tw.rd_par2 ?_
  | with_reducible refine Tw.rd_mk ?_
  | with_reducible refine Tw.rd_md ?_
  | with_reducible refine Tw.rd_fld ?_
  | with_reducible refine Tw.rd_sfld ?_)
local macro_rules | `(tactic| walk_at "rd1") => `(tactic| first
  | walk_at "rd0"
  | with_reducible refine Tw.rd_if ?_
  | with_reducible refine Tw.rd_for ?_)
local macro_rules | `(tactic| walk_at "rs") => `(tactic| repeat walk_at "rd0")
local macro_rules | `(tactic| walk_at "rd") => `(tactic| repeat walk_at "rd1")
local macro_rules | `(tactic| walk_at "ini") => `(tactic| (dsimp only [L2.cxOf, L2.start, L2.Cx.wish, L2.Cx.nox, List.map, List.length_cons, List.length_nil, Nat.reduceAdd, Nat.reduceSub, List.replicate, List.cons_append, List.nil_append]; walk_at "rd"))
local macro_rules | `(tactic| walk_at "num") => `(tactic| first
  | exact (show (0 : Int) < _ from by decide)
  | exact (show (0 : Int) < _ ∧ _ < (1073741824 : Int) from by decide)
  | exact (show (0 : Int) ≤ _ ∧ _ ≤ (1000000 : Int) ∧ _ < 2 ^ 64 from by decide))
local macro_rules | `(tactic| walk_at "rn") => `(tactic| repeat (first | walk_at "rd1" | ((with_reducible refine Tw.rd_I ?c ?_); (case c => walk_at "num"))))
/-! ### the law -/
theorem sc_law : FnScope ["_law_script", "_law_whole_here", "_law_by", "_law_first", "_law_second", "_law_every", "_law_one", "_law_other", "_law_changed", "_law_drawn", "_law_others", "_law_mine", "_law_theirs", "_law_found"] ["_law_script"] (defScope s_law) := ⟨rfl, rfl, rfl, by decide +kernel, rfl, by decide +kernel, by decide +kernel⟩
theorem tab6 : ((rgI 2 7).all fun f => (rgI 2 7).all fun s => (dealtM f s).all fitR && decide (0 < (twM f s).length) && (twM f s).all fun p => dieI p.1 && dieI p.2) = true := by decide +kernel
theorem fact6 {f s : Int} (f1 : 2 ≤ f) (f2 : f ≤ 6) (g1 : 2 ≤ s) (g2 : s ≤ 6) : (dealtM f s).all fitR = true ∧ 0 < (twM f s).length ∧ ∀ p ∈ twM f s, dieI p.1 = true ∧ dieI p.2 = true := by
  have h := List.all_eq_true.mp (List.all_eq_true.mp tab6 f (mem_rgI.mpr (by omega))) s (mem_rgI.mpr (by omega))
  simp only [Bool.and_eq_true, decide_eq_true_eq] at h
  exact ⟨h.1.1, h.1.2, fun p hp => by
    have := List.all_eq_true.mp h.2 p hp
    simpa using this⟩
theorem plain_die {f : Int} (hf : SidesOk f) : dieI (rgI 1 (f + 1)) = true := by
  obtain ⟨f1, f2⟩ := hf
  have h : (rgI 2 13).all (fun f => dieI (rgI 1 (f + 1))) = true := by decide +kernel
  exact List.all_eq_true.mp h f (mem_rgI.mpr (by omega))
theorem cut_1 (xs : List V) : cutV xs (some 1) none = xs.drop 1 := by
  unfold cutV
  rw [show HT.sIx xs.length 0 (some 1) = min 1 xs.length from HT.sIx_nat _ _ 1, HT.sIx_none]
  cases xs with
  | nil => rfl
  | cons x r =>
    rw [show min 1 (x :: r).length = 1 from Nat.min_eq_left (by simp)]
    show List.take (r.length + 1 - 1) r = r
    exact List.take_length
theorem changed_die {one L : List Int} {x : Int} (h : dieI one = true) (hx : 1 ≤ x ∧ x ≤ 100) (p : L.Perm (one.drop 1 ++ [x])) (s : L.Pairwise (· ≤ ·)) : dieI L = true := by
  have hl := dieI_len h
  have ll : L.length = one.length := by
    rw [p.length_eq, List.length_append, List.length_drop]
    show one.length - 1 + 1 = _
    omega
  unfold dieI at h ⊢
  simp only [Bool.and_eq_true, decide_eq_true_eq, List.all_eq_true] at h ⊢
  refine ⟨by omega, by omega, fun y hy => ?_, s⟩
  rcases List.mem_append.mp (p.mem_iff.mp hy) with hy | hy
  · exact h.2.2.1 y (List.mem_of_mem_drop hy)
  · rw [List.mem_singleton] at hy
    subst hy
    exact hx
section
variable {P : Program} {w : World} {K : PySem.W.Frag} {mg : Str → Option Value} {base : Heap}
structure DDie (H : Hp) (r : DRow) : Prop where
  at_ : r.At H
  d1 : dieI r.one = true
  d2 : dieI r.other = true
theorem DDie.same {H H' : Hp} {r : DRow} (s : Same H H') (h : DDie H r) : DDie H' r := ⟨DRow.same s h.at_, h.d1, h.d2⟩
theorem DDie.ask {H : Hp} {r : DRow} (h : DDie H r) : DAsk H r := ⟨h.at_, by have := dieI_len h.d1; omega, by have := dieI_len h.d2; omega, pos_die h.d1, pos_die h.d2⟩
def spLaw (K : PySem.W.Frag) : Sp := fun vs H Q _ => ∃ (a : Addr) (ns : List Int), vs = [.ref a] ∧ SqL K H a (ns.map V.int) ∧ ns.length ≤ 63 ∧ (∀ z ∈ ns, Bd 1048576 z) ∧ ∀ H', Q (.bl true) H'
theorem ok_law {f C CB CT CO : Addr} {fd : FuncData} (F : Fun K "law" "law" s_law f fd) (B : Bn mg) (c_Twin : Cl0 K mg "Twin" CT) (c_Off : ClG K mg "Off" CO) (iT : InsT K CT) (iO : InsT K CO) (kTT : PySem.W.kitOne K (.ref CT) (.ref CT) = some true) (kOO : PySem.W.kitOne K (.ref CO) (.ref CO) = some true)
    (d_twins : Df P w K mg base (L2.CX P w) 18 "twins" ["first", "second"] (spTwins K C)) (d_judged : Df P w K mg base (L2.CX P w) 3 "judged" ["first", "second", "one", "other"] (spJudged K C CB CT CO)) (d__law_die : Df P w K mg base CX0 2 "_law_die" ["_law_script", "_law_by", "_law_most"] (spLDie K)) (d__law_two_sides : Df P w K mg base CX0 2 "_law_two_sides" ["_law_script", "_law_by", "_law_most"] (spTwo K))
    (d__law_plain : Df P w K mg base CX0 1 "_law_plain" ["_law_sides"] spPlain) (d__law_right : Df P w K mg base CX0 4 "_law_right" ["_law_first", "_law_second", "_law_one", "_law_other", "_law_others"] (spRight K)) : FnOk P w K mg base CX0 19 f fd ["_law_script"] (spLaw K) := by
  refine F.ok sc_law (fun vs H Q E h => ?_) (fun cdv A outer s H vs Q E hr h => ?_)
  · obtain ⟨a, ns, rfl, _⟩ := h
    rfl
  · obtain ⟨a, ns, rfl, hS, hl, hb, q⟩ := h
    refine ⟨_, (pss_cons (ps_set (i := 1) sc_law.nd rfl (Or.inl rfl) (pe_callB (r := rSum K) (cr_sum rfl) (by rfl) B.n_sum boot_sum (pa_cons (pe_slice (r := rSlL K) sl_list (pv 0) po_none (po_some pe_int)) pa_nil)))
    (pss_cons (ps_for PassesOwn.never rfl (pi_range1 (by rfl) B.n_range (pa_cons pe_int pa_nil)) (pg_name (i := 2) sc_law.nd rfl (Or.inl rfl))
      (pss_cons (ps_asg (pe_df d__law_two_sides (hr.mono (by decide)) (by rfl) pass0 (pa_cons (pv 0) (pa_cons (pv 2) (pa_cons pe_int pa_nil)))) (pg_tup rfl (pgs_cons (pg_name (i := 3) sc_law.nd rfl (Or.inl rfl)) (pgs_cons (pg_name (i := 4) sc_law.nd rfl (Or.inl rfl)) pgs_nil))))
    (pss_cons (ps_set (i := 5) sc_law.nd rfl (Or.inl rfl) (pe_df d_twins (hr.mono (by decide)) (by rfl) passL (pa_cons (pv 3) (pa_cons (pv 4) pa_nil))))
    (pss_cons (ps_asg (pe_ix (r := rIxL K) ix_list (pv 5) (pe_op op_mod (pv 1) (pe_callB (r := rLen K) call_lenQ (by rfl) B.n_len boot_len (pa_cons (pv 5) pa_nil))) (fun _ _ => rfl)) (pg_tup rfl (pgs_cons (pg_name (i := 6) sc_law.nd rfl (Or.inl rfl)) (pgs_cons (pg_name (i := 7) sc_law.nd rfl (Or.inl rfl)) pgs_nil))))
    (pss_cons (ps_set (i := 8) sc_law.nd rfl (Or.inl rfl) (pe_callB (r := rSortedI K) cr_sortedI (by rfl) B.n_sorted boot_sorted (pa_cons (pe_op op_cat (pe_slice (r := rSlL K) sl_list (pv 6) (po_some pe_int) po_none) (pe_lst (pa_cons (pe_op op_add pe_int (pe_op op_mod (pe_op op_add (pe_ix (r := rIxL K) ix_list (pv 6) pe_int (fun _ _ => rfl)) (pv 1)) pe_int)) pa_nil))) pa_nil)))
    (pss_cons (ps_set (i := 9) sc_law.nd rfl (Or.inl rfl) (pe_tup (pa_cons (pe_df d__law_die (hr.mono (by decide)) (by rfl) pass0 (pa_cons (pv 0) (pa_cons (pv 2) (pa_cons pe_int pa_nil)))) (pa_cons (pe_df d__law_die (hr.mono (by decide)) (by rfl) pass0 (pa_cons (pv 0) (pa_cons (pe_op op_add (pv 2) pe_int) (pa_cons pe_int pa_nil)))) pa_nil))))
    (pss_cons (ps_set (i := 10) sc_law.nd rfl (Or.inl rfl) (pe_lst (pa_cons (pe_tup (pa_cons (pv 6) (pa_cons (pv 7) pa_nil))) (pa_cons (pe_tup (pa_cons (pv 7) (pa_cons (pv 8) pa_nil))) (pa_cons (pv 9) pa_nil)))))
    (pss_one (ps_for PassesOwn.never rfl (pi_list (pe_op op_cat (pv 10) (pe_lst (pa_cons (pe_tup (pa_cons (pv 7) (pa_cons (pv 6) pa_nil))) (pa_cons (pe_tup (pa_cons (pe_df d__law_plain (hr.mono (by decide)) (by rfl) pass0 (pa_cons (pv 3) pa_nil)) (pa_cons (pe_df d__law_plain (hr.mono (by decide)) (by rfl) pass0 (pa_cons (pv 4) pa_nil)) pa_nil))) pa_nil))))) (pg_tup rfl (pgs_cons (pg_name (i := 11) sc_law.nd rfl (Or.inl rfl)) (pgs_cons (pg_name (i := 12) sc_law.nd rfl (Or.inl rfl)) pgs_nil)))
      (pss_one (ps_if (pt_not (pt_val (pe_df d__law_right (hr.mono (by decide)) (by rfl) pass0 (pa_cons (pv 3) (pa_cons (pv 4) (pa_cons (pv 11) (pa_cons (pv 12) (pa_cons (pv 10) pa_nil)))))))) (pss_one (ps_ret pe_bl)) pss_nil)))))))))))
    (pss_cons (ps_set (i := 13) sc_law.nd rfl (Or.inl rfl) (pe_df d_judged (hr.mono (by decide)) (by rfl) passL (pa_cons pe_int (pa_cons pe_int (pa_cons (pe_lst (pa_cons pe_int (pa_cons pe_int pa_nil))) (pa_cons (pe_lst (pa_cons pe_int (pa_cons pe_int pa_nil))) pa_nil))))))
    (pss_one (ps_ret (pe_and (pe_callB (r := rIsi K) call_isi (by rfl) B.n_isinstance boot_isinstance (pa_cons (pv 13) (pa_cons (pe_ref c_Off.g) pa_nil))) (pe_one (pe_callB (r := rIsi K) call_isi (by rfl) B.n_isinstance boot_isinstance (pa_cons (pe_df d_judged (hr.mono (by decide)) (by rfl) passL (pa_cons pe_int (pa_cons pe_int (pa_cons (pe_lst (pa_cons pe_int (pa_cons pe_int (pa_cons pe_int (pa_cons pe_int pa_nil))))) (pa_cons (pe_lst (pa_cons pe_int (pa_cons pe_int pa_nil))) pa_nil))))) (pa_cons (pe_ref c_Twin.g) pa_nil)))))))))), ?_⟩
    walk_at "ini"
    refine rd_slL hS (fun p np => ?_)
    walk_at "rd"
    refine rd_sum (ns := ns.take 63) (.of (by rw [upd_same, cut_63, List.map_take])) ?_
    walk_at "rd"
    refine ⟨2, rfl, by decide, by decide, ?_⟩
    have s0 : Same H (upd H p (.lst (cutV (ns.map V.int) none (some 63)))) := same_new np
    generalize hW : (ns.take 63).sum = W
    refine for_range (lo := 0) (n := 2) (fun i σ H1 => ∃ y2 y3 y4 y5 y6 y7 y8 y9 y10 y11 y12 y13, σ = [some (.ref a), some (.int W), y2, y3, y4, y5, y6, y7, y8, y9, y10, y11, y12, y13] ∧ Same H H1)
      ⟨none, none, none, none, none, none, none, none, none, none, none, none, rfl, s0⟩ (fun i σ H1 hi ⟨y2, y3, y4, y5, y6, y7, y8, y9, y10, y11, y12, y13, eσ, s1⟩ => ?_) (fun σ H1 ⟨y2, y3, y4, y5, y6, y7, y8, y9, y10, y11, y12, y13, eσ, s1⟩ => ?_)
    · subst eσ
      walk_at "rd"
      refine ⟨a, ns, 0 + (i : Int), 6, rfl, same_l s1 hS, hl, hb, by omega, by omega, by decide, by decide, fun H2 t f s s2 ht f1 f2 g1 g2 => ?_⟩
      have hf : SidesOk f := ⟨f1, by omega⟩
      have hs : SidesOk s := ⟨g1, by omega⟩
      obtain ⟨fit, pos, dice⟩ := fact6 f1 f2 g1 g2
      refine rd_gtup (.of ht) rfl ?_
      have s02 := s1.trans s2
      walk_at "rd"
      refine ⟨.int f, .int s, rfl, kn_int, (fun z => by rw [side_of hf] at z; cases z), fun _ => ⟨kn_int, (fun z => by rw [side_of hs] at z; cases z), fun _ => ⟨f, s, rfl, rfl, fit, fun H3 pe rs s3 tw ers => ?_⟩⟩⟩
      have hpe := tw.at_
      have s03 := s02.trans s3
      have lrs : 0 < rs.length := by
        rw [← ers, List.length_map] at pos
        exact pos
      walk_at "rd"
      refine ⟨pe, _, rfl, .inl (.of hpe), ?_⟩
      walk_at "rd"
      rw [List.length_map]
      refine rd_I (by omega) ?_
      have m0 := Int.emod_nonneg W (show (rs.length : Int) ≠ 0 by omega)
      have m1 := Int.emod_lt_of_pos W (show (0 : Int) < rs.length by omega)
      obtain ⟨v, ev, hv⟩ := atI_mod (rs.map DRow.v) (W % (rs.length : Int)) m0 (by rw [List.length_map]; exact m1)
      obtain ⟨r, hr', rfl⟩ := List.mem_map.mp hv
      refine rd_ixL (.of hpe) ev ?_
      obtain ⟨r1, r2, r3⟩ := tw.rows r hr'
      obtain ⟨d1, d2⟩ := dice r.pr (by rw [← ers]; exact List.mem_map.mpr ⟨r, hr', rfl⟩)
      replace d1 : dieI r.one = true := d1
      replace d2 : dieI r.other = true := d2
      have ne1 := die_ne d1
      have b1 := dieI_len d1
      refine rd_gtup (.of r1) rfl ?_
      walk_at "rd"
      refine rd_slL (.of r2) (fun c1 nc1 => ?_)
      rw [cut_1, ← List.map_drop]
      have s4 := same_new (o := .lst ((r.one.drop 1).map V.int)) nc1
      have hc1 := upd_same (H := H3) (a := c1) (o := .lst ((r.one.drop 1).map V.int))
      revert s4 hc1
      generalize upd H3 c1 (.lst ((r.one.drop 1).map V.int)) = H4
      intro s4 hc1
      walk_at "rd"
      refine rd_ixL (.of (s4 _ _ r2)) (at_head ne1) ?_
      walk_at "rn"
      have mm0 := Int.emod_nonneg (r.one.headD 0 + W) (show (24 : Int) ≠ 0 by decide)
      have mm1 := Int.emod_lt_of_pos (r.one.headD 0 + W) (show (0 : Int) < 24 by decide)
      generalize hX : 1 + (r.one.headD 0 + W) % 24 = X
      have hX' : 1 ≤ X ∧ X ≤ 100 := by omega
      refine ⟨by show 1 ≤ sizeLine; rw [sizeLine_eq]; decide, fun c2 nc2 => ?_⟩
      have s5 := same_new (o := .lst [V.int X]) nc2
      have hc2 := upd_same (H := H4) (a := c2) (o := .lst [V.int X])
      revert s5 hc2
      generalize upd H4 c2 (.lst [V.int X]) = H5
      intro s5 hc2
      walk_at "rd"
      refine rd_cat (s5 _ _ hc1) hc2 (by rw [List.length_map, List.length_drop, sizeLine_eq]; show _ + 1 ≤ _; omega) (fun c3 nc3 => ?_)
      have s6 := same_new (o := .lst ((r.one.drop 1).map V.int ++ [V.int X])) nc3
      have hc3 := upd_same (H := H5) (a := c3) (o := .lst ((r.one.drop 1).map V.int ++ [V.int X]))
      revert s6 hc3
      generalize upd H5 c3 (.lst ((r.one.drop 1).map V.int ++ [V.int X])) = H6
      intro s6 hc3
      walk_at "rd"
      refine rd_sortI (ns := r.one.drop 1 ++ [X]) (.of (by rw [hc3, List.map_append]; rfl)) (fun L c4 perm srt nc4 => ?_)
      have dL := changed_die d1 hX' perm srt
      have s7 := same_new (o := .lst (L.map V.int)) nc4
      have hc4 := upd_same (H := H6) (a := c4) (o := .lst (L.map V.int))
      revert s7 hc4
      generalize upd H6 c4 (.lst (L.map V.int)) = H7
      intro s7 hc4
      have s37 := s4.trans (s5.trans (s6.trans s7))
      have s07 := s03.trans s37
      walk_at "rd"
      refine ⟨a, ns, 0 + (i : Int), 8, rfl, same_l s07 hS, hl, hb, by omega, by omega, by decide, by decide, fun H8 p8 D1 s8 n8 h8 e8 l8 => ?_⟩
      walk_at "rd"
      refine ⟨a, ns, 0 + (i : Int) + 3, 8, rfl, same_l (s07.trans s8) hS, hl, hb, by omega, by omega, by decide, by decide, fun H9 p9 D2 s9 n9 h9 e9 l9 => ?_⟩
      walk_at "rd"
      refine ⟨by show 2 ≤ sizeLine; rw [sizeLine_eq]; decide, fun t1 nt1 => ?_⟩
      have s10 := same_new (o := .tup [V.ref p8, V.ref p9]) nt1
      have ht1 := upd_same (H := H9) (a := t1) (o := .tup [V.ref p8, V.ref p9])
      revert s10 ht1
      generalize upd H9 t1 (.tup [V.ref p8, V.ref p9]) = H10
      intro s10 ht1
      walk_at "rd"
      refine ⟨by show 2 ≤ sizeLine; rw [sizeLine_eq]; decide, fun t2 nt2 => ?_⟩
      have s11 := same_new (o := .tup [V.ref r.a, V.ref r.b]) nt2
      have ht2 := upd_same (H := H10) (a := t2) (o := .tup [V.ref r.a, V.ref r.b])
      revert s11 ht2
      generalize upd H10 t2 (.tup [V.ref r.a, V.ref r.b]) = H11
      intro s11 ht2
      walk_at "rd"
      refine ⟨by show 2 ≤ sizeLine; rw [sizeLine_eq]; decide, fun t3 nt3 => ?_⟩
      have s12 := same_new (o := .tup [V.ref r.b, V.ref c4]) nt3
      have ht3 := upd_same (H := H11) (a := t3) (o := .tup [V.ref r.b, V.ref c4])
      revert s12 ht3
      generalize upd H11 t3 (.tup [V.ref r.b, V.ref c4]) = H12
      intro s12 ht3
      walk_at "rd"
      refine ⟨by show 3 ≤ sizeLine; rw [sizeLine_eq]; decide, fun po npo => ?_⟩
      have s13 := same_new (o := .lst [V.ref t2, V.ref t3, V.ref t1]) npo
      have hpo := upd_same (H := H12) (a := po) (o := .lst [V.ref t2, V.ref t3, V.ref t1])
      revert s13 hpo
      generalize upd H12 po (.lst [V.ref t2, V.ref t3, V.ref t1]) = H13
      intro s13 hpo
      have s913 := s10.trans (s11.trans (s12.trans s13))
      have s813 := s9.trans s913
      have s713 := s8.trans s813
      have s313 := s37.trans s713
      have R1 : DDie H13 ⟨t2, r.a, r.b, r.one, r.other⟩ := ⟨⟨(s12.trans s13) _ _ ht2, s313 _ _ r2, s313 _ _ r3⟩, d1, d2⟩
      have R2 : DDie H13 ⟨t3, r.b, c4, r.other, L⟩ := ⟨⟨s13 _ _ ht3, s313 _ _ r3, s713 _ _ hc4⟩, d2, dL⟩
      have R3 : DDie H13 ⟨t1, p8, p9, D1, D2⟩ := ⟨⟨(s11.trans (s12.trans s13)) _ _ ht1, s813 _ _ h8, s913 _ _ h9⟩, e8, e9⟩
      walk_at "rd"
      refine ⟨by show 2 ≤ sizeLine; rw [sizeLine_eq]; decide, fun t4 nt4 => ?_⟩
      have s14 := same_new (o := .tup [V.ref r.b, V.ref r.a]) nt4
      have ht4 := upd_same (H := H13) (a := t4) (o := .tup [V.ref r.b, V.ref r.a])
      revert s14 ht4
      generalize upd H13 t4 (.tup [V.ref r.b, V.ref r.a]) = H14
      intro s14 ht4
      walk_at "rd"
      refine ⟨f, rfl, by omega, by omega, fun H15 q1 s15 nq1 hq1 => ?_⟩
      walk_at "rd"
      refine ⟨s, rfl, by omega, by omega, fun H16 q2 s16 nq2 hq2 => ?_⟩
      walk_at "rd"
      refine ⟨by show 2 ≤ sizeLine; rw [sizeLine_eq]; decide, fun t5 nt5 => ?_⟩
      have s17 := same_new (o := .tup [V.ref q1, V.ref q2]) nt5
      have ht5 := upd_same (H := H16) (a := t5) (o := .tup [V.ref q1, V.ref q2])
      revert s17 ht5
      generalize upd H16 t5 (.tup [V.ref q1, V.ref q2]) = H17
      intro s17 ht5
      walk_at "rd"
      refine ⟨by show 2 ≤ sizeLine; rw [sizeLine_eq]; decide, fun l5 nl5 => ?_⟩
      have s18 := same_new (o := .lst [V.ref t4, V.ref t5]) nl5
      have hl5 := upd_same (H := H17) (a := l5) (o := .lst [V.ref t4, V.ref t5])
      revert s18 hl5
      generalize upd H17 l5 (.lst [V.ref t4, V.ref t5]) = H18
      intro s18 hl5
      have s1318 := s14.trans (s15.trans (s16.trans (s17.trans s18)))
      have s1418 := s15.trans (s16.trans (s17.trans s18))
      walk_at "rd"
      refine rd_cat (s1318 _ _ hpo) hl5 (by rw [sizeLine_eq]; show 3 + 2 ≤ _; omega) (fun l6 nl6 => ?_)
      have s19 := same_new (o := .lst ([V.ref t2, V.ref t3, V.ref t1] ++ [V.ref t4, V.ref t5])) nl6
      have hl6 := upd_same (H := H18) (a := l6) (o := .lst ([V.ref t2, V.ref t3, V.ref t1] ++ [V.ref t4, V.ref t5]))
      revert s19 hl6
      generalize upd H18 l6 (.lst ([V.ref t2, V.ref t3, V.ref t1] ++ [V.ref t4, V.ref t5])) = H19
      intro s19 hl6
      have s1319 := s1318.trans s19
      have s1419 := s1418.trans s19
      have R4 : DDie H19 ⟨t4, r.b, r.a, r.other, r.one⟩ := ⟨⟨s1419 _ _ ht4, s1319 _ _ (s313 _ _ r3), s1319 _ _ (s313 _ _ r2)⟩, d2, d1⟩
      have R5 : DDie H19 ⟨t5, q1, q2, rgI 1 (f + 1), rgI 1 (s + 1)⟩ := ⟨⟨(s18.trans s19) _ _ ht5, (s16.trans (s17.trans (s18.trans s19))) _ _ hq1, (s17.trans (s18.trans s19)) _ _ hq2⟩, plain_die hf, plain_die hs⟩
      have hpo' := s1319 _ _ hpo
      have all3 : ∀ z ∈ [(⟨t2, r.a, r.b, r.one, r.other⟩ : DRow), ⟨t3, r.b, c4, r.other, L⟩, ⟨t1, p8, p9, D1, D2⟩], DDie H19 z := fun z hz => by
        simp only [List.mem_cons, List.not_mem_nil, or_false] at hz
        rcases hz with rfl | rfl | rfl
        · exact R1.same s1319
        · exact R2.same s1319
        · exact R3.same s1319
      have all5 : ∀ z ∈ [(⟨t2, r.a, r.b, r.one, r.other⟩ : DRow), ⟨t3, r.b, c4, r.other, L⟩, ⟨t1, p8, p9, D1, D2⟩, ⟨t4, r.b, r.a, r.other, r.one⟩, ⟨t5, q1, q2, rgI 1 (f + 1), rgI 1 (s + 1)⟩], DDie H19 z := fun z hz => by
        simp only [List.mem_cons, List.not_mem_nil, or_false] at hz
        rcases hz with rfl | rfl | rfl | rfl | rfl
        · exact R1.same s1319
        · exact R2.same s1319
        · exact R3.same s1319
        · exact R4
        · exact R5
      have s019 := s03.trans (s313.trans s1319)
      refine ⟨l6, rfl, ⟨_, .of hl6⟩, ?_⟩
      refine for_listP DRow.v [(⟨t2, r.a, r.b, r.one, r.other⟩ : DRow), ⟨t3, r.b, c4, r.other, L⟩, ⟨t1, p8, p9, D1, D2⟩, ⟨t4, r.b, r.a, r.other, r.one⟩, ⟨t5, q1, q2, rgI 1 (f + 1), rgI 1 (s + 1)⟩] (fun dn σ H20 => ∃ y11 y12, σ = [some (.ref a), some (.int W), some (.int (0 + (i : Int))), some (.int f), some (.int s), some (.ref pe), some (.ref r.a), some (.ref r.b), some (.ref c4), some (.ref t1), some (.ref po), y11, y12, y13] ∧ Same H19 H20)
        ⟨y11, y12, rfl, Same.refl _⟩ (fun dn σ H20 ⟨_, _, _, s20⟩ => .of (s20 _ _ hl6)) (fun dn z rest σ H20 e ⟨y11, y12, eσ, s20⟩ => ?_) (fun σ H20 ⟨y11, y12, eσ, s20⟩ => ?_)
      · subst eσ
        obtain ⟨⟨a1, a2, a3⟩, dz1, dz2⟩ := (all5 z (by rw [e]; simp)).same s20
        refine rd_gtup (.of a1) rfl ?_
        walk_at "rd"
        refine ⟨f, s, z.a, z.b, po, z.one, z.other, [(⟨t2, r.a, r.b, r.one, r.other⟩ : DRow), ⟨t3, r.b, c4, r.other, L⟩, ⟨t1, p8, p9, D1, D2⟩], rfl, hf, hs, a2, a3, dz1, dz2, s20 _ _ hpo', fun y hy => ((all3 y hy).same s20).ask, fun H21 s21 => ?_⟩
        walk_at "rd"
        refine iteF ?_
        exact ⟨_, _, rfl, s20.trans s21⟩
      · subst eσ
        exact ⟨_, _, _, _, _, _, _, _, _, _, _, _, rfl, s019.trans s20⟩
    · subst eσ
      walk_at "rd"
      refine ⟨by show 2 ≤ sizeLine; rw [sizeLine_eq]; decide, fun l1 n1 => ?_⟩
      have k1 := upd_same (H := H1) (a := l1) (o := .lst [V.int 1, V.int 2])
      revert k1
      generalize upd H1 l1 (.lst [V.int 1, V.int 2]) = H2
      intro k1
      walk_at "rd"
      refine ⟨by show 2 ≤ sizeLine; rw [sizeLine_eq]; decide, fun l2 n2 => ?_⟩
      have k2 := upd_same (H := H2) (a := l2) (o := .lst [V.int 1, V.int 3])
      replace k1 := keep_new (o := .lst [V.int 1, V.int 3]) n2 k1
      revert k1 k2
      generalize upd H2 l2 (.lst [V.int 1, V.int 3]) = H3
      intro k2 k1
      have s22 : SidesOk 2 := ⟨by decide, by decide⟩
      have s44 : SidesOk 4 := ⟨by decide, by decide⟩
      walk_at "rd"
      refine ⟨.int 2, .int 2, .ref l1, .ref l2, rfl, kn_int, (fun z => by rw [side_of s22] at z; cases z), fun _ => ⟨kn_int, (fun z => by rw [side_of s22] at z; cases z), fun _ => .inr ⟨l1, [1, 2], ⟨rfl, .of k1, by decide +kernel⟩, .inr ⟨l2, [1, 3], ⟨rfl, .of k2, by decide +kernel⟩, 2, 2, rfl, rfl, (fun z => absurd z (by decide +kernel)), fun z H4 x dx s4 nx hx => ?_⟩⟩⟩⟩
      walk_at "rd"
      refine rd_isi (.own _) (iO.ty hx) kOO ?_
      walk_at "rd"
      refine iteT ?_
      walk_at "rd"
      refine ⟨by show 4 ≤ sizeLine; rw [sizeLine_eq]; decide, fun l3 n3 => ?_⟩
      have k3 := upd_same (H := H4) (a := l3) (o := .lst [V.int 1, V.int 2, V.int 2, V.int 3])
      revert k3
      generalize upd H4 l3 (.lst [V.int 1, V.int 2, V.int 2, V.int 3]) = H5
      intro k3
      walk_at "rd"
      refine ⟨by show 2 ≤ sizeLine; rw [sizeLine_eq]; decide, fun l4 n4 => ?_⟩
      have k4 := upd_same (H := H5) (a := l4) (o := .lst [V.int 1, V.int 3])
      replace k3 := keep_new (o := .lst [V.int 1, V.int 3]) n4 k3
      revert k3 k4
      generalize upd H5 l4 (.lst [V.int 1, V.int 3]) = H6
      intro k4 k3
      walk_at "rd"
      refine ⟨.int 4, .int 2, .ref l3, .ref l4, rfl, kn_int, (fun z => by rw [side_of s44] at z; cases z), fun _ => ⟨kn_int, (fun z => by rw [side_of s22] at z; cases z), fun _ => .inr ⟨l3, [1, 2, 2, 3], ⟨rfl, .of k3, by decide +kernel⟩, .inr ⟨l4, [1, 3], ⟨rfl, .of k4, by decide +kernel⟩, 4, 2, rfl, rfl, fun z H7 x2 dx2 s7 nx2 hx2 => ?_, (fun z => absurd (by decide +kernel) z)⟩⟩⟩⟩
      walk_at "rd"
      refine rd_isi (.own _) (iT.ty hx2) kTT ?_
      exact q _
end

end Tw
set_option Elab.async false
set_option linter.all false
set_option maxRecDepth 100000
set_option maxHeartbeats 4000000
namespace Tw
open PySem PySem.Spec PyProof.Rows L2
local macro_rules | `(tactic| walk_at "rd0") => `(tactic| first
  | with_reducible refine Tw.rd_seq ?_
  | with_reducible refine Tw.rd_asg ?_
  | with_reducible refine Tw.rd_drop ?_
  | with_reducible refine Tw.rd_ret ?_
  | with_reducible refine Tw.rd_retN ?_
  | with_reducible refine Tw.rd_next ?_
  | ((with_reducible refine Tw.rd_var (v := ?vv) ?hv ?_); (case hv => exact rfl))
  | with_reducible refine Tw.rd_c ?_
  | with_reducible refine Tw.rd_op ?_
  | with_reducible refine Tw.rd_un ?_
  | with_reducible refine Tw.rd_I0 ?_
  | with_reducible refine Tw.rd_U ?_
  | with_reducible refine Tw.rd_test ?_
  | with_reducible refine Tw.rd_tB ?_
  | with_reducible refine Tw.rd_bl ?_
  | with_reducible refine Tw.rd_not ?_
  | with_reducible refine Tw.rd_and ?_
  | with_reducible refine Tw.rd_or ?_
  | with_reducible refine Tw.rd_andV ?_
  | with_reducible refine Tw.rd_orV ?_
  | with_reducible refine Tw.rd_notV ?_
  | with_reducible refine Tw.rd_tIf ?_
  | with_reducible refine Tw.rd_cb ?_
  | with_reducible refine Tw.rd_cons ?_
  | with_reducible refine Tw.rd_nil ?_
  | with_reducible refine Tw.rd_call ?_
  | with_reducible refine Tw.rd_tup ?_
  | with_reducible refine Tw.rd_lst ?_
  | with_reducible refine Tw.rd_gname ?_
  | with_reducible refine Tw.rd_chain ?_
  | with_reducible refine Tw.rd_lc ?_
  | with_reducible refine Tw.rd_il ?_
  | with_reducible refine Tw.rd_it ?_
  | with_reducible refine Tw.rd_ie ?_
  | with_reducible refine Tw.rd_ir ?_
  | with_reducible refine Tw.rd_ir2 ?_
  | with_reducible refine Tw.rd_ir3 ?_
  | with_reducible refine Tw.rd_dput ?_
  | with_reducible refine Tw.rd_dget2 ?_
  | with_reducible refine Tw.rd_items ?_
  | with_reducible refine Tw.rd_sl ?_
  | with_reducible refine Tw.rd_nopart ?_
  | with_reducible refine Tw.rd_part ?_
  | with_reducible refine Tw.rd_int ?_
  | with_reducible refine Tw.rd_revL ?_
  | with_reducible refine Tw.rd_bm ?_
  | with_reducible refine Tw.rd_bm0 ?_
  | with_reducible refine Tw.rd_lrg ?_
  | with_reducible refine Tw.rd_rg2 ?_
  | with_reducible refine Tw.rd_rg1 ?_
  | with_reducible refine Tw.rd_int2 ?_
  | with_reducible refine Tw.rd_augS ?_
  | with_reducible refine Tw.rd_ipI ?_
  | with_reducible refine Tw.rd_gsub ?_
  | with_reducible refine Tw.rd_gcons ?_
  | with_reducible refine Tw.rd_gnil ?_
  | with_reducible refine Tw.rd_par ?_
  | with_reducible refine Tw.rd_par2 ?_
  | with_reducible refine Tw.rd_mk ?_
  | with_reducible refine Tw.rd_md ?_
  | with_reducible refine Tw.rd_fld ?_
  | with_reducible refine Tw.rd_sfld ?_)
local macro_rules | `(tactic| walk_at "rd1") => `(tactic| first
  | walk_at "rd0"
  | with_reducible refine Tw.rd_if ?_
  | with_reducible refine Tw.rd_for ?_)
local macro_rules | `(tactic| walk_at "rs") => `(tactic| repeat walk_at "rd0")
local macro_rules | `(tactic| walk_at "rd") => `(tactic| repeat walk_at "rd1")
local macro_rules | `(tactic| walk_at "ini") => `(tactic| (dsimp only [L2.cxOf, L2.start, L2.Cx.wish, L2.Cx.nox, List.map, List.length_cons, List.length_nil, Nat.reduceAdd, Nat.reduceSub, List.replicate, List.cons_append, List.nil_append]; walk_at "rd"))
local macro_rules | `(tactic| walk_at "num") => `(tactic| first
  | exact (show (0 : Int) < _ from by decide)
  | exact (show (0 : Int) < _ ∧ _ < (1073741824 : Int) from by decide)
  | exact (show (0 : Int) ≤ _ ∧ _ ≤ (1000000 : Int) ∧ _ < 2 ^ 64 from by decide))
local macro_rules | `(tactic| walk_at "rn") => `(tactic| repeat (first | walk_at "rd1" | ((with_reducible refine Tw.rd_I ?c ?_); (case c => walk_at "num"))))
/-! ### what the top has left -/
theorem kit_no {K : PySem.W.Frag} {C T : Addr} (ne : C ≠ T) (hd : PySem.W.hasDictIn K T = true) (ty : PySem.W.typeIn K (.ref T) = some (.type "type")) (sub : PySem.W.subIn K (.ref C) (.ref T) = some false) : PySem.W.kitOne K (.ref C) (.ref T) = some false := by
  unfold PySem.W.kitOne
  split
  · rename_i h
    have := beq_iff_eq.mp h
    injection this with e
    exact absurd e ne
  · show (if ((PySem.W.clsIn K T).isSome && PySem.W.typeIn K (.ref T) == some (.type "type")) = true then PySem.W.subIn K (.ref C) (.ref T) else none) = some false
    have h : (PySem.W.clsIn K T).isSome = true := by
      unfold PySem.W.hasDictIn at hd
      cases e : PySem.W.clsIn K T with
      | none =>
        rw [e] at hd
        exact absurd hd (by simp [Option.any])
      | some c => rfl
    rw [if_pos (by rw [h, ty]; decide +kernel), sub]
theorem kit_own {K : PySem.W.Frag} {C T : Addr} (hd : PySem.W.hasDictIn K T = true) (ty : PySem.W.typeIn K (.ref T) = some (.type "type")) (sub : PySem.W.subIn K (.ref C) (.ref T) = some true) : PySem.W.kitOne K (.ref C) (.ref T) = some true := by
  unfold PySem.W.kitOne
  split
  · rfl
  · show (if ((PySem.W.clsIn K T).isSome && PySem.W.typeIn K (.ref T) == some (.type "type")) = true then PySem.W.subIn K (.ref C) (.ref T) else none) = some true
    have h : (PySem.W.clsIn K T).isSome = true := by
      unfold PySem.W.hasDictIn at hd
      cases e : PySem.W.clsIn K T with
      | none =>
        rw [e] at hd
        exact absurd hd (by simp [Option.any])
      | some c => rfl
    rw [if_pos (by rw [h, ty]; decide +kernel), sub]
theorem md_mk {P : Program} {w : World} {K : PySem.W.Frag} {mg : Str → Option Value} {base : Heap} {C : Addr} {k : Nat} {m q : Str} {st : Stmt} {f : Addr} {ps : List Str} {sp : Sp} (d : DefIn K m q st f) (c : Cls K C)
    (at_ : PySem.W.findIn K (.ref C) m = some (some (.ref f))) (fn : PySem.W.isFn K (.ref f) = true)
    (bd : ∀ (kV doc pm : Value) (an : Option Addr) (cdv ct : Value) (us : List Value), us.length = ps.length → bindArgs (PySem.W.fnOf m q (defArgs st) (defBody st) (defScope st) .none kV doc pm an cdv ct) ⟨us, []⟩ = pure (ps.zip us))
    (ok : ∀ fd, Fun K m q st f fd → FnOk P w K mg base CX0 k f fd ps sp) : Md P w K mg base C m k ps sp := by
  obtain ⟨oc, od, kV, dc, pm, an, cd, ct, sl, h1, h2, h3⟩ := d
  have F := fun_mk (st := st) h1 h2 h3
  exact ⟨c, f, _, ⟨at_, fn, h3⟩, ok _ F, F.binds bd⟩
theorem clm_mk {P : Program} {w : World} {K : PySem.W.Frag} {mg : Str → Option Value} {base : Heap} {x : Str} {C : Addr} {k : Nat} {q : Str} {st : Stmt} {f : Addr} {ps : List Str} {sp : Sp} (d : DefIn K "__init__" q st f) (g : mg x = some (.ref C))
    (mk : PySem.W.makesIn K C = true) (at_ : PySem.W.findIn K (.ref C) "__init__" = some (some (.ref f))) (fn : PySem.W.isFn K (.ref f) = true) (kp : PySem.W.keepIn K (.ref C) = true)
    (bd : ∀ (kV doc pm : Value) (an : Option Addr) (cdv ct : Value) (us : List Value), us.length = ps.length → bindArgs (PySem.W.fnOf "__init__" q (defArgs st) (defBody st) (defScope st) .none kV doc pm an cdv ct) ⟨us, []⟩ = pure (ps.zip us))
    (ok : ∀ fd, Fun K "__init__" q st f fd → FnOk P w K mg base CX0 k f fd ps sp) : ClM P w K mg base x C k ps sp := by
  obtain ⟨oc, od, kV, dc, pm, an, cd, ct, sl, h1, h2, h3⟩ := d
  have F := fun_mk (st := st) h1 h2 h3
  exact ⟨g, f, _, ⟨mk, at_, fn, kp⟩, ok _ F, F.binds bd⟩
theorem df_rec {P : Program} {w : World} {K : PySem.W.Frag} {mg : Str → Option Value} {base : Heap} {CX : CXT} {k : Nat} {x : Str} {st : Stmt} {f : Addr} {ps : List Str} {sp : Sp} (d : DefIn K x x st f) (g : mg x = some (.ref f))
    (bd : ∀ (kV doc pm : Value) (an : Option Addr) (cdv ct : Value) (us : List Value), us.length = ps.length → bindArgs (PySem.W.fnOf x x (defArgs st) (defBody st) (defScope st) .none kV doc pm an cdv ct) ⟨us, []⟩ = pure (ps.zip us))
    (ok : ∀ fd, Fun K x x st f fd → (∀ (k : Nat) (sp : Sp), FnOk P w K mg base CX k f fd ps sp → Df P w K mg base CX k x ps sp) → FnOk P w K mg base CX k f fd ps sp) : Df P w K mg base CX k x ps sp := by
  obtain ⟨oc, od, kV, dc, pm, an, cd, ct, sl, h1, h2, h3⟩ := d
  have F := fun_mk (st := st) h1 h2 h3
  exact ⟨f, _, ok _ F fun k sp h => ⟨f, _, h, g, h3, F.binds bd⟩, g, h3, F.binds bd⟩
theorem all_mk {l : PySem.W.OpenLaw} {w : World} {K : PySem.W.Frag} {h : Heap} {mg : Str → Option Value} {fa f_is_whole f_check_sides f_check_die f_counts_of f_how_often f_first_off f_times f_over f_raised f_die_of f_least_factor f_parts_of f_dealt f_twins_of f_twins f_judged f__law_number f__law_whole f__law_die f__law_two_sides f__law_counts f__law_plain f__law_twins f__law_says f__law_due f__law_right f_law C_BadDie C_BadSides C_Answer C_Twin C_Off f_Twin_shows f_Off___init__ f_Off_shows : Addr} (X : K.In h) (G : h.Ns mainGlobals mg) (hfa : mg "law" = some (.ref fa))
    (G_is_whole : PySem.W.nsIn K mainGlobals "is_whole" = some (some (.ref f_is_whole))) (D_is_whole : DefIn K "is_whole" "is_whole" s_is_whole f_is_whole)
    (G_check_sides : PySem.W.nsIn K mainGlobals "check_sides" = some (some (.ref f_check_sides))) (D_check_sides : DefIn K "check_sides" "check_sides" s_check_sides f_check_sides)
    (G_check_die : PySem.W.nsIn K mainGlobals "check_die" = some (some (.ref f_check_die))) (D_check_die : DefIn K "check_die" "check_die" s_check_die f_check_die)
    (G_counts_of : PySem.W.nsIn K mainGlobals "counts_of" = some (some (.ref f_counts_of))) (D_counts_of : DefIn K "counts_of" "counts_of" s_counts_of f_counts_of)
    (G_how_often : PySem.W.nsIn K mainGlobals "how_often" = some (some (.ref f_how_often))) (D_how_often : DefIn K "how_often" "how_often" s_how_often f_how_often)
    (G_first_off : PySem.W.nsIn K mainGlobals "first_off" = some (some (.ref f_first_off))) (D_first_off : DefIn K "first_off" "first_off" s_first_off f_first_off)
    (G_times : PySem.W.nsIn K mainGlobals "times" = some (some (.ref f_times))) (D_times : DefIn K "times" "times" s_times f_times)
    (G_over : PySem.W.nsIn K mainGlobals "over" = some (some (.ref f_over))) (D_over : DefIn K "over" "over" s_over f_over)
    (G_raised : PySem.W.nsIn K mainGlobals "raised" = some (some (.ref f_raised))) (D_raised : DefIn K "raised" "raised" s_raised f_raised)
    (G_die_of : PySem.W.nsIn K mainGlobals "die_of" = some (some (.ref f_die_of))) (D_die_of : DefIn K "die_of" "die_of" s_die_of f_die_of)
    (G_least_factor : PySem.W.nsIn K mainGlobals "least_factor" = some (some (.ref f_least_factor))) (D_least_factor : DefIn K "least_factor" "least_factor" s_least_factor f_least_factor)
    (G_parts_of : PySem.W.nsIn K mainGlobals "parts_of" = some (some (.ref f_parts_of))) (D_parts_of : DefIn K "parts_of" "parts_of" s_parts_of f_parts_of)
    (G_dealt : PySem.W.nsIn K mainGlobals "dealt" = some (some (.ref f_dealt))) (D_dealt : DefIn K "dealt" "dealt" s_dealt f_dealt)
    (G_twins_of : PySem.W.nsIn K mainGlobals "twins_of" = some (some (.ref f_twins_of))) (D_twins_of : DefIn K "twins_of" "twins_of" s_twins_of f_twins_of)
    (G_twins : PySem.W.nsIn K mainGlobals "twins" = some (some (.ref f_twins))) (D_twins : DefIn K "twins" "twins" s_twins f_twins)
    (G_judged : PySem.W.nsIn K mainGlobals "judged" = some (some (.ref f_judged))) (D_judged : DefIn K "judged" "judged" s_judged f_judged)
    (G__law_number : PySem.W.nsIn K mainGlobals "_law_number" = some (some (.ref f__law_number))) (D__law_number : DefIn K "_law_number" "_law_number" s__law_number f__law_number)
    (G__law_whole : PySem.W.nsIn K mainGlobals "_law_whole" = some (some (.ref f__law_whole))) (D__law_whole : DefIn K "_law_whole" "_law_whole" s__law_whole f__law_whole)
    (G__law_die : PySem.W.nsIn K mainGlobals "_law_die" = some (some (.ref f__law_die))) (D__law_die : DefIn K "_law_die" "_law_die" s__law_die f__law_die)
    (G__law_two_sides : PySem.W.nsIn K mainGlobals "_law_two_sides" = some (some (.ref f__law_two_sides))) (D__law_two_sides : DefIn K "_law_two_sides" "_law_two_sides" s__law_two_sides f__law_two_sides)
    (G__law_counts : PySem.W.nsIn K mainGlobals "_law_counts" = some (some (.ref f__law_counts))) (D__law_counts : DefIn K "_law_counts" "_law_counts" s__law_counts f__law_counts)
    (G__law_plain : PySem.W.nsIn K mainGlobals "_law_plain" = some (some (.ref f__law_plain))) (D__law_plain : DefIn K "_law_plain" "_law_plain" s__law_plain f__law_plain)
    (G__law_twins : PySem.W.nsIn K mainGlobals "_law_twins" = some (some (.ref f__law_twins))) (D__law_twins : DefIn K "_law_twins" "_law_twins" s__law_twins f__law_twins)
    (G__law_says : PySem.W.nsIn K mainGlobals "_law_says" = some (some (.ref f__law_says))) (D__law_says : DefIn K "_law_says" "_law_says" s__law_says f__law_says)
    (G__law_due : PySem.W.nsIn K mainGlobals "_law_due" = some (some (.ref f__law_due))) (D__law_due : DefIn K "_law_due" "_law_due" s__law_due f__law_due)
    (G__law_right : PySem.W.nsIn K mainGlobals "_law_right" = some (some (.ref f__law_right))) (D__law_right : DefIn K "_law_right" "_law_right" s__law_right f__law_right)
    (G_law : PySem.W.nsIn K mainGlobals "law" = some (some (.ref f_law))) (D_law : DefIn K "law" "law" s_law f_law)
    (g_BadDie : PySem.W.nsIn K mainGlobals "BadDie" = some (some (.ref C_BadDie))) (x_BadDie : PySem.W.excIn K C_BadDie [.type "ValueError", .type "Exception", .type "BaseException", .type "object"] "ValueError.__new__" = true) (k_BadDie : PySem.W.keepIn K (.ref C_BadDie) = true) (b_BadDie : PySem.W.subIn K (.ref C_BadDie) (.type "BaseException") = some true) (t_BadDie : PySem.W.typeIn K (.ref C_BadDie) = some (.type "type"))
    (g_BadSides : PySem.W.nsIn K mainGlobals "BadSides" = some (some (.ref C_BadSides))) (x_BadSides : PySem.W.excIn K C_BadSides [.type "ValueError", .type "Exception", .type "BaseException", .type "object"] "ValueError.__new__" = true) (k_BadSides : PySem.W.keepIn K (.ref C_BadSides) = true) (b_BadSides : PySem.W.subIn K (.ref C_BadSides) (.type "BaseException") = some true) (t_BadSides : PySem.W.typeIn K (.ref C_BadSides) = some (.type "type"))
    (m_MOST_SIDES : ∃ t, PySem.W.nsIn K mainGlobals "MOST_SIDES" = some (some (.int 72 t)))
    (m_MOST_NUMBER : ∃ t, PySem.W.nsIn K mainGlobals "MOST_NUMBER" = some (some (.int 100 t)))
    (m_MOST_PLAIN : ∃ t, PySem.W.nsIn K mainGlobals "MOST_PLAIN" = some (some (.int 12 t)))
    (z_isinstance : PySem.W.nsIn K mainGlobals "isinstance" = some none)
    (z_int : PySem.W.nsIn K mainGlobals "int" = some none)
    (z_bool : PySem.W.nsIn K mainGlobals "bool" = some none)
    (z_list : PySem.W.nsIn K mainGlobals "list" = some none)
    (z_tuple : PySem.W.nsIn K mainGlobals "tuple" = some none)
    (z_len : PySem.W.nsIn K mainGlobals "len" = some none)
    (z_all : PySem.W.nsIn K mainGlobals "all" = some none)
    (z_any : PySem.W.nsIn K mainGlobals "any" = some none)
    (z_sum : PySem.W.nsIn K mainGlobals "sum" = some none)
    (z_sorted : PySem.W.nsIn K mainGlobals "sorted" = some none)
    (z_range : PySem.W.nsIn K mainGlobals "range" = some none)
    (z_enumerate : PySem.W.nsIn K mainGlobals "enumerate" = some none)
    (z_max : PySem.W.nsIn K mainGlobals "max" = some none)
    (z_min : PySem.W.nsIn K mainGlobals "min" = some none)
    (z_abs : PySem.W.nsIn K mainGlobals "abs" = some none)
    (z_dict : PySem.W.nsIn K mainGlobals "dict" = some none)
    (z_str : PySem.W.nsIn K mainGlobals "str" = some none)
    (z_set : PySem.W.nsIn K mainGlobals "set" = some none)
    (g_Answer : PySem.W.nsIn K mainGlobals "Answer" = some (some (.ref C_Answer)))
    (g_Twin : PySem.W.nsIn K mainGlobals "Twin" = some (some (.ref C_Twin)))
    (g_Off : PySem.W.nsIn K mainGlobals "Off" = some (some (.ref C_Off)))
    (pg_Twin : PySem.W.plainGet K C_Twin Str.empty = true)
    (hd_Twin : PySem.W.hasDictIn K C_Twin = true)
    (po_Twin : PySem.W.plainOver K C_Twin = true)
    (sa_Twin : PySem.W.findIn K (.ref C_Twin) "__setattr__" = some (some (.builtin "object.__setattr__")))
    (mk_Twin : PySem.W.makesIn K C_Twin = true)
    (in_Twin : PySem.W.findIn K (.ref C_Twin) "__init__" = some (some (.builtin "object.__init__")))
    (kp_Twin : PySem.W.keepIn K (.ref C_Twin) = true)
    (at_Twin_shows : PySem.W.findIn K (.ref C_Twin) "shows" = some (some (.ref f_Twin_shows)))
    (fn_Twin_shows : PySem.W.isFn K (.ref f_Twin_shows) = true)
    (D_Twin_shows : DefIn K "shows" "Twin.shows" s_Twin_shows f_Twin_shows)
    (ha_Twin : PySem.W.findIn K (.ref C_Twin) "__class__" = some (some (.builtin "object.__class__")))
    (hm_Twin : PySem.W.mroIn K C_Twin (.type "object") = some true)
    (sn_Twin_Off : PySem.W.subIn K (.ref C_Twin) (.ref C_Off) = some false)
    (tn_Twin_Off : PySem.W.typeIn K (.ref C_Off) = some (.type "type"))
    (kit_Twin_Answer : PySem.W.kitOne K (.ref C_Twin) (.ref C_Answer) = some true)
    (kit_Twin_Twin : PySem.W.kitOne K (.ref C_Twin) (.ref C_Twin) = some true)
    (pg_Off : PySem.W.plainGet K C_Off Str.empty = true)
    (hd_Off : PySem.W.hasDictIn K C_Off = true)
    (po_Off : PySem.W.plainOver K C_Off = true)
    (sa_Off : PySem.W.findIn K (.ref C_Off) "__setattr__" = some (some (.builtin "object.__setattr__")))
    (na_Off_total : PySem.W.findIn K (.ref C_Off) "total" = some none)
    (mk_Off : PySem.W.makesIn K C_Off = true)
    (at_Off___init__ : PySem.W.findIn K (.ref C_Off) "__init__" = some (some (.ref f_Off___init__)))
    (fn_Off___init__ : PySem.W.isFn K (.ref f_Off___init__) = true)
    (D_Off___init__ : DefIn K "__init__" "Off.__init__" s_Off___init__ f_Off___init__)
    (at_Off_shows : PySem.W.findIn K (.ref C_Off) "shows" = some (some (.ref f_Off_shows)))
    (fn_Off_shows : PySem.W.isFn K (.ref f_Off_shows) = true)
    (D_Off_shows : DefIn K "shows" "Off.shows" s_Off_shows f_Off_shows)
    (kp_Off : PySem.W.keepIn K (.ref C_Off) = true)
    (ha_Off : PySem.W.findIn K (.ref C_Off) "__class__" = some (some (.builtin "object.__class__")))
    (hm_Off : PySem.W.mroIn K C_Off (.type "object") = some true)
    (sn_Off_Twin : PySem.W.subIn K (.ref C_Off) (.ref C_Twin) = some false)
    (tn_Off_Twin : PySem.W.typeIn K (.ref C_Twin) = some (.type "type"))
    (kit_Off_Answer : PySem.W.kitOne K (.ref C_Off) (.ref C_Answer) = some true)
    (kit_Off_Off : PySem.W.kitOne K (.ref C_Off) (.ref C_Off) = some true)
    (oc_get : PySem.W.specialIn K (.builtin "object.__class__") "__get__" = some (some (.builtin "getset_descriptor.__get__"))) (oc_takes : PySem.W.takesIn K (.builtin "object.__class__") = some true)
    : ∃ fd : FuncData, (∀ (s : Shared) (v : Value), BindsTo s fd ⟨[v], []⟩ [("_law_script", v)]) ∧ ∀ base : Heap, K.In base → base.Ns mainGlobals mg → FnOk l.prog w K mg base CX0 19 fa fd ["_law_script"] (spLaw K) := by
  have e := hfa.symm.trans (PySem.W.mg_of X G G_law)
  cases e
  have B : Bn mg := ⟨PySem.W.mg_none_of X G z_isinstance, PySem.W.mg_none_of X G z_int, PySem.W.mg_none_of X G z_bool, PySem.W.mg_none_of X G z_list, PySem.W.mg_none_of X G z_tuple, PySem.W.mg_none_of X G z_len, PySem.W.mg_none_of X G z_all, PySem.W.mg_none_of X G z_any, PySem.W.mg_none_of X G z_sum, PySem.W.mg_none_of X G z_sorted, PySem.W.mg_none_of X G z_range, PySem.W.mg_none_of X G z_enumerate, PySem.W.mg_none_of X G z_max, PySem.W.mg_none_of X G z_min, PySem.W.mg_none_of X G z_abs, PySem.W.mg_none_of X G z_dict, PySem.W.mg_none_of X G z_str, PySem.W.mg_none_of X G z_set⟩
  have x_BadDie : Exq K mg "BadDie" C_BadDie := ⟨x_BadDie, PySem.W.mg_of X G g_BadDie, k_BadDie, b_BadDie, t_BadDie⟩
  have x_BadSides : Exq K mg "BadSides" C_BadSides := ⟨x_BadSides, PySem.W.mg_of X G g_BadSides, k_BadSides, b_BadSides, t_BadSides⟩
  have m_MOST_SIDES : ∃ t, mg "MOST_SIDES" = some (.int 72 t) := m_MOST_SIDES.imp fun _ z => PySem.W.mg_of X G z
  have m_MOST_NUMBER : ∃ t, mg "MOST_NUMBER" = some (.int 100 t) := m_MOST_NUMBER.imp fun _ z => PySem.W.mg_of X G z
  have m_MOST_PLAIN : ∃ t, mg "MOST_PLAIN" = some (.int 12 t) := m_MOST_PLAIN.imp fun _ z => PySem.W.mg_of X G z
  have c_Answer : ClG K mg "Answer" C_Answer := ⟨PySem.W.mg_of X G g_Answer⟩
  have cl_Twin : Cls K C_Twin := ⟨pg_Twin, hd_Twin, po_Twin, sa_Twin⟩
  have c_Twin : Cl0 K mg "Twin" C_Twin := ⟨PySem.W.mg_of X G g_Twin, mk_Twin, in_Twin, kp_Twin⟩
  have i_Twin : InsT K C_Twin := ⟨cl_Twin, ha_Twin, oc_get, oc_takes, hm_Twin⟩
  have cl_Off : Cls K C_Off := ⟨pg_Off, hd_Off, po_Off, sa_Off⟩
  have c_Off : ClG K mg "Off" C_Off := ⟨PySem.W.mg_of X G g_Off⟩
  have i_Off : InsT K C_Off := ⟨cl_Off, ha_Off, oc_get, oc_takes, hm_Off⟩
  have kit_Twin_Off : PySem.W.kitOne K (.ref C_Twin) (.ref C_Off) = some false := kit_no (fun e => by
    have z := in_Twin
    rw [e, at_Off___init__] at z
    cases z) hd_Off tn_Twin_Off sn_Twin_Off
  have kit_Off_Twin : PySem.W.kitOne K (.ref C_Off) (.ref C_Twin) = some false := kit_no (fun e => by
    have z := in_Twin
    rw [← e, at_Off___init__] at z
    cases z) hd_Twin tn_Off_Twin sn_Off_Twin
  obtain ⟨oc, od, kV, dc, pm, an, cd, ct, sl, h1, h2, h3⟩ := D_law
  refine ⟨PySem.W.fnOf "law" "law" (defArgs s_law) (defBody s_law) (defScope s_law) .none kV dc pm an cd ct, fun s v => .of_eq rfl, fun base kb gb => ?_⟩
  have d_is_whole : Df l.prog w K mg base CX0 1 "is_whole" ["thing"] (spIsWhole K) := df_mk D_is_whole (PySem.W.mg_of X G G_is_whole) (fun _ _ _ _ _ _ us hl => match us, hl with | [_], _ => rfl) (fun fd F => ok_is_whole F B)
  have d_check_sides : Df l.prog w K mg base (L2.CX l.prog w) 2 "check_sides" ["sides"] (spSides K C_BadSides) := df_mk D_check_sides (PySem.W.mg_of X G G_check_sides) (fun _ _ _ _ _ _ us hl => match us, hl with | [_], _ => rfl) (fun fd F => ok_check_sides F B x_BadSides m_MOST_PLAIN d_is_whole)
  have d_check_die : Df l.prog w K mg base (L2.CX l.prog w) 2 "check_die" ["die"] (spDie K C_BadDie) := df_mk D_check_die (PySem.W.mg_of X G G_check_die) (fun _ _ _ _ _ _ us hl => match us, hl with | [_], _ => rfl) (fun fd F => (ok_check_die F B x_BadDie m_MOST_SIDES m_MOST_NUMBER d_is_whole).imp (fun _ _ _ _ => die_of_sp))
  have d_counts_of : Df l.prog w K mg base CX0 1 "counts_of" ["one", "other"] (spCounts K) := df_mk D_counts_of (PySem.W.mg_of X G G_counts_of) (fun _ _ _ _ _ _ us hl => match us, hl with | [_, _], _ => rfl) (fun fd F => ok_counts_of F )
  have d_how_often : Df l.prog w K mg base CX0 1 "how_often" ["first", "second", "total"] (spHow) := df_mk D_how_often (PySem.W.mg_of X G G_how_often) (fun _ _ _ _ _ _ us hl => match us, hl with | [_, _, _], _ => rfl) (fun fd F => ok_how_often F B)
  have d_first_off : Df l.prog w K mg base CX0 2 "first_off" ["first", "second", "one", "other"] (spFirstOff K) := df_mk D_first_off (PySem.W.mg_of X G G_first_off) (fun _ _ _ _ _ _ us hl => match us, hl with | [_, _, _, _], _ => rfl) (fun fd F => ok_first_off F B d_counts_of d_how_often)
  have md_Twin_shows : Md l.prog w K mg base C_Twin "shows" 3 ["self", "first", "second", "one", "other"] (spTShows K) := md_mk D_Twin_shows cl_Twin at_Twin_shows fn_Twin_shows (fun _ _ _ _ _ _ us hl => match us, hl with | [_, _, _, _, _], _ => rfl) (fun fd F => ok_Twin_shows F d_first_off)
  have k_Off : ClM l.prog w K mg base "Off" C_Off 1 ["self", "total"] (spOInit C_Off) := clm_mk D_Off___init__ (PySem.W.mg_of X G g_Off) mk_Off at_Off___init__ fn_Off___init__ kp_Off (fun _ _ _ _ _ _ us hl => match us, hl with | [_, _], _ => rfl) (fun fd F => ok_Off___init__ F cl_Off na_Off_total)
  have md_Off_shows : Md l.prog w K mg base C_Off "shows" 2 ["self", "first", "second", "one", "other"] (spOShows K C_Off) := md_mk D_Off_shows cl_Off at_Off_shows fn_Off_shows (fun _ _ _ _ _ _ us hl => match us, hl with | [_, _, _, _, _], _ => rfl) (fun fd F => ok_Off_shows F cl_Off na_Off_total d_is_whole d_counts_of d_how_often)
  have d_times : Df l.prog w K mg base CX0 1 "times" ["one", "other"] (spTimes K) := df_mk D_times (PySem.W.mg_of X G G_times) (fun _ _ _ _ _ _ us hl => match us, hl with | [_, _], _ => rfl) (fun fd F => ok_times F B)
  have d_over : Df l.prog w K mg base CX0 1 "over" ["row", "by"] (spOver K) := df_mk D_over (PySem.W.mg_of X G G_over) (fun _ _ _ _ _ _ us hl => match us, hl with | [_, _], _ => rfl) (fun fd F => ok_over F B)
  have d_raised : Df l.prog w K mg base CX0 2 "raised" ["row", "part", "many"] (spRaised K) := df_mk D_raised (PySem.W.mg_of X G G_raised) (fun _ _ _ _ _ _ us hl => match us, hl with | [_, _, _], _ => rfl) (fun fd F => ok_raised F B d_times)
  have d_die_of : Df l.prog w K mg base CX0 1 "die_of" ["row"] (spDieOf K) := df_mk D_die_of (PySem.W.mg_of X G G_die_of) (fun _ _ _ _ _ _ us hl => match us, hl with | [_], _ => rfl) (fun fd F => ok_die_of F B)
  have d_least_factor : Df l.prog w K mg base CX0 14 "least_factor" ["many"] (spLF 12) := df_rec D_least_factor (PySem.W.mg_of X G G_least_factor) (fun _ _ _ _ _ _ us hl => match us, hl with | [_], _ => rfl) (fun fd F mk => ok_least_factor F B d_over mk 12 (by decide))
  have d_parts_of : Df l.prog w K mg base CX0 15 "parts_of" ["first", "second"] (spParts) := df_mk D_parts_of (PySem.W.mg_of X G G_parts_of) (fun _ _ _ _ _ _ us hl => match us, hl with | [_, _], _ => rfl) (fun fd F => ok_parts_of F B d_least_factor)
  have d_dealt : Df l.prog w K mg base CX0 16 "dealt" ["first", "second"] (spDealt) := df_mk D_dealt (PySem.W.mg_of X G G_dealt) (fun _ _ _ _ _ _ us hl => match us, hl with | [_, _], _ => rfl) (fun fd F => ok_dealt F B d_parts_of d_raised)
  have d_twins_of : Df l.prog w K mg base CX0 17 "twins_of" ["first", "second"] (spTwinsOf) := df_mk D_twins_of (PySem.W.mg_of X G G_twins_of) (fun _ _ _ _ _ _ us hl => match us, hl with | [_, _], _ => rfl) (fun fd F => ok_twins_of F B d_dealt d_die_of)
  have d_twins : Df l.prog w K mg base (L2.CX l.prog w) 18 "twins" ["first", "second"] (spTwins K C_BadSides) := df_mk D_twins (PySem.W.mg_of X G G_twins) (fun _ _ _ _ _ _ us hl => match us, hl with | [_, _], _ => rfl) (fun fd F => ok_twins F d_check_sides d_twins_of)
  have d_judged : Df l.prog w K mg base (L2.CX l.prog w) 3 "judged" ["first", "second", "one", "other"] (spJudged K C_BadSides C_BadDie C_Twin C_Off) := df_mk D_judged (PySem.W.mg_of X G G_judged) (fun _ _ _ _ _ _ us hl => match us, hl with | [_, _, _, _], _ => rfl) (fun fd F => ok_judged F d_check_sides d_check_die d_first_off c_Twin k_Off)
  have d__law_number : Df l.prog w K mg base CX0 1 "_law_number" ["_law_cell", "_law_at", "_law_whole_here"] (spNum) := df_mk D__law_number (PySem.W.mg_of X G G__law_number) (fun _ _ _ _ _ _ us hl => match us, hl with | [_, _, _], _ => rfl) (fun fd F => ok__law_number F )
  have d__law_whole : Df l.prog w K mg base CX0 1 "_law_whole" ["_law_found"] (spIsWhole K) := df_mk D__law_whole (PySem.W.mg_of X G G__law_whole) (fun _ _ _ _ _ _ us hl => match us, hl with | [_], _ => rfl) (fun fd F => ok__law_whole F B)
  have d__law_die : Df l.prog w K mg base CX0 2 "_law_die" ["_law_script", "_law_by", "_law_most"] (spLDie K) := df_mk D__law_die (PySem.W.mg_of X G G__law_die) (fun _ _ _ _ _ _ us hl => match us, hl with | [_, _, _], _ => rfl) (fun fd F => ok__law_die F B d__law_number)
  have d__law_two_sides : Df l.prog w K mg base CX0 2 "_law_two_sides" ["_law_script", "_law_by", "_law_most"] (spTwo K) := df_mk D__law_two_sides (PySem.W.mg_of X G G__law_two_sides) (fun _ _ _ _ _ _ us hl => match us, hl with | [_, _, _], _ => rfl) (fun fd F => ok__law_two_sides F B d__law_number)
  have d__law_counts : Df l.prog w K mg base CX0 1 "_law_counts" ["_law_one", "_law_other"] (spCounts K) := df_mk D__law_counts (PySem.W.mg_of X G G__law_counts) (fun _ _ _ _ _ _ us hl => match us, hl with | [_, _], _ => rfl) (fun fd F => ok__law_counts F )
  have d__law_plain : Df l.prog w K mg base CX0 1 "_law_plain" ["_law_sides"] (spPlain) := df_mk D__law_plain (PySem.W.mg_of X G G__law_plain) (fun _ _ _ _ _ _ us hl => match us, hl with | [_], _ => rfl) (fun fd F => ok__law_plain F B)
  have d__law_twins : Df l.prog w K mg base CX0 2 "_law_twins" ["_law_first", "_law_second", "_law_one", "_law_other"] (spLTwins K) := df_mk D__law_twins (PySem.W.mg_of X G G__law_twins) (fun _ _ _ _ _ _ us hl => match us, hl with | [_, _, _, _], _ => rfl) (fun fd F => ok__law_twins F d__law_counts d__law_plain)
  have d__law_says : Df l.prog w K mg base CX0 1 "_law_says" ["_law_said", "_law_due_here"] (spSays) := df_mk D__law_says (PySem.W.mg_of X G G__law_says) (fun _ _ _ _ _ _ us hl => match us, hl with | [_, _], _ => rfl) (fun fd F => ok__law_says F B)
  have d__law_due : Df l.prog w K mg base CX0 3 "_law_due" ["_law_first", "_law_second", "_law_one", "_law_other", "_law_found"] (spDue K C_Twin C_Off) := df_mk D__law_due (PySem.W.mg_of X G G__law_due) (fun _ _ _ _ _ _ us hl => match us, hl with | [_, _, _, _, _], _ => rfl) (fun fd F => ok__law_due F B c_Twin i_Twin i_Off na_Off_total kit_Twin_Twin kit_Off_Twin d__law_counts d__law_plain d__law_twins)
  have d__law_right : Df l.prog w K mg base CX0 4 "_law_right" ["_law_first", "_law_second", "_law_one", "_law_other", "_law_others"] (spRight K) := df_mk D__law_right (PySem.W.mg_of X G G__law_right) (fun _ _ _ _ _ _ us hl => match us, hl with | [_, _, _, _, _], _ => rfl) (fun fd F => ok__law_right F B c_Twin c_Off c_Answer i_Twin i_Off na_Off_total kit_Twin_Twin kit_Off_Twin kit_Off_Off kit_Twin_Off kit_Twin_Answer kit_Off_Answer d_judged md_Twin_shows md_Off_shows d__law_twins d__law_whole d__law_says d__law_due)
  exact ok_law (fun_mk (st := s_law) h1 h2 h3) B c_Twin c_Off i_Twin i_Off kit_Twin_Twin kit_Off_Off d_twins d_judged d__law_die d__law_two_sides d__law_plain d__law_right
end Tw
open PySem PySem.W PyProof.Rows
set_option maxRecDepth 100000 in
set_option maxHeartbeats 0 in
theorem PySem.Challenge.cw_twindice_k04_whole_judged_holds : PySem.Challenge.rw_twindice_k04_whole_judged.Holds := by
  w_on; o_law; k_head; (case hw => w_witness2)
  k_fill
  refine L2.walk_ofB (l := PySem.Challenge.rw_twindice_k04_whole_judged) (n := 63) (k := 19) (x := "_law_script") (CX := fun _ => L2.CX0) (sp := fun w => Tw.spLaw _) rfl (by decide) rfl ⟨rfl, by decide, by decide⟩ (fun w h Y => PySem.W.kIn_of Y) ?F (fun _ _ a ns hl hb _ hS => ⟨a, ns, rfl, hS, hl, fun z hz => Tw.Bd.of_bits (hb z hz), fun _ => rfl⟩) (fun _ _ _ _ _ h => h)
  case F =>
    intro w mg fa h KX G hmg
    have hmg2 : mg "law" = some (.ref fa) := hmg
    clear hmg
    refine' Tw.all_mk KX G hmg2 ?G_is_whole ?D_is_whole ?G_check_sides ?D_check_sides ?G_check_die ?D_check_die ?G_counts_of ?D_counts_of ?G_how_often ?D_how_often ?G_first_off ?D_first_off ?G_times ?D_times ?G_over ?D_over ?G_raised ?D_raised ?G_die_of ?D_die_of ?G_least_factor ?D_least_factor ?G_parts_of ?D_parts_of ?G_dealt ?D_dealt ?G_twins_of ?D_twins_of ?G_twins ?D_twins ?G_judged ?D_judged ?G__law_number ?D__law_number ?G__law_whole ?D__law_whole ?G__law_die ?D__law_die ?G__law_two_sides ?D__law_two_sides ?G__law_counts ?D__law_counts ?G__law_plain ?D__law_plain ?G__law_twins ?D__law_twins ?G__law_says ?D__law_says ?G__law_due ?D__law_due ?G__law_right ?D__law_right ?G_law ?D_law ?g_BadDie ?x_BadDie ?k_BadDie ?b_BadDie ?t_BadDie ?g_BadSides ?x_BadSides ?k_BadSides ?b_BadSides ?t_BadSides ?m_MOST_SIDES ?m_MOST_NUMBER ?m_MOST_PLAIN ?z_isinstance ?z_int ?z_bool ?z_list ?z_tuple ?z_len ?z_all ?z_any ?z_sum ?z_sorted ?z_range ?z_enumerate ?z_max ?z_min ?z_abs ?z_dict ?z_str ?z_set ?g_Answer ?g_Twin ?g_Off ?pg_Twin ?hd_Twin ?po_Twin ?sa_Twin ?mk_Twin ?in_Twin ?kp_Twin ?at_Twin_shows ?fn_Twin_shows ?D_Twin_shows ?ha_Twin ?hm_Twin ?sn_Twin_Off ?tn_Twin_Off ?kit_Twin_Answer ?kit_Twin_Twin ?pg_Off ?hd_Off ?po_Off ?sa_Off ?na_Off_total ?mk_Off ?at_Off___init__ ?fn_Off___init__ ?D_Off___init__ ?at_Off_shows ?fn_Off_shows ?D_Off_shows ?kp_Off ?ha_Off ?hm_Off ?sn_Off_Twin ?tn_Off_Twin ?kit_Off_Answer ?kit_Off_Off ?oc_get ?oc_takes
    (case G_is_whole => k_is)
    (case D_is_whole => (refine' Tw.defIn_of ?l ?c ?k; (case l => k_is); (case c => k_is); (case k => k_is)))
    (case G_check_sides => k_is)
    (case D_check_sides => (refine' Tw.defIn_of ?l ?c ?k; (case l => k_is); (case c => k_is); (case k => k_is)))
    (case G_check_die => k_is)
    (case D_check_die => (refine' Tw.defIn_of ?l ?c ?k; (case l => k_is); (case c => k_is); (case k => k_is)))
    (case G_counts_of => k_is)
    (case D_counts_of => (refine' Tw.defIn_of ?l ?c ?k; (case l => k_is); (case c => k_is); (case k => k_is)))
    (case G_how_often => k_is)
    (case D_how_often => (refine' Tw.defIn_of ?l ?c ?k; (case l => k_is); (case c => k_is); (case k => k_is)))
    (case G_first_off => k_is)
    (case D_first_off => (refine' Tw.defIn_of ?l ?c ?k; (case l => k_is); (case c => k_is); (case k => k_is)))
    (case G_times => k_is)
    (case D_times => (refine' Tw.defIn_of ?l ?c ?k; (case l => k_is); (case c => k_is); (case k => k_is)))
    (case G_over => k_is)
    (case D_over => (refine' Tw.defIn_of ?l ?c ?k; (case l => k_is); (case c => k_is); (case k => k_is)))
    (case G_raised => k_is)
    (case D_raised => (refine' Tw.defIn_of ?l ?c ?k; (case l => k_is); (case c => k_is); (case k => k_is)))
    (case G_die_of => k_is)
    (case D_die_of => (refine' Tw.defIn_of ?l ?c ?k; (case l => k_is); (case c => k_is); (case k => k_is)))
    (case G_least_factor => k_is)
    (case D_least_factor => (refine' Tw.defIn_of ?l ?c ?k; (case l => k_is); (case c => k_is); (case k => k_is)))
    (case G_parts_of => k_is)
    (case D_parts_of => (refine' Tw.defIn_of ?l ?c ?k; (case l => k_is); (case c => k_is); (case k => k_is)))
    (case G_dealt => k_is)
    (case D_dealt => (refine' Tw.defIn_of ?l ?c ?k; (case l => k_is); (case c => k_is); (case k => k_is)))
    (case G_twins_of => k_is)
    (case D_twins_of => (refine' Tw.defIn_of ?l ?c ?k; (case l => k_is); (case c => k_is); (case k => k_is)))
    (case G_twins => k_is)
    (case D_twins => (refine' Tw.defIn_of ?l ?c ?k; (case l => k_is); (case c => k_is); (case k => k_is)))
    (case G_judged => k_is)
    (case D_judged => (refine' Tw.defIn_of ?l ?c ?k; (case l => k_is); (case c => k_is); (case k => k_is)))
    (case G__law_number => k_is)
    (case D__law_number => (refine' Tw.defIn_of ?l ?c ?k; (case l => k_is); (case c => k_is); (case k => k_is)))
    (case G__law_whole => k_is)
    (case D__law_whole => (refine' Tw.defIn_of ?l ?c ?k; (case l => k_is); (case c => k_is); (case k => k_is)))
    (case G__law_die => k_is)
    (case D__law_die => (refine' Tw.defIn_of ?l ?c ?k; (case l => k_is); (case c => k_is); (case k => k_is)))
    (case G__law_two_sides => k_is)
    (case D__law_two_sides => (refine' Tw.defIn_of ?l ?c ?k; (case l => k_is); (case c => k_is); (case k => k_is)))
    (case G__law_counts => k_is)
    (case D__law_counts => (refine' Tw.defIn_of ?l ?c ?k; (case l => k_is); (case c => k_is); (case k => k_is)))
    (case G__law_plain => k_is)
    (case D__law_plain => (refine' Tw.defIn_of ?l ?c ?k; (case l => k_is); (case c => k_is); (case k => k_is)))
    (case G__law_twins => k_is)
    (case D__law_twins => (refine' Tw.defIn_of ?l ?c ?k; (case l => k_is); (case c => k_is); (case k => k_is)))
    (case G__law_says => k_is)
    (case D__law_says => (refine' Tw.defIn_of ?l ?c ?k; (case l => k_is); (case c => k_is); (case k => k_is)))
    (case G__law_due => k_is)
    (case D__law_due => (refine' Tw.defIn_of ?l ?c ?k; (case l => k_is); (case c => k_is); (case k => k_is)))
    (case G__law_right => k_is)
    (case D__law_right => (refine' Tw.defIn_of ?l ?c ?k; (case l => k_is); (case c => k_is); (case k => k_is)))
    (case G_law => k_is)
    (case D_law => (refine' Tw.defIn_of ?l ?c ?k; (case l => k_is); (case c => k_is); (case k => k_is)))
    (case g_BadDie => k_is)
    (case x_BadDie => k_exc)
    (case k_BadDie => k_is)
    (case b_BadDie => k_is)
    (case t_BadDie => k_is)
    (case g_BadSides => k_is)
    (case x_BadSides => k_exc)
    (case k_BadSides => k_is)
    (case b_BadSides => k_is)
    (case t_BadSides => k_is)
    (case m_MOST_SIDES => (refine' Tw.const_of ?u; (case u => k_is)))
    (case m_MOST_NUMBER => (refine' Tw.const_of ?u; (case u => k_is)))
    (case m_MOST_PLAIN => (refine' Tw.const_of ?u; (case u => k_is)))
    (case z_isinstance => k_is)
    (case z_int => k_is)
    (case z_bool => k_is)
    (case z_list => k_is)
    (case z_tuple => k_is)
    (case z_len => k_is)
    (case z_all => k_is)
    (case z_any => k_is)
    (case z_sum => k_is)
    (case z_sorted => k_is)
    (case z_range => k_is)
    (case z_enumerate => k_is)
    (case z_max => k_is)
    (case z_min => k_is)
    (case z_abs => k_is)
    (case z_dict => k_is)
    (case z_str => k_is)
    (case z_set => k_is)
    (case g_Answer => k_is)
    (case g_Twin => k_is)
    (case g_Off => k_is)
    (case pg_Twin => k_is)
    (case hd_Twin => k_is)
    (case po_Twin => k_is)
    (case sa_Twin => k_is)
    (case mk_Twin => k_is)
    (case in_Twin => k_is)
    (case kp_Twin => k_is)
    (case at_Twin_shows => k_is)
    (case fn_Twin_shows => k_is)
    (case D_Twin_shows => (refine' Tw.defIn_of ?l ?c ?k; (case l => k_is); (case c => k_is); (case k => k_is)))
    (case ha_Twin => k_is)
    (case hm_Twin => k_is)
    (case sn_Twin_Off => k_is)
    (case tn_Twin_Off => k_is)
    (case kit_Twin_Answer => (refine' Tw.kit_own ?h ?t ?s; (case h => k_is); (case t => k_is); (case s => k_is)))
    (case kit_Twin_Twin => (refine' Tw.kit_own ?h ?t ?s; (case h => k_is); (case t => k_is); (case s => k_is)))
    (case pg_Off => k_is)
    (case hd_Off => k_is)
    (case po_Off => k_is)
    (case sa_Off => k_is)
    (case na_Off_total => k_is)
    (case mk_Off => k_is)
    (case at_Off___init__ => k_is)
    (case fn_Off___init__ => k_is)
    (case D_Off___init__ => (refine' Tw.defIn_of ?l ?c ?k; (case l => k_is); (case c => k_is); (case k => k_is)))
    (case at_Off_shows => k_is)
    (case fn_Off_shows => k_is)
    (case D_Off_shows => (refine' Tw.defIn_of ?l ?c ?k; (case l => k_is); (case c => k_is); (case k => k_is)))
    (case kp_Off => k_is)
    (case ha_Off => k_is)
    (case hm_Off => k_is)
    (case sn_Off_Twin => k_is)
    (case tn_Off_Twin => k_is)
    (case kit_Off_Answer => (refine' Tw.kit_own ?h ?t ?s; (case h => k_is); (case t => k_is); (case s => k_is)))
    (case kit_Off_Off => (refine' Tw.kit_own ?h ?t ?s; (case h => k_is); (case t => k_is); (case s => k_is)))
    (case oc_get => k_is)
    (case oc_takes => k_is)


