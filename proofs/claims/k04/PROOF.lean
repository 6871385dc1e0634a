import PyProof.Rows.All
import Wide.All
import OpenK.AllK
import Wide.FinOn
import KE.KStateDown
import Lean
import HandS.ForMost
import HandS.Exc
import HandS.ExcOwn
import HandS.ExcInit
import HandS.TryOnly
import HandS.TryMany
import HandS.More
import HandS.Words
import HandS.WordsList
import HandS.WordsExc
import HandS.Defaults
import HandS.MakeKw
import HandS.Wide
import HandS.IsInst
import HandS.SetKeys
import HandS.Strs
import HandS.Conv
import HandS.TupAny
import HandS.Flow
import HandS.SortInts
import HandS.Walk
import HandS.Evl
import HandS.EndBits
import HandS.Head0
import HandS.Head1
import HandS.Head2
import HandS.HeadEnd
import HandS.HeadHook1
import HandS.HeadHook2
import KE.GoesNew
import KE.KUnpackStar
import KE.DataMinMax
import HandS.SortKw
import HandS.SortOrd
import HandS.DictEq
import HandS.TupMul
import HandS.ClsMeth
import HandS.HeadHook3
import HandS.Lambda
import HandS.ExcField
import HandS.EndTab
import HandS.Zip
import HandS.FStr
import HandS.RaiseMore
import HandS.Steps
import HandS.Deep
import HandS.TupSets
import HandS.DictComp
import KE.KIndexOf
import HandS.DictTup
import HandS.Finally
import HandS.OwnEq
import HandS.Style
import KE.KDictKeyed
import HandS.TupLen
import HandS.WordsDict
import KE.KDictWalk
import KE.KDictLaw
import HandS.Small
import HandS.SetBool
import HandS.Comp
import PySem.Challenge.RW_namecote_k04_rows_with_names_told_anew
set_option Elab.async false
set_option linter.all false
set_option maxRecDepth 100000
set_option maxHeartbeats 4000000
namespace Nc
open PySem PySem.Spec PyProof.Rows L2
/-! ### stepping a reading -/
section
variable {K : PySem.W.Frag} {σ : L2.St} {H : Hp} {ta tb tc te tx : TE} {x y z v : V} {r r' : R2} {Q : VK} {D : Ends} {t u : TS} {tr : TA}
theorem w_iteT {A B : Prop} {b : Bool} (e : b = true) (h : A) : if b = true then A else B := by rw [if_pos e]; exact h
theorem w_iteF {A B : Prop} {b : Bool} (e : b = false) (h : B) : if b = true then A else B := by rw [if_neg (by rw [e]; exact Bool.false_ne_true)]; exact h
theorem w_iteNT {A B : Prop} (h : B) : if (!true) = true then A else B := h
theorem w_iteNF {A B : Prop} (h : A) : if (!false) = true then A else B := h
theorem w_seq (h : t { D with nx := u D } σ H) : tSeq t u D σ H := h
theorem w_next (h : D.nx σ H) : tNext D σ H := h
theorem w_asg {g : TG} (h : te σ H fun x H1 => g x σ H1 D.nx) : tAsg te g D σ H := h
theorem w_gName {i : Nat} {Q : L2.St → Hp → Prop} (h : Q (σ.set i (some v)) H) : gName i v σ H Q := h
theorem w_ret (h : te σ H D.rt) : tRet te D σ H := h
theorem w_retN (h : D.rt .non H) : tRetN D σ H := h
theorem w_drop (h : te σ H fun _ H1 => D.nx σ H1) : tDrop te D σ H := h
theorem w_if {c : TT} (h : c σ H fun b H1 => if b = true then t D σ H1 else u D σ H1) : tIfS c t u D σ H := h
theorem w_ifE {c : TT} (h : c σ H fun b H1 => if b = true then ta σ H1 Q else tb σ H1 Q) : tIf c ta tb σ H Q := h
theorem w_var {i : Nat} (h : σ[i]? = some (some v)) (q : Q v H) : tVar i σ H Q := ⟨v, h, q⟩
theorem w_c (q : Q v H) : tC v σ H Q := q
theorem w_op (h : ta σ H fun x H1 => tb σ H1 fun y H2 => r x y H2 Q) : tOp r ta tb σ H Q := h
theorem w_un {r : V → Hp → VK → Prop} (h : ta σ H fun x H1 => r x H1 Q) : tUn r ta σ H Q := h
theorem w_cons {Q : List V → Hp → Prop} (h : ta σ H fun x H1 => tr σ H1 fun xs H2 => Q (x :: xs) H2) : tCons ta tr σ H Q := h
theorem w_nil {Q : List V → Hp → Prop} (h : Q [] H) : tNil σ H Q := h
theorem w_CB {r : List V → Hp → VK → Prop} (h : tr σ H fun vs H1 => r vs H1 Q) : tCB r tr σ H Q := h
theorem w_call {sp : Sp} {dvs : List V} {E : XK} (h : tr σ H fun vs H1 => sp (vs ++ dvs) H1 Q E) : tCall sp dvs E tr σ H Q := h
theorem w_tB {Q : Bool → Hp → Prop} (h : te σ H fun x H1 => ∃ c, x = .bl c ∧ Q c H1) : tB te σ H Q := h
theorem w_tTest {Q : Bool → Hp → Prop} (h : te σ H fun x H1 => ∃ c, x = .bl c ∧ Q c H1) : tTest te σ H Q := h
theorem w_bl {b : Bool} {P : Bool → Prop} (h : P b) : ∃ c, V.bl b = .bl c ∧ P c := ⟨b, rfl, h⟩
theorem w_tNot {t : TT} {Q : Bool → Hp → Prop} (h : t σ H fun c H1 => Q (!c) H1) : tNot t σ H Q := h
theorem w_tAnd {t u : TT} {Q : Bool → Hp → Prop} (h : t σ H fun c H1 => if c = true then u σ H1 Q else Q false H1) : tAnd t u σ H Q := h
theorem w_tOr {t u : TT} {Q : Bool → Hp → Prop} (h : t σ H fun c H1 => if c = true then Q true H1 else u σ H1 Q) : tOr t u σ H Q := h
theorem w_andV (h : ta σ H fun x H1 => ∃ c, x = .bl c ∧ if c = true then tb σ H1 Q else Q (.bl false) H1) : tAndV ta tb σ H Q := h
theorem w_orV (h : ta σ H fun x H1 => ∃ c, x = .bl c ∧ if c = true then Q (.bl true) H1 else tb σ H1 Q) : tOrV ta tb σ H Q := h
theorem w_notV (h : ta σ H fun x H1 => ∃ c, x = .bl c ∧ Q (.bl (!c)) H1) : tNotV ta σ H Q := h
theorem w_chain (h : ta σ H fun x H1 => tb σ H1 fun y H2 => r x y H2 fun z H3 => ∃ k, z = .bl k ∧ (if k = true then tc σ H3 fun w' H4 => r' y w' H4 Q else Q (.bl false) H3)) : tChain r r' ta tb tc σ H Q := h
theorem same_new {H : Hp} {p : Addr} {o : HO} (h : H p = none) : Same H (upd H p o) := fun a u e => by
  rw [upd_ne (ne_of_none e h)]; exact e
def newO (o : HO) (H : Hp) (Q : VK) : Prop := ∀ p, H p = none → Q (.ref p) (upd H p o)
def newL (xs : List V) (H : Hp) (Q : VK) : Prop := xs.length ≤ sizeLine ∧ newO (.lst xs) H Q
def newT (xs : List V) (H : Hp) (Q : VK) : Prop := xs.length ≤ sizeLine ∧ newO (.tup xs) H Q
theorem w_tup (h : tr σ H fun xs H1 => newT xs H1 Q) : tTup tr σ H Q := h
theorem w_lst (h : tr σ H fun xs H1 => newL xs H1 Q) : tLst tr σ H Q := h
/-- a new object: its address, the heap behind -/
theorem w_newO {o : HO} (q : ∀ p H', H p = none → Same H H' → H' p = some o → Q (.ref p) H') : newO o H Q := fun p hp => q p _ hp (same_new hp) upd_same
theorem w_newL {xs : List V} (c : xs.length ≤ sizeLine) (q : ∀ p H', H p = none → Same H H' → H' p = some (.lst xs) → Q (.ref p) H') : newL xs H Q := ⟨c, w_newO q⟩
theorem w_slL {a : Addr} {xs : List V} {lo hi : Option Int} (h : SqL K H a xs) (q : ∀ p H', H p = none → Same H H' → H' p = some (.lst (cutV xs lo hi)) → Q (.ref p) H') : rSlL K (.ref a) lo hi H Q := ⟨a, xs, rfl, h, w_newO q⟩
def rListOf (K : PySem.W.Frag) : List V → Hp → VK → Prop := fun xs H Q => ∃ p ys, xs = [.ref p] ∧ (SqL K H p ys ∨ SqT K H p ys) ∧ newO (.lst ys) H Q
theorem w_listOf {a : Addr} {xs : List V} (h : SqL K H a xs ∨ SqT K H a xs) (q : ∀ p H', H p = none → Same H H' → H' p = some (.lst xs) → Q (.ref p) H') : rListOf K [.ref a] H Q := ⟨a, xs, rfl, h, w_newO q⟩
def rListText : List V → Hp → VK → Prop := fun xs H Q => ∃ z : Str, xs = [.str z] ∧ z.length ≤ sizeLine ∧ newO (.lst (z.cps.toList.map fun c => V.str ⟨#[c]⟩)) H Q
def rLen (K : PySem.W.Frag) : List V → Hp → VK → Prop := fun xs H Q => ∃ p ys, xs = [.ref p] ∧ (SqL K H p ys ∨ SqT K H p ys) ∧ Q (.int ys.length) H
theorem w_len {p : Addr} {xs : List V} (h : SqL K H p xs) (q : Q (.int xs.length) H) : rLen K [V.ref p] H Q := ⟨p, xs, rfl, .inl h, q⟩
theorem w_lenT {p : Addr} {xs : List V} (h : SqT K H p xs) (q : Q (.int xs.length) H) : rLen K [V.ref p] H Q := ⟨p, xs, rfl, .inr h, q⟩
def rLenStr : List V → Hp → VK → Prop := fun xs H Q => ∃ z : Str, xs = [.str z] ∧ z.length ≤ sizeLine ∧ Q (.int z.length) H
theorem w_lenStr {z : Str} (h : z.length ≤ sizeLine) (q : Q (.int z.length) H) : rLenStr [.str z] H Q := ⟨z, rfl, h, q⟩
theorem w_all {a : Addr} {bs : List Bool} (h : SqL K H a (bs.map V.bl)) (q : Q (.bl (bs.all id)) H) : rAll K [.ref a] H Q := ⟨a, bs, rfl, h, q⟩
theorem w_any {a : Addr} {bs : List Bool} (h : SqL K H a (bs.map V.bl)) (q : Q (.bl (bs.any id)) H) : rAny K [.ref a] H Q := ⟨a, bs, rfl, h, q⟩
def rInSign : R2 := fun x y H Q => ∃ (c : Nat) (z : Str), x = .str ⟨#[c]⟩ ∧ y = .str z ∧ Q (.bl (decide (c ∈ z.cps.toList))) H
theorem w_inSign {c : Nat} {z : Str} (q : Q (.bl (decide (c ∈ z.cps.toList))) H) : rInSign (.str ⟨#[c]⟩) (.str z) H Q := ⟨c, z, rfl, rfl, q⟩
def rNotInSign : R2 := fun x y H Q => ∃ (c : Nat) (z : Str), x = .str ⟨#[c]⟩ ∧ y = .str z ∧ Q (.bl (!decide (c ∈ z.cps.toList))) H
theorem w_notInSign {c : Nat} {z : Str} (q : Q (.bl (!decide (c ∈ z.cps.toList))) H) : rNotInSign (.str ⟨#[c]⟩) (.str z) H Q := ⟨c, z, rfl, rfl, q⟩
theorem w_BM {T : String} {r : V → List V → Hp → VK → Prop} (h : ta σ H fun x H1 => tyV K T x H1 ∧ tr σ H1 fun xs H2 => r x xs H2 Q) : tBM K T r ta tr σ H Q := h
theorem w_BM0 {T : String} {r : V → List V → Hp → VK → Prop} (h : ta σ H fun x H1 => tyV K T x H1 ∧ r x [] H1 Q) : tBM0 K T r ta σ H Q := h
theorem w_I0 {g : Int → Int → V} {i j : Int} (q : Q (g i j) H) : rI0 g (.int i) (.int j) H Q := ⟨i, j, rfl, rfl, q⟩
theorem w_I {C : Int → Int → Prop} {g : Int → Int → V} {i j : Int} (c : C i j) (q : Q (g i j) H) : rI C g (.int i) (.int j) H Q := ⟨i, j, rfl, rfl, c, q⟩
theorem w_Eq (hs : scal x y = true) (q : Q (.bl (decide (x = y))) H) : rEq x y H Q := ⟨hs, q⟩
theorem w_Ne (hs : scal x y = true) (q : Q (.bl (!decide (x = y))) H) : rNe x y H Q := ⟨hs, q⟩
theorem w_ixL {p : Addr} {xs : List V} {i : Int} (h : SqL K H p xs) (ha : atI xs i = some v) (q : Q v H) : rIxL K (.ref p) (.int i) H Q := ⟨p, xs, i, v, rfl, rfl, h, ha, q⟩
theorem w_sl {r : V → Option Int → Option Int → Hp → VK → Prop} {tl th : TO} (h : te σ H fun x H1 => tl σ H1 fun l H2 => th σ H2 fun u H3 => r x l u H3 Q) : tSl r te tl th σ H Q := h
theorem w_noPart {Q : Option Int → Hp → Prop} (h : Q none H) : tNoPart σ H Q := h
theorem w_part {Q : Option Int → Hp → Prop} (h : te σ H fun x H1 => ∃ i, x = .int i ∧ Q (some i) H1) : tPart te σ H Q := h
theorem w_int {i : Int} {P : Int → Prop} (h : P i) : ∃ j, V.int i = .int j ∧ P j := ⟨i, rfl, h⟩
end

theorem w_gSub {to ti : TE} {t : TSet} {v : V} {σ : L2.St} {H : Hp} {Q : L2.St → Hp → Prop} (h : to σ H fun o H1 => ti σ H1 fun i H2 => t o i v H2 fun H3 => Q σ H3) : gSub to ti t v σ H Q := h
theorem w_par {i j : Nat} {ta : TA} {D : Ends} {σ : L2.St} {H : Hp} (h : ta σ H fun vs H1 => ∃ v w, vs = [v, w] ∧ D.nx ((σ.set i (some v)).set j (some w)) H1) : tPar i j ta D σ H := h
theorem w_yes {σ : L2.St} {H : Hp} {Q : Bool → Hp → Prop} (h : Q true H) : tYes σ H Q := h
/-- the ways through t joined: J ahead of what follows -/
theorem w_seqJ {t u : TS} {D : Ends} {σ : L2.St} {H : Hp} (J : L2.St → Hp → Prop) (hu : ∀ σ H, J σ H → u D σ H) (h : ∀ N : L2.St → Hp → Prop, (∀ σ H, J σ H → N σ H) → t { D with nx := N } σ H) : tSeq t u D σ H := h (u D) hu
/-! ### what stands behind the top, by names -/
section
variable {X : Cx} {x : Str} {pos : Pos} {v : V} {f : Addr} {n : String}
theorem pe_gv (h : ∃ u, X.mg x = some u ∧ RelV v u) (hg : Gl X x) (hd : (x == ("__debug__" : Str)) = false := by decide) : PE X (.Name x pos) (tC v) := by
  obtain ⟨u, h1, h2⟩ := h
  exact pe_glob hg h1 h2 hd
theorem pe_gdef (h : X.mg x = some (.ref f)) (hg : Gl X x) (hd : (x == ("__debug__" : Str)) = false := by decide) : PE X (.Name x pos) (tC (.ref f)) := pe_glob hg h rfl hd
theorem pe_bty (hg : Gl X x) (hm : X.mg x = none) (hv : bootBuiltins x = some (.type n)) (hn : x ≠ "__name__" := by decide) (hd : (x == ("__debug__" : Str)) = false := by decide) : PE X (.Name x pos) (tC (.ty n)) := pe_bltn hg hm hv rfl hn hd
end
def fdF (K : PySem.W.Frag) (p : Str × Option Str) : FuncData := match K.lookup (He.fAd K p) with
  | some ⟨_, _, .func fd, _⟩ => fd
  | _ => default
theorem funD_fd {K : PySem.W.Frag} {p : Str × Option Str} {x qual : Str} {params : Arguments} {body : List Stmt} {scope : Scope} {dvs : List V} {kws : List (Str × V)} (h : ∃ fd, FunD K x qual params body scope dvs kws (He.fAd K p) fd) :
    FunD K x qual params body scope dvs kws (He.fAd K p) (fdF K p) := by
  obtain ⟨fd, F⟩ := h
  obtain ⟨oc, od, dV, kV, doc, pm, an, cdv, ct, osl, e, lk, r⟩ := F.ex
  have e2 : fdF K p = fd := by unfold fdF; rw [lk]
  rw [e2]
  exact F
theorem funD_bindsD {K : PySem.W.Frag} {x qual : Str} {params : Arguments} {body : List Stmt} {scope : Scope} {dvs : List V} {kws : List (Str × V)} {f : Addr} {fd : FuncData} {ps : List Str} (F : FunD K x qual params body scope dvs kws f fd) (hd : dvs ≠ [])
    (h : ∀ (T : Addr) (kV doc pm : Value) (an : Option Addr) (cdv ct : Value) (us : List Value), us.length = ps.length →
      ∃ k, bindArgs (PySem.W.fnOf x qual params body scope (.ref T) kV doc pm an cdv ct) ⟨us, []⟩ = seqItems? (.ref T) >>= k ∧ ∀ its : List Value, its.length = dvs.length → k (some its.toArray) = pure (ps.zip us)) : Binds K fd ps [] := by
  obtain ⟨ds, v, b⟩ := F.binds1 (ps := ps) ps.length dvs.length hd (by simp) fun T kV doc pm an cdv ct us its h1 h2 => by
    obtain ⟨k, e1, e2⟩ := h T kV doc pm an cdv ct us h1
    refine ⟨k, e1, ?_⟩
    rw [e2 its h2]
    congr 1
    rw [← h2, List.drop_length, List.append_nil]
  rw [List.drop_length] at v
  cases v
  exact b
/-! ### heaps but for one address -/
theorem del_get {H H' : Hp} {p l : Addr} (e : del H' p = del H p) (ne : l ≠ p) : H' l = H l := by
  have := congrFun e l
  rwa [del_ne ne, del_ne ne] at this
theorem del_upd {H : Hp} {p : Addr} {o : HO} : del (upd H p o) p = del H p := by
  funext a
  by_cases h : a = p
  · rw [h, del_same, del_same]
  · rw [del_ne h, del_ne h, upd_ne h]
theorem same_del {H : Hp} {p : Addr} : Same (del H p) H := fun a o e => by
  by_cases h : a = p
  · rw [h, del_same] at e; cases e
  · rwa [del_ne h] at e
theorem Same.del {H H' : Hp} (s : Same H H') (p : Addr) : Same (L2.del H p) (L2.del H' p) := fun a o e => by
  by_cases h : a = p
  · rw [h, del_same] at e; cases e
  · rw [del_ne h] at e ⊢; exact s a o e
/-- what H does not know may change -/
theorem Same.mut {H H' : Hp} {p : Addr} {o : HO} (e : Same H H') (h : H p = none) : Same H (upd H' p o) := fun a u ha => by
  rw [upd_ne (ne_of_none ha h)]; exact e a u ha
theorem Same.tup {K : PySem.W.Frag} {H H' : Hp} {a : Addr} {xs : List V} (e : Same H H') (h : SqT K H a xs) : SqT K H' a xs := Evl.ex_t e h
mutual
theorem Same.dp {K : PySem.W.Frag} {H H' : Hp} (e : Same H H') : ∀ {v : V} {d : PyData}, Dp K H v d → Dp K H' v d
  | _, _, .non => .non
  | _, _, .bl b => .bl b
  | _, _, .int i => .int i
  | _, _, .str x => .str x
  | _, _, .lst h a => .lst (e.seq h) (Same.dpAll e a)
  | _, _, .tup h a => .tup (Same.tup e h) (Same.dpAll e a)
theorem Same.dpAll {K : PySem.W.Frag} {H H' : Hp} (e : Same H H') : ∀ {vs : List V} {ds : List PyData}, DpAll K H vs ds → DpAll K H' vs ds
  | _, _, .nil => .nil
  | _, _, .cons h a => .cons (Same.dp e h) (Same.dpAll e a)
end
/-! what has no lists in it stays when a list, a dict is written -/
theorem w_setL {p : Addr} {xs : List V} {k : Int} {j : Nat} {v : V} {H : Hp} {Q : Hp → Prop} (h : H p = some (.lst xs)) (hj : ixN xs.length k = some j) (q : ∀ H', H' p = some (.lst (xs.set j v)) → del H' p = del H p → Q H') : rSetL (.ref p) (.int k) v H Q :=
  ⟨p, xs, k, j, rfl, rfl, h, hj, q _ upd_same del_upd⟩
theorem cutV_to {xs : List V} {n : Nat} : cutV xs none (some (n : Int)) = xs.take n := by
  unfold cutV
  rw [HT.sIx_none, HT.sIx_nat, List.drop_zero, Nat.sub_zero, ← List.take_eq_take_min]
/-! ### the drawing of a law: the bag -/
def bagL (l : Addr) (i : Nat) (h s n : Int) : List V := [.ref l, .int i, .int h, .int s, .int n]
/-- a bag at b: its script's copy at l -/
def BagX (l : Addr) (ns : List Int) (H : Hp) (b : Addr) : Prop := ∃ (i : Nat) (h s n : Int), H b = some (.lst (bagL l i h s n)) ∧ H l = some (.lst (ns.map V.int)) ∧ l ≠ b ∧ i ≤ ns.length ∧ 0 ≤ s ∧ s < 2147483399
theorem BagX.at {l b : Addr} {ns : List Int} {H H' : Hp} (h : BagX l ns H b) (e1 : H' b = H b) (e2 : H' l = H l) : BagX l ns H' b := by
  obtain ⟨i, h, s, n, h1, h2, r⟩ := h
  exact ⟨i, h, s, n, e1.trans h1, e2.trans h2, r⟩
theorem BagX.same {l b : Addr} {ns : List Int} {H H' : Hp} (h : BagX l ns H b) (e : Same H H') : BagX l ns H' b := by
  obtain ⟨i, h, s, n, h1, h2, r⟩ := h
  exact ⟨i, h, s, n, e _ _ h1, e _ _ h2, r⟩
theorem BagX.ne {l b : Addr} {ns : List Int} {H : Hp} (h : BagX l ns H b) : l ≠ b := by
  obtain ⟨i, h, s, n, h1, h2, r, _⟩ := h
  exact r
theorem BagX.here {l b : Addr} {ns : List Int} {H : Hp} (h : BagX l ns H b) : ∃ o, H b = some o := by
  obtain ⟨i, h, s, n, h1, _⟩ := h
  exact ⟨_, h1⟩
theorem BagX.isLst {l b : Addr} {ns : List Int} {H : Hp} (h : BagX l ns H b) : ∃ xs, H b = some (.lst xs) := by
  obtain ⟨i, h, s, n, h1, _⟩ := h
  exact ⟨_, h1⟩
theorem BagX.someL {l b : Addr} {ns : List Int} {H : Hp} (h : BagX l ns H b) : H l = some (.lst (ns.map V.int)) := by
  obtain ⟨i, h, s, n, _, h1, _⟩ := h
  exact h1
/-- an object that does not stand is not the bag's -/
theorem BagX.neB {l b p : Addr} {ns : List Int} {H : Hp} (h : BagX l ns H b) (hp : H p = none) : p ≠ b ∧ p ≠ l :=
  let ⟨_, h1⟩ := h.here
  ⟨(ne_of_none h1 hp).symm, (ne_of_none h.someL hp).symm⟩
/-- another object was written -/
theorem BagX.wr {l b p : Addr} {ns : List Int} {H H' : Hp} (h : BagX l ns H b) (e : del H' p = del H p) (n1 : p ≠ b) (n2 : p ≠ l) : BagX l ns H' b := h.at (del_get e n1.symm) (del_get e n2.symm)
def sp_bag (K : PySem.W.Frag) : Sp := fun vs H Q _ => ∃ (a : Addr) (ns : List Int), vs = [.ref a] ∧ SqL K H a (ns.map V.int) ∧ ns.length ≤ 63 ∧
  ∀ b l H', Same H H' → H b = none → BagX l ns H' b → Q (.ref b) H'
/-- a draw: any number below top -/
def sp_pick : Sp := fun vs H Q _ => ∃ (b : Addr) (top : Int) (l : Addr) (ns : List Int), vs = [.ref b, .int top] ∧ BagX l ns H b ∧ 1 ≤ top ∧ top.natAbs.log2 < 9000 ∧
  ∀ (d : Int) H', 0 ≤ d → d < top → BagX l ns H' b → del H' b = del H b → Q (.int d) H'
theorem log_small {n : Int} (h : n.natAbs < 2 ^ 8000) : n.natAbs.log2 < 9000 := Nat.lt_of_lt_of_le (PySem.Flt.log2_lt_of (by decide) h) (by decide)
theorem log_le {n : Int} (h0 : 0 ≤ n) (h : n ≤ 10 ^ 30) : n.natAbs.log2 < 9000 := by
  refine log_small (Nat.lt_of_le_of_lt (show n.natAbs ≤ 10 ^ 30 by omega) ?_)
  exact Nat.lt_of_lt_of_le (show (10 : Nat) ^ 30 < 2 ^ 100 by decide) (Nat.pow_le_pow_right (by decide) (by decide))
theorem same_of_del {H H' : Hp} {b : Addr} (e : del H' b = del H b) : Same (del H b) (del H' b) := by rw [e]; exact Same.refl _
/-- a fresh object behind, with all but b as it was -/
theorem same_b_of {H H' : Hp} {b : Addr} (e : Same H H') : Same (del H b) (del H' b) := Same.del e b
theorem same_wr {H0 H H' : Hp} {b p : Addr} (e : Same (del H0 b) (del H b)) (hp : del H0 b p = none) (w : del H' p = del H p) : Same (del H0 b) (del H' b) := fun a o h => by
  have h1 := e a o h
  by_cases hb : a = b
  · rw [hb, del_same] at h1; cases h1
  · rw [del_ne hb] at h1 ⊢
    rw [del_get w (ne_of_none h hp)]
    exact h1
/-! ### rules of one's own -/
section
variable {X : Cx}
/-- list(text) -/
theorem call_list_text (hc : X.calm = true) : CallR X (.type "list") rListText := by
  intro pins s σ H xs us Q I r h
  obtain ⟨z, rfl, hz, q⟩ := h
  obtain ⟨u, rfl, rx⟩ := vals1 r
  obtain ⟨t, rfl⟩ := rx
  refine call_list_str (I.ok.hd hc) z t (fun h' tk acc' c' hk hS hacc => ?_) hz
  obtain ⟨h1, h2⟩ := hacc
  have hv : Vals (z.cps.toList.map fun c => V.str ⟨#[c]⟩) acc'.toList := by
    have aux : ∀ (l : List Nat) (m : List Value), l.length = m.length → (∀ (j : Nat) c v, l[j]? = some c → m[j]? = some v → ∃ u, v = Value.str ⟨#[c]⟩ u) → Vals (l.map fun c => V.str ⟨#[c]⟩) m := by
      intro l
      induction l with
      | nil => intro m hl _; cases m with | nil => exact .nil | cons _ _ => simp at hl
      | cons c l ih =>
        intro m hl hf
        cases m with
        | nil => simp at hl
        | cons v m =>
          exact .cons (hf 0 c v rfl rfl) (ih m (by simpa using hl) fun j c' v' e1 e2 => hf (j + 1) c' v' (by simpa using e1) (by simpa using e2))
    refine aux _ _ (by simp [h1]) fun j c v e1 e2 => ?_
    obtain ⟨c', u, e3, e4⟩ := h2 j v (by simpa using e2)
    have e5 : z.cps[j]? = some c := by simpa using e1
    rw [e3] at e5
    cases e5
    exact ⟨u, e4⟩
  exact ⟨.ref s.heap.objs.size, _, I.laid (t' := tk) hk (Nat.le_refl _) (show ObjOk X.prog X.w _ h' _ (.lst _) from ⟨by rw [List.length_map, Array.length_toList]; exact hz, acc'.toList, c', hv, by rw [hS]⟩), rfl, q _ (I.hok.fresh (Nat.le_refl _))⟩
end
section
variable {X : Cx}
theorem call_listOf : CallR X (.type "list") (rListOf X.K) := call_list_of
theorem call_lenS : CallR X (.builtin "len") (rLen X.K) := call_len_seq
theorem call_lenStr : CallR X (.builtin "len") rLenStr := call_len_str
theorem op_inSign : OpR X (compareOp .In) rInSign := op_in_sign
end
/-- the signs of two texts, in new pairs -/
def ItzS (x y : Str) : It :=
  ⟨fun i _ => i < min x.cps.size y.cps.size, fun i H v H' => ∃ T c d, v = .ref T ∧ H T = none ∧ H' = upd H T (.tup [.str ⟨#[c]⟩, .str ⟨#[d]⟩]) ∧ x.cps[i]? = some c ∧ y.cps[i]? = some d, fun i _ => min x.cps.size y.cps.size ≤ i⟩
theorem turn_zipS {P : Program} {w : World} {K : PySem.W.Frag} {elts : List Expr} {kk : Nat} {tpos : Pos} (x y : Str) (t u : Tok) {z TI TO i1 i2 : Addr} (S : ZipSep2 z TI TO i1 i2 [i1] [i2]) :
    Turn P w K (.Tuple elts kk tpos) (ItzS x y) (z :: TI :: TO :: ([i1] ++ [i2])) z (fun i h => i ≤ min x.cps.size y.cps.size ∧ (IsZip h z TI TO .none ∧ IsTupOf2 h TI (.ref i1) (.ref i2) ∧ (∃ a1 a2, IsTupOf2 h TO a1 a2) ∧ h.IsStrIter i1 (strIterType x) x t i ∧ h.IsStrIter i2 (strIterType y) y u i)) where
  mem := by simp
  obj := fun i h st c hc => by
    obtain ⟨_, hz, hTI, ⟨x, y, hTO⟩, ⟨o1, e1, _, d1⟩, ⟨o2, e2, _, d2⟩⟩ := st
    have e' : c = z ∨ c = TI ∨ c = TO ∨ c = i1 ∨ c = i2 := by simpa using hc
    rcases e' with q | q | q | q | q
    · rw [q]; exact ⟨_, hz, fun v q => nomatch q⟩
    · rw [q]; exact ⟨_, hTI, fun v q => nomatch q⟩
    · rw [q]; exact ⟨_, hTO, fun v q => nomatch q⟩
    · rw [q]; exact ⟨o1, e1, fun v q => by rw [d1] at q; cases q⟩
    · rw [q]; exact ⟨o2, e2, fun v q => by rw [d2] at q; cases q⟩
  keep := fun i h h' st k => by
    obtain ⟨hi, hz, hTI, ⟨x, y, hTO⟩, ⟨o1, e1, r1⟩, ⟨o2, e2, r2⟩⟩ := st
    exact ⟨hi, k z (by simp) _ hz, k TI (by simp) _ hTI, ⟨x, y, k TO (by simp) _ hTO⟩, ⟨o1, k i1 (by simp) _ e1, r1⟩, ⟨o2, k i2 (by simp) _ e2, r2⟩⟩
  item := by
    intro X hP hw hK hc i pins s σ H E I hf st hg
    subst hP hw hK
    have hh : X.A.in1.handled = none := I.ok.hd hc
    have W := GoesN.zip2 (A := X.A) (elts := elts) (x1 := kk) (pos := tpos) S (Draws.text (prog := X.prog) (w := X.w) hh i1 x t) (Draws.text (prog := X.prog) (w := X.w) hh i2 y u)
    refine wpAny_mono (W.goes i s (fun v s2 => ∃ x1 H', Inv X pins σ H' s2 ∧ RelV x1 v ∧ (ItzS x y).yld i H x1 H' ∧ (i + 1 ≤ min x.cps.size y.cps.size ∧ (IsZip s2.heap z TI TO .none ∧ IsTupOf2 s2.heap TI (.ref i1) (.ref i2) ∧ (∃ a1 a2, IsTupOf2 s2.heap TO a1 a2) ∧ s2.heap.IsStrIter i1 (strIterType x) x t (i + 1) ∧ s2.heap.IsStrIter i2 (strIterType y) y u (i + 1))) ∧ ∀ b ∈ (z :: TI :: TO :: ([i1] ++ [i2])), H' b = none) E hg st.2 fun v h' tk hY st' hk htk => ?_) (fun r s1 q => ?_) fun _ _ q => q
    · obtain ⟨T, a, b, rfl, hT, ⟨c, u1, hc1, rfl⟩, ⟨d, u2, hd1, rfl⟩, hIT⟩ := hY
      have new : ObjOk X.prog X.w (upd H T (.tup [.str ⟨#[c]⟩, .str ⟨#[d]⟩])) h' T (.tup [.str ⟨#[c]⟩, .str ⟨#[d]⟩]) := by
        obtain ⟨o, ho, h2, h3⟩ := hIT
        exact ⟨by show 2 ≤ sizeLine; decide, [.str ⟨#[c]⟩ u1, .str ⟨#[d]⟩ u2], .cons ⟨u1, rfl⟩ (.cons ⟨u2, rfl⟩ .nil), o, ho, h2, h3⟩
      have sub : ∀ b ∈ [z, TO, i1, i2], FpOk X pins H b := fun b hb => hf b (by
        have e' : b = z ∨ b = TO ∨ b = i1 ∨ b = i2 := by simpa using hb
        rcases e' with q | q | q | q <;> simp [q])
      refine ⟨.ref T, _, I.turnedNew (t' := tk) (ch := [z, TO, i1, i2]) hk sub hT new, rfl, ⟨T, c, d, rfl, I.hok.fresh hT, rfl, hc1, hd1⟩, ⟨hg, st'⟩, fun b hb => ?_⟩
      have hb2 : b ≠ T := by
        rintro rfl
        obtain ⟨o, ho, _⟩ := (show ∃ o, s.heap.get? b = some o ∧ True from by
          obtain ⟨_, hz, hTI, ⟨x, y, hTO⟩, ⟨o1, e1, _, d1⟩, ⟨o2, e2, _, d2⟩⟩ := st
          have e' : b = z ∨ b = TI ∨ b = TO ∨ b = i1 ∨ b = i2 := by simpa using hb
          rcases e' with q | q | q | q | q
          · rw [q]; exact ⟨_, hz, trivial⟩
          · rw [q]; exact ⟨_, hTI, trivial⟩
          · rw [q]; exact ⟨_, hTO, trivial⟩
          · rw [q]; exact ⟨o1, e1, trivial⟩
          · rw [q]; exact ⟨o2, e2, trivial⟩)
        exact absurd (Nat.lt_of_lt_of_le (Heap.lt_size ho) hT) (Nat.lt_irrefl _)
      rw [upd_ne hb2]
      exact (hf b hb).1
    · exact q
  done := by
    intro X hP hw hK hc i pins s σ H E I hf st hg
    subst hP hw hK
    have hh : X.A.in1.handled = none := I.ok.hd hc
    have hi : i = min x.cps.size y.cps.size := Nat.le_antisymm st.1 hg
    have W := GoesN.zip2 (A := X.A) (elts := elts) (x1 := kk) (pos := tpos) S (Draws.text (prog := X.prog) (w := X.w) hh i1 x t) (Draws.text (prog := X.prog) (w := X.w) hh i2 y u)
    refine W.stops s (fun s1 => Inv X pins σ H s1) E (by rw [← hi]; exact st.2) fun h' tk hk htk => ?_
    exact I.turnedL (t' := tk) (ch := [z, TO, i1, i2]) hk fun b hb => hf b (by
        have e' : b = z ∨ b = TO ∨ b = i1 ∨ b = i2 := by simpa using hb
        rcases e' with q | q | q | q <;> simp [q])
  self := fun A i s Q E st h => wpAny_pyIter_zip st.2.1 h
def iZipS (ta : TA) : TI := fun σ H R => ta σ H fun vs H1 => ∃ x y : Str, vs = [.str x, .str y] ∧ R (ItzS x y) H1
theorem pi_zipS {X : Cx} {e e2 : Expr} {ta : TA} {p pos tpos : Pos} {elts : List Expr} {kk : Nat} (hg : Gl X "zip") (hm : X.mg "zip" = none) (ha : PA X [e, e2] ta)
    (hs : starEach [e, e2] X.env = (false, eval e X.env) :: starEach [e2] X.env := by rfl) (hpl : (backTo pos (starEach [e2] X.env)).any (·.1) = false := by rfl) :
    PI X (.Tuple elts kk tpos) (.Call (.Name "zip" p) [e, e2] [] pos) (iZipS ta) := by
  refine ⟨fun pins s σ H R I h => ?_⟩
  refine Call_ (ld_blt I hg hm PyProof.Rows.boot_zip (PyProof.Rows.callWith_type1 (thn (ha.run pos pins s σ H _ I h) fun us s1 ⟨vs, H1, I1, r1, q1⟩ => ?_) hs hpl))
  obtain ⟨x, y, ex, q⟩ := q1
  subst ex
  cases r1 with
  | cons r rr =>
    cases rr with
    | cons r' rr =>
      cases rr
      obtain ⟨t, rfl⟩ := r
      obtain ⟨u, rfl⟩ := r'
      refine zip_begins2 (begins_text x t) (begins_text y u) trivial trivial fun h' hz hTI hTO h1 h2 hsz hk => wpAny_pyIter_zip hz ?_
      have I2 : Inv X pins σ H1 { s1 with heap := h' } := I1.kept (t' := s1.toks) hk
      refine ⟨s1.heap.objs.size + 4, (s1.heap.objs.size + 4) :: (s1.heap.objs.size + 2) :: (s1.heap.objs.size + 3) :: ([s1.heap.objs.size] ++ [s1.heap.objs.size + 1]), _, _, H1, rfl, I2, turn_zipS x y t u (zip_sep2 (fp1 := []) (fp2 := []) (by simp) (by simp)), ⟨Nat.zero_le _, hz, hTI, ⟨_, _, hTO⟩, ⟨_, h1, rfl, rfl⟩, ⟨_, h2, rfl, rfl⟩⟩, fun c hcm => ?_, q⟩
      have e' : c = s1.heap.objs.size + 4 ∨ c = s1.heap.objs.size + 2 ∨ c = s1.heap.objs.size + 3 ∨ c = s1.heap.objs.size ∨ c = s1.heap.objs.size + 1 := by simpa using hcm
      have hle : s1.heap.objs.size ≤ c := by
        rcases e' with z | z | z | z | z
        · rw [z]; exact Nat.le_add_right _ _
        · rw [z]; exact Nat.le_add_right _ _
        · rw [z]; exact Nat.le_add_right _ _
        · rw [z]; exact Nat.le_refl _
        · rw [z]; exact Nat.le_add_right _ _
      exact I1.fpOk hle (I1.hok.fresh hle)
theorem walk_zipS {x y : Str} : Walk (ItzS x y) (min x.cps.size y.cps.size) (fun _ => True) (YPair (fun i => (x.cps[i]?).map fun c => V.str ⟨#[c]⟩) (fun i => (y.cps[i]?).map fun c => V.str ⟨#[c]⟩)) :=
  ⟨fun _ _ hi _ => hi, fun _ _ => Nat.le_refl _, fun i H v H' _ _ yl => by
    obtain ⟨T, c, d, h1, h2, h3, h4, h5⟩ := yl
    exact ⟨T, _, _, h1, h2, h3, by dsimp only; rw [h4]; rfl, by dsimp only; rw [h5]; rfl⟩⟩
/-! ### loops and comprehensions -/
section
variable {J : It} {n : Nat} {G : Hp → Prop} {Y : Nat → Hp → V → Hp → Prop} {σ : L2.St} {H H1 : Hp} {g : TG} {tb : TS} {te : TE} {tt : TT} {wi : TI} {vs : List Nat} {D : Ends} {Q : VK} {K : PySem.W.Frag}
def forGoal (J : It) (g : TG) (tb : TS) (D : Ends) (σ : L2.St) (H1 : Hp) : Prop := ∃ W : Nat → Nat → L2.St → Hp → Prop, (∃ m, W 0 m σ H1) ∧ ∀ i m σ H, W i m σ H →
  (J.stop i H ∧ D.nx σ H) ∨ (J.go i H ∧ ∃ N : L2.St → Hp → Prop, (∀ σ' H', N σ' H' → ∃ m', m' < m ∧ W (i + 1) m' σ' H') ∧ ∀ x H', J.yld i H x H' → g x σ H' fun σ2 H2 => tb { D with nx := N, ct := N, bk := D.nx } σ2 H2)
theorem w_for (h : wi σ H fun J H1 => forGoal J g tb D σ H1) : tFor wi g tb D σ H := h
theorem for_inv (w : Walk J n G Y) (Pv : Nat → L2.St → Hp → Prop) (h0 : Pv 0 σ H) (hG : ∀ i σ H, i ≤ n → Pv i σ H → G H)
    (hs : ∀ i x σ H H', i < n → Pv i σ H → Y i H x H' → g x σ H' fun σ2 H2 => tb { D with nx := Pv (i + 1), ct := Pv (i + 1), bk := D.nx } σ2 H2) (hd : ∀ σ H, Pv n σ H → D.nx σ H) : forGoal J g tb D σ H :=
  for_it w Pv h0 hG hs hd
def lcGoal (J : It) (g : TG) (tt : TT) (te : TE) (vs : List Nat) (σ : L2.St) (H1 : Hp) (Q : VK) : Prop := ∀ D, H1 D = none → ∃ W : Nat → Nat → Hp → Prop, (∃ m, W 0 m (upd H1 D (.lst []))) ∧ ∀ i m H, W i m H →
  (J.stop i H ∧ Q (.ref D) H) ∨ (J.go i H ∧ ∃ Nx : Hp → Prop, (∀ H', Nx H' → ∃ m', m' < m ∧ W (i + 1) m' H') ∧ ∀ x H', J.yld i H x H' → g x (wipe σ vs) H' fun σ2 H2 => wipe σ2 vs = wipe σ vs ∧ tt σ2 H2 fun b H3 =>
    if b = true then te σ2 H3 fun y H4 => ∃ acc, H4 D = some (.lst acc) ∧ acc.length < sizeLine ∧ Nx (upd H4 D (.lst (acc ++ [y]))) else Nx H3)
theorem w_lc (h : wi σ H fun J H1 => lcGoal J g tt te vs σ H1 Q) : tLc wi g tt te vs σ H Q := h
theorem w_iStr {R : It → Hp → Prop} {tz : TE} (h : tz σ H fun v H1 => ∃ x, v = .str x ∧ R (Its x) H1) : iStr tz σ H R := h
theorem w_iList {R : It → Hp → Prop} {tl : TE} (h : tl σ H fun x H1 => ∃ a, x = .ref a ∧ (∃ xs, SqL K H1 a xs) ∧ R (Itl K a) H1) : iList K tl σ H R := h
theorem w_iListR {a : Addr} {xs : List V} {R : Addr → Prop} (h : SqL K H a xs) (q : R a) : ∃ b, V.ref a = .ref b ∧ (∃ xs, SqL K H b xs) ∧ R b := ⟨a, rfl, ⟨xs, h⟩, q⟩
theorem w_iStrR {z : Str} {R : Str → Prop} (q : R z) : ∃ x, V.str z = .str x ∧ R x := ⟨z, rfl, q⟩
theorem w_iZipS {ta : TA} {R : It → Hp → Prop} (h : ta σ H fun vs H1 => ∃ x y : Str, vs = [.str x, .str y] ∧ R (ItzS x y) H1) : iZipS ta σ H R := h
theorem w_gTup {a : Addr} {xs : List V} {n : Nat} {t : TGs} {Q : L2.St → Hp → Prop} (h : SqT K H a xs) (hl : xs.length = n) (q : t xs σ H Q) : gTup K n t (.ref a) σ H Q := ⟨a, xs, rfl, h, hl, q⟩
theorem w_gCons {t : TG} {u : TGs} {v : V} {r : List V} {Q : L2.St → Hp → Prop} (q : t v σ H fun σ' H' => u r σ' H' Q) : gCons t u (v :: r) σ H Q := ⟨v, r, rfl, q⟩
theorem w_gNil {Q : L2.St → Hp → Prop} (q : Q σ H) : gNil [] σ H Q := ⟨rfl, q⟩
end
/-! ### data -/
section
variable {K : PySem.W.Frag} {H : Hp}
theorem Dp.tupI {v : V} {ds : List PyData} (h : Dp K H v (.tuple ds)) : ∃ a xs, v = .ref a ∧ SqT K H a xs ∧ DpAll K H xs ds := by
  cases h with
  | tup h1 h2 => exact ⟨_, _, rfl, h1, h2⟩
theorem Dp.lstI {v : V} {ds : List PyData} (h : Dp K H v (.list ds)) : ∃ a xs, v = .ref a ∧ SqL K H a xs ∧ DpAll K H xs ds := by
  cases h with
  | lst h1 h2 => exact ⟨_, _, rfl, h1, h2⟩
theorem Dp.intI {v : V} {i : Int} (h : Dp K H v (.int i)) : v = .int i := by cases h; rfl
theorem Dp.strI {v : V} {x : Str} (h : Dp K H v (.str x)) : v = .str x := by cases h; rfl
theorem Dp.blI {v : V} {b : Bool} (h : Dp K H v (.bool b)) : v = .bl b := by cases h; rfl
theorem Dp.nonI {v : V} (h : Dp K H v .none) : v = .non := by cases h; rfl
theorem DpAll.len : ∀ {xs : List V} {ds : List PyData}, DpAll K H xs ds → xs.length = ds.length
  | _, _, .nil => rfl
  | _, _, .cons _ t => congrArg Nat.succ (DpAll.len t)
theorem DpAll.get : ∀ {xs : List V} {ds : List PyData} {i : Nat} {x : V}, DpAll K H xs ds → xs[i]? = some x → ∃ d, ds[i]? = some d ∧ Dp K H x d
  | _, _, _, _, .nil, e => by simp at e
  | _, _, 0, _, .cons h _, e => by simp at e; subst e; exact ⟨_, rfl, h⟩
  | _, _, i + 1, x, .cons _ t, e => by
    obtain ⟨d, h1, h2⟩ := DpAll.get (i := i) (x := x) t (by simpa using e)
    exact ⟨d, by simpa using h1, h2⟩
theorem DpAll.get' : ∀ {xs : List V} {ds : List PyData} {i : Nat} {d : PyData}, DpAll K H xs ds → ds[i]? = some d → ∃ x, xs[i]? = some x ∧ Dp K H x d
  | _, _, _, _, .nil, e => by simp at e
  | _, _, 0, _, .cons h _, e => by simp at e; subst e; exact ⟨_, rfl, h⟩
  | _, _, i + 1, x, .cons _ t, e => by
    obtain ⟨d, h1, h2⟩ := DpAll.get' (i := i) (d := x) t (by simpa using e)
    exact ⟨d, by simpa using h1, h2⟩
theorem DpAll.append : ∀ {xs ys : List V} {ds es : List PyData}, DpAll K H xs ds → DpAll K H ys es → DpAll K H (xs ++ ys) (ds ++ es)
  | _, _, _, _, .nil, s => s
  | _, _, _, _, .cons r t, s => .cons r (DpAll.append t s)
theorem DpAll.take : ∀ {xs : List V} {ds : List PyData} (n : Nat), DpAll K H xs ds → DpAll K H (xs.take n) (ds.take n)
  | _, _, 0, _ => .nil
  | _, _, _ + 1, .nil => .nil
  | _, _, n + 1, .cons r t => .cons r (DpAll.take n t)
theorem DpAll.drop : ∀ {xs : List V} {ds : List PyData} (n : Nat), DpAll K H xs ds → DpAll K H (xs.drop n) (ds.drop n)
  | _, _, 0, r => r
  | _, _, _ + 1, .nil => .nil
  | _, _, n + 1, .cons _ t => DpAll.drop n t
theorem DpAll.ints : ∀ (ns : List Int), DpAll K H (ns.map V.int) (ns.map PyData.int)
  | [] => .nil
  | n :: ns => .cons (.int n) (DpAll.ints ns)
end
/-- the type of a datum -/
def tyD : PyData → String
  | .none => "NoneType" | .bool _ => "bool" | .int _ => "int" | .str _ => "str" | .list _ => "list" | .tuple _ => "tuple" | .dict _ => "dict"
theorem Dp.ty {K : PySem.W.Frag} {H : Hp} {v : V} {d : PyData} (h : Dp K H v d) : TyX K H v (.type (tyD d)) := by
  cases h with
  | non => exact .base .non
  | bl b => exact .base (.bl b)
  | int i => exact .base (.int i)
  | str x => exact .base (.str x)
  | lst h _ =>
    rcases h with (h | ⟨o, h⟩) | ⟨o, its, n, h1, h2, _⟩
    · exact .base (.lst h)
    · exact .base (.frz h)
    · exact .kList h1 h2
  | tup h _ =>
    rcases h with (h | ⟨o, h⟩) | ⟨o, its, n, h1, h2, _⟩
    · exact .base (.tup h)
    · exact .fTuple h
    · exact .kTuple h1 h2
/-- isinstance(d, T) -/
def isT (a T : String) : Bool := a == T || (a == "bool" && T == "int")
def isD (T : String) (d : PyData) : Bool := isT (tyD d) T
theorem kit_all : ∀ a ∈ ["NoneType", "bool", "int", "str", "list", "tuple", "dict"], ∀ T ∈ ["int", "bool", "str", "tuple", "list"], kitB a T = some (isT a T) := by decide +kernel
theorem tyD_mem (d : PyData) : tyD d ∈ ["NoneType", "bool", "int", "str", "list", "tuple", "dict"] := by cases d <;> simp [tyD]
theorem kit_isD {K : PySem.W.Frag} {T : String} (hT : T ∈ ["int", "bool", "str", "tuple", "list"]) (d : PyData) : PySem.W.kitOne K (.type (tyD d)) (.type T) = some (isD T d) := kit_ty (kit_all _ (tyD_mem d) _ hT)
theorem w_isi {K : PySem.W.Frag} {H : Hp} {v : V} {d : PyData} {T : String} {Q : VK} (h : Dp K H v d) (hT : T ∈ ["int", "bool", "str", "tuple", "list"]) (q : Q (.bl (isD T d)) H) : rIsi K [v, .ty T] H Q :=
  ⟨v, .ty T, _, _, _, rfl, .ty T, Dp.ty h, kit_isD hT d, q⟩
def isIntD : PyData → Bool | .int _ => true | .bool _ => true | _ => false
def isBoolD : PyData → Bool | .bool _ => true | _ => false
def isStrD : PyData → Bool | .str _ => true | _ => false
def isTupD : PyData → Bool | .tuple _ => true | _ => false
def isListD : PyData → Bool | .list _ => true | _ => false
theorem isInt_eq (d : PyData) : isD "int" d = isIntD d := by cases d <;> rfl
theorem isBool_eq (d : PyData) : isD "bool" d = isBoolD d := by cases d <;> rfl
theorem isStr_eq (d : PyData) : isD "str" d = isStrD d := by cases d <;> rfl
theorem isTup_eq (d : PyData) : isD "tuple" d = isTupD d := by cases d <;> rfl
theorem isList_eq (d : PyData) : isD "list" d = isListD d := by cases d <;> rfl
section
variable {K : PySem.W.Frag} {H : Hp} {v : V} {d : PyData} {Q : VK} {σ : L2.St}
theorem w_isiInt (h : Dp K H v d) (q : Q (.bl (isIntD d)) H) : rIsi K [v, .ty "int"] H Q := w_isi h (by decide) (by rw [isInt_eq]; exact q)
theorem w_isiBool (h : Dp K H v d) (q : Q (.bl (isBoolD d)) H) : rIsi K [v, .ty "bool"] H Q := w_isi h (by decide) (by rw [isBool_eq]; exact q)
theorem w_isiStr (h : Dp K H v d) (q : Q (.bl (isStrD d)) H) : rIsi K [v, .ty "str"] H Q := w_isi h (by decide) (by rw [isStr_eq]; exact q)
theorem w_isiTup (h : Dp K H v d) (q : Q (.bl (isTupD d)) H) : rIsi K [v, .ty "tuple"] H Q := w_isi h (by decide) (by rw [isTup_eq]; exact q)
theorem w_isiList (h : Dp K H v d) (q : Q (.bl (isListD d)) H) : rIsi K [v, .ty "list"] H Q := w_isi h (by decide) (by rw [isList_eq]; exact q)
end
theorem perm_erase {α : Type} : ∀ {l : List α} {j : Nat} (h : j < l.length), (l[j] :: l.eraseIdx j).Perm l
  | a :: l, 0, _ => List.Perm.refl _
  | a :: l, j + 1, h => by
    have ih := perm_erase (l := l) (j := j) (by simpa using h)
    exact (List.Perm.swap _ _ _).trans (ih.cons a)
def rIsN0 : R2 := fun x y H Q => y = .non ∧ Q (.bl (decide (x = .non))) H
def rNotN0 : R2 := fun x y H Q => y = .non ∧ Q (.bl (!decide (x = .non))) H
theorem op_isN0 {X : Cx} : OpR X (compareOp .Is) rIsN0 := op_isN
section
variable {H : Hp} {Q : VK} {x : V} {a : Addr} {i : Int} {b : Bool} {z : Str}
theorem w_isN_non (q : Q (.bl true) H) : rIsN0 .non .non H Q := ⟨rfl, q⟩
theorem w_isN_int (q : Q (.bl false) H) : rIsN0 (.int i) .non H Q := ⟨rfl, q⟩
theorem w_isN_str (q : Q (.bl false) H) : rIsN0 (.str z) .non H Q := ⟨rfl, q⟩
theorem w_isN_bl (q : Q (.bl false) H) : rIsN0 (.bl b) .non H Q := ⟨rfl, q⟩
theorem w_isN_ref (q : Q (.bl false) H) : rIsN0 (.ref a) .non H Q := ⟨rfl, q⟩
theorem w_notN_non (q : Q (.bl false) H) : rNotN0 .non .non H Q := ⟨rfl, q⟩
theorem w_notN_int (q : Q (.bl true) H) : rNotN0 (.int i) .non H Q := ⟨rfl, q⟩
theorem w_notN_str (q : Q (.bl true) H) : rNotN0 (.str z) .non H Q := ⟨rfl, q⟩
theorem w_notN_bl (q : Q (.bl true) H) : rNotN0 (.bl b) .non H Q := ⟨rfl, q⟩
theorem w_notN_ref (q : Q (.bl true) H) : rNotN0 (.ref a) .non H Q := ⟨rfl, q⟩
/-- == of alike scalars -/
theorem w_EqSame (hs : scal x x = true) (q : Q (.bl true) H) : rEq x x H Q := ⟨hs, by rw [decide_eq_true (rfl : x = x)]; exact q⟩
theorem w_NeSame (hs : scal x x = true) (q : Q (.bl false) H) : rNe x x H Q := ⟨hs, by rw [decide_eq_true (rfl : x = x)]; exact q⟩
end
/-! ### more named rules -/
/-- a thing of places: a list, a tuple, a text by its signs -/
def IsSeq (K : PySem.W.Frag) (H : Hp) (s : V) (xs : List V) : Prop := (∃ a, s = .ref a ∧ SqL K H a xs) ∨ (∃ a, s = .ref a ∧ SqT K H a xs) ∨ ∃ z : Str, s = .str z ∧ z.length ≤ sizeLine ∧ xs = z.cps.toList.map fun c => V.str ⟨#[c]⟩
theorem IsSeq.same {K : PySem.W.Frag} {H H' : Hp} {s : V} {xs : List V} (h : IsSeq K H s xs) (e : Same H H') : IsSeq K H' s xs := by
  rcases h with ⟨a, h1, h2⟩ | ⟨a, h1, h2⟩ | h
  · exact .inl ⟨a, h1, e.seq h2⟩
  · exact .inr (.inl ⟨a, h1, Same.tup e h2⟩)
  · exact .inr (.inr h)
def rLenA (K : PySem.W.Frag) : List V → Hp → VK → Prop := fun xs H Q => rLen K xs H Q ∨ rLenStr xs H Q
theorem call_lenA {X : Cx} : CallR X (.builtin "len") (rLenA X.K) := call_lenS.or call_lenStr
section
variable {K : PySem.W.Frag} {σ : L2.St} {H : Hp} {Q : VK} {s v y : V} {xs : List V} {to te ta : TE}
theorem w_M1 {r : V → List V → Hp → VK → Prop} (h : to σ H fun x H1 => (∃ a, x = .str a) ∧ te σ H1 fun y H2 => r x [y] H2 Q) : tM1 r to te σ H Q := h
theorem w_strAnd {z : Str} {B : Prop} (h : B) : (∃ a, V.str z = .str a) ∧ B := ⟨⟨z, rfl⟩, h⟩
def rJoin (K : PySem.W.Frag) : V → List V → Hp → VK → Prop := fun x xs H Q => ∃ a p, ∃ ys : List Str, x = .str a ∧ xs = [.ref p] ∧ (SqL K H p (ys.map V.str) ∨ SqT K H p (ys.map V.str)) ∧
      (ys.map (·.length)).sum + ys.length * a.length ≤ 16777216 ∧ Q (.str (Txt.join a ys)) H
theorem w_lstRg {tr : L2.St → Hp → (Int → Int → Hp → Prop) → Prop} (h : tr σ H fun a b H1 => RgOk a b ∧ newO (.lst (rgV a b)) H1 Q) : tLstRg tr σ H Q := h
theorem w_rg1 {R : Int → Int → Hp → Prop} (h : ta σ H fun x H1 => ∃ n, x = .int n ∧ R 0 n H1) : tRg1 ta σ H R := h
theorem w_iRng1 {tr : TA} {R : It → Hp → Prop} (h : tr σ H fun vs H1 => ∃ j : Int, vs = [.int j] ∧ -(2 ^ 62) ≤ j ∧ j < 2 ^ 62 ∧ R (Itr 0 j.toNat) H1) : iRng1 tr σ H R := h
theorem w_iRngR {j : Int} {R : Int → Prop} (h0 : -(2 ^ 62) ≤ j) (h1 : j < 2 ^ 62) (q : R j) : ∃ k : Int, [V.int j] = [.int k] ∧ -(2 ^ 62) ≤ k ∧ k < 2 ^ 62 ∧ R k := ⟨j, rfl, h0, h1, q⟩
theorem w_tyL {l : Addr} {B : Prop} (h : SqL K H l xs) (q : B) : tyV K "list" (.ref l) H ∧ B := by
  refine ⟨?_, q⟩
  rcases h with h | ⟨o, its, n, h1, h2, _⟩
  · exact .inl ⟨rfl, _, .inl h⟩
  · exact .inl ⟨rfl, xs, .inr ⟨o, its, n, h1, h2, ‹_›⟩⟩
theorem w_popAt {l : Addr} {k : Nat} (h : H l = some (.lst xs)) (hz : xs.length ≤ 100000) (hy : xs[k]? = some y) (q : ∀ H', H' l = some (.lst (xs.eraseIdx k)) → del H' l = del H l → Q y H') : rPopAt (.ref l) [.int (k : Int)] H Q := by
  have hk := (List.getElem?_eq_some_iff.mp hy).1
  refine ⟨l, xs, k, k, y, rfl, rfl, h, by omega, by omega, ?_, hy, q _ upd_same del_upd⟩
  unfold seqIndex?
  simp only [show ¬ ((k : Int) < 0) by omega, if_false]
  rw [if_pos (by simp; omega)]
  simp
theorem w_append {l : Addr} (h : H l = some (.lst xs)) (hz : xs.length ≤ 100000) (q : ∀ H', H' l = some (.lst (xs ++ [y])) → del H' l = del H l → Q .non H') : rAppend (.ref l) [y] H Q :=
  ⟨l, xs, y, rfl, rfl, h, Nat.lt_of_le_of_lt hz (by decide), q _ upd_same del_upd⟩
def rGeStr : R2 := fun x y H Q => ∃ i j, x = .str i ∧ y = .str j ∧ Q (.bl (!decide (i.cps.toList < j.cps.toList))) H
theorem w_geStr {a b : Str} (q : Q (.bl (!decide (a.cps.toList < b.cps.toList))) H) : rGeStr (.str a) (.str b) H Q := ⟨a, b, rfl, rfl, q⟩
theorem w_iEnum {tr : TA} {R : It → Hp → Prop} (h : tr σ H fun vs H1 => ∃ a xs, vs = [.ref a] ∧ SqL K H1 a xs ∧ R (Ite K a) H1) : iEnum K tr σ H R := h
theorem w_iEnumR {a : Addr} {R : Addr → Prop} (h : SqL K H a xs) (q : R a) : ∃ b ys, [V.ref a] = [.ref b] ∧ SqL K H b ys ∧ R b := ⟨a, xs, rfl, h, q⟩
end
section
variable {X : Cx} {o e : Expr} {to te : TE}
theorem pe_joinN {apos pos : Pos} (ho : PE X o to) (he : PE X e te) (hs : starEach [e] X.env = [(false, eval e X.env)] := by rfl) (hbase : attributeBase o "join" X.env (eval o X.env) = eval o X.env := by rfl) (hline : (apos.endLine == pos.line) = true := by rfl) :
    PE X (.Call (.Attribute o "join" apos) [e] [] pos) (tM1 (rJoin X.K) to te) := pe_join ho he hs hbase hline
end
section
variable {K : PySem.W.Frag} {σ : L2.St} {H : Hp} {Q : VK} {td ty tx : TE} {a : Addr} {kvs : List (Key × V)} {k : Key} {v z : V}
theorem w_dgetT (h : td σ H fun x H1 => ty σ H1 fun y H2 => ∃ a v, x = .ref a ∧ DGet H2 a y (some v) ∧ Q v H2) : tDGet td ty σ H Q := h
theorem w_dsetdT (h : td σ H fun x H1 => ∃ a, x = .ref a ∧ IsD H1 a ∧ ty σ H1 fun y H2 => tx σ H2 fun z H3 => ∃ (kvs : List (Key × V)) (k : Key), H3 a = some (.dK kvs) ∧ y = kV k ∧ kvs.length < sizeLine ∧
  (∀ v, valV kvs k = some v → Q v H3) ∧ (valV kvs k = none → Q z (upd H3 a (.dK (putK kvs k z))))) : tDSetd td ty tx σ H Q := h
theorem w_isDK {R : Addr → Prop} (h : H a = some (.dK kvs)) (q : R a) : ∃ b, V.ref a = .ref b ∧ IsD H b ∧ R b := ⟨a, rfl, .inl ⟨kvs, .inl h⟩, q⟩
end
def rLenD : List V → Hp → VK → Prop := fun xs H Q => ∃ d kvs, xs = [.ref d] ∧ H d = some (.dK kvs) ∧ Q (.int kvs.length) H
theorem w_lenDN {a : Addr} {kvs : List (Key × V)} {H : Hp} {Q : VK} (h : H a = some (.dK kvs)) (q : Q (.int kvs.length) H) : rLenD [V.ref a] H Q := ⟨a, kvs, rfl, h, q⟩
end Nc

namespace Nc
open PySem PySem.Spec PySem.Calls PyProof.Rows L2 PySem.W
/-! ## a, b, *c = a tuple -/
section
variable {prog : Program} {w : World} {A : Around} {E : Value → Shared → Prop} {s : Shared}
end
section
variable {X : Cx} {pos : Pos}
end
/-! ## max(xs, default=n) of ints -/
def mxD (d : Int) : List Int → Int
  | [] => d
  | n :: ns => ns.foldl max n
end Nc

namespace Nc
open PySem PySem.Spec PyProof.Rows L2 ClX
/-! ## own exceptions -/
section
variable {X : Cx} {CX : CXT} {k : Nat} {C f : Addr} {mc : Value} {sp : Sp} {E : XK} {o e : Expr} {es : List Expr} {m : Str} {pos apos : Pos} {t : TA} {pl : Sem Bool} {fd : FuncData} {ps : List Str} {dvs : List V} {ds : List Value}
/-- C.m(self, ..): a def read off its class -/
theorem pe_cfn (he : PE X o (tC (.ref C))) (r : CRead X.K C mc) (c : CVal X.K C mc m (.ref f) (.ref f)) (F : FnOk X.prog X.w X.K X.mg X.base CX k f fd ps sp) (hr : Room k X.A) (kp : PySem.W.keepIn X.K (.ref f) = true) (hb : Binds X.K fd ps ds) (hd : Vals dvs ds) (hx : Passes CX X E) (ha : PA X (e :: es) t)
    (ht : eval (.Call (.Attribute o m apos) (e :: es) [] pos) X.env = (do
      let ov ← eval o X.env
      standAt apos.atName
      let (f, first) ← holding [ov] (getMethod ov m pl)
      callWith pos f first (backTo pos (starEach (e :: es) X.env)) (backToKw pos (keywordEach [] X.env))) := by rfl)
    (hst : starEach (e :: es) X.env = (false, eval e X.env) :: starEach es X.env := by rfl) (hpl : (backTo pos (starEach es X.env)).any (·.1) = false := by rfl) :
    PE X (.Call (.Attribute o m apos) (e :: es) [] pos) (tCall sp dvs E t) := by
  refine ⟨fun pins s σ H Q I h => ?_⟩
  refine PySem.W.methodCall_KW (pl := pl) (thn (he.run pins s σ H (fun x H1 => x = .ref C ∧ tCall sp dvs E t σ H1 Q) I ⟨rfl, h⟩) fun u s1 ⟨x, H1, I1, rx, ex, q⟩ => ?_) ht
  subst ex
  obtain rfl : u = Value.ref C := rx
  refine PySem.W.method_cls I1.kIn r.ga (getcval_ok I1 r c fun s2 I2 => ?_)
  show wpAny _ _ (callWith pos (.ref f) [] _ _) _ _ _
  refine PySem.W.callWith_K (h₀ := X.base) I2.ok.mod.kin kp (thn (ha.run pos pins s2 σ H1 _ I2 q) fun us s3 ⟨vs, H2, I3, rv, q2⟩ => ⟨I3.kIn, ?_⟩) hst hpl
  exact run_fn F hr hb hd hx I3 rv q2
end
theorem isfn_ty {K : PySem.W.Frag} {f : Addr} (h : PySem.W.isFn K (.ref f) = true) : PySem.W.typeIn K (.ref f) = some (.type "function") := beq_iff_eq.mp h
/-! ### what the written part says of such a class, looked up -/
def oexB (K : PySem.W.Frag) (C : Addr) : Bool := (match K.lookup C with
  | some ⟨.type "type", _, .cls cd, sl⟩ => (match cd.mro, sl.toList with
    | .ref C' :: bm, [_, _, _, _, some (.builtin n), _] => C' == C && n == "ValueError.__new__" && !cd.hasDel && cd.hasDict && PySem.HandSPX.refsVE bm
    | _, _ => false)
  | _ => false) && (He.eqO (PySem.W.findIn K (.ref C) "__setattr__") (some (some (.builtin "object.__setattr__"))) && (decide (PySem.W.subIn K (.ref C) (.type "BaseException") = some true) && (decide (PySem.W.typeIn K (.ref C) = some (.type "type")) && PySem.W.keepIn K (.ref C))))
theorem oexB_ok {K : PySem.W.Frag} {C : Addr} (h : oexB K C = true) : OexC K C := by
  unfold oexB at h
  obtain ⟨q, h⟩ := He.ba h
  obtain ⟨h1, h⟩ := He.ba h
  obtain ⟨h2, h⟩ := He.ba h
  obtain ⟨h3, h4⟩ := He.ba h
  refine ⟨?_, He.eqO_ok h1, of_decide_eq_true h2, of_decide_eq_true h3, h4⟩
  split at q
  · rename_i dd cd sl ho
    split at q
    · rename_i C' bm k0 k1 k2 k3 n k5 hm hs
      simp only [Bool.and_eq_true, beq_iff_eq, Bool.not_eq_true'] at q
      obtain ⟨⟨⟨⟨rfl, rfl⟩, hdel⟩, hdi⟩, ht⟩ := q
      obtain ⟨nm, bs, mro, ns, qn, hd, sn, sub, ab, col, del⟩ := cd
      dsimp only at hm hdel hdi
      subst hm hdel hdi
      have hsl : sl = #[k0, k1, k2, k3, some (.builtin "ValueError.__new__"), k5] := by
        obtain ⟨l⟩ := sl
        simp only at hs
        rw [hs]
      subst hsl
      exact ⟨nm, qn, ns, bs, bm, sn, sub, ab, col, dd, k0, k1, k2, k3, k5, ho, ht⟩
    · cases q
  · cases q
/-- a def read off a class -/
def creadB (K : PySem.W.Frag) (C : Addr) (m : Str) (f : Addr) : Bool := PySem.W.readsIn K C (.type "type") && (He.eqO (PySem.W.specialIn K (.ref C) "__getattribute__") (some (some (.builtin "type.__getattribute__"))) &&
  (match PySem.W.findCls K (.ref C) (.type "type") m with
  | some (.val (.ref g)) => decide (g = f)
  | _ => false))
theorem creadB_ok {K : PySem.W.Frag} {C f : Addr} {m : Str} (h : creadB K C m f = true) : CRead K C (.type "type") ∧ CVal K C (.type "type") m (.ref f) (.ref f) := by
  obtain ⟨h1, h⟩ := He.ba h
  obtain ⟨h2, h3⟩ := He.ba h
  refine ⟨⟨h1, He.eqO_ok h2⟩, ⟨?_, rfl⟩⟩
  split at h3
  · rename_i e
    rw [e, of_decide_eq_true h3]
  · cases h3
/-! ### the __init__ of the family -/
theorem upd_comm {H : Hp} {a b : Addr} {o u : HO} (h : a ≠ b) : upd (upd H a o) b u = upd (upd H b u) a o := by
  funext c
  unfold upd
  by_cases h1 : c = b
  · subst h1
    rw [if_pos rfl, if_neg (fun z => h z.symm), if_pos rfl]
  · rw [if_neg h1]
    by_cases h2 : c = a
    · subst h2; rw [if_pos rfl, if_pos rfl]
    · rw [if_neg h2, if_neg h2, if_neg h1]
def fldOk (K : PySem.W.Frag) (C : Addr) (f : Str) : Prop := PySem.W.findIn K (.ref C) f = some none
/-- CoteError.__init__(self, v) -/
def sp_init0 (K : PySem.W.Frag) : Sp := fun vs H Q _ => ∃ (a C : Addr) (v : V), vs = [.ref a, v] ∧ OexC K C ∧ fldOk K C "called" ∧ H a = some (exo a C none) ∧ ∀ d, H d = none → d ≠ a → Q .non (upd (upd H d (exd d [("called", v)])) a (exo a C (some d)))
theorem rd_init0 {K : PySem.W.Frag} {vs : List V} {H : Hp} {Q : VK} {E : XK} {N : List Str} (hN : N.length = 2) (h : sp_init0 K vs H Q E) :
    tSeq (tDrop (tVeI K (tCons (tVar 0) (tCons (tVar 1) tNil)))) (tOst K "called" (tVar 0) (tVar 1)) { nx := fun _ H' => Q .non H', rt := Q } (L2.start N vs) H := by
  obtain ⟨a, C, v, rfl, T, f1, ha, k⟩ := h
  have h0 : (L2.start N [V.ref a, v])[0]? = some (some (.ref a)) := rfl
  have h1 : (L2.start N [V.ref a, v])[1]? = some (some v) := rfl
  exact ⟨_, h0, ⟨_, h1, ⟨a, C, [v], rfl, by simp, T, ha, ⟨_, h1, ⟨_, h0, ⟨a, C, rfl, T, f1, .inl ⟨ha, fun d hd hne => k d hd hne⟩⟩⟩⟩⟩⟩⟩
/-- X.__init__(self, v): CoteError.__init__(self, 'X'); self.f = v -/
def sp_init1 (nm f : Str) (K : PySem.W.Frag) : Sp := fun vs H Q _ => ∃ (a C : Addr) (v : V), vs = [.ref a, v] ∧ OexC K C ∧ fldOk K C "called" ∧ fldOk K C f ∧ H a = some (exo a C none) ∧
  ∀ d, H d = none → d ≠ a → Q .non (upd (upd H d (exd d [(f, v), ("called", .str nm)])) a (exo a C (some d)))
theorem rd_init1 {K : PySem.W.Frag} {vs : List V} {H : Hp} {Q : VK} {E : XK} {N : List Str} {nm f : Str} (h : sp_init1 nm f K vs H Q E) :
    tSeq (tDrop (tCall (sp_init0 K) [] E (tCons (tVar 0) (tCons (tC (.str nm)) tNil)))) (tOst K f (tVar 0) (tVar 1)) { nx := fun _ H' => Q .non H', rt := Q } (L2.start N vs) H := by
  obtain ⟨a, C, v, rfl, T, f1, f2, ha, k⟩ := h
  have h0 : (L2.start N [V.ref a, v])[0]? = some (some (.ref a)) := rfl
  have h1 : (L2.start N [V.ref a, v])[1]? = some (some v) := rfl
  refine ⟨_, h0, ⟨a, C, .str nm, rfl, T, f1, ha, fun d hd hne => ⟨_, h1, ⟨_, h0, ⟨a, C, rfl, T, f2, .inr ⟨d, [("called", .str nm)], upd_same, ?_, by simp, ?_⟩⟩⟩⟩⟩⟩
  · rw [upd_ne hne]; exact upd_same
  · have := k d hd hne
    rw [upd_comm (Ne.symm hne), upd_upd]
    exact this
/-- what is raised: the class, the fields -/
theorem del_upd_new {H : Hp} {a d : Addr} {o u w : HO} (ha : H a = none) (hne : d ≠ a) : upd (del (upd (upd H d o) a u) a) d w = upd H d w := by
  funext c
  unfold upd L2.del
  by_cases h1 : c = d
  · rw [if_pos h1, if_pos h1]
  · rw [if_neg h1, if_neg h1]
    by_cases h2 : c = a
    · rw [if_pos h2, h2, ha]
    · rw [if_neg h2]
      show (if c = a then some u else if c = d then some o else H c) = H c
      rw [if_neg h2, if_neg h1]
/-! ### the Hook, with one more Bool and the dicts of the top -/
abbrev AlX : Type := He.AlD × Bool × List (Option (List (Option (Str × Int))))
def obsX (fa : List He.Fa) (fn : List He.DefD) (ex : PySem.W.Frag → Bool) (ts : List (Str × List Str)) (K : PySem.W.Frag) : AlX := (He.obsD fa fn K, ex K, ts.map fun t => He.dicW K (He.ga K t.1))
def valX (fn : List He.DefD) (ts : List (Str × List Str)) (w : World) : AlX := (He.valD fn, true, ts.map fun t => some (He.keysIn w.params t.2))
structure SaysX (fa : List He.Fa) (fn : List He.DefD) (ex : PySem.W.Frag → Bool) (ts : List (Str × List Str)) (w : World) (K : PySem.W.Frag) : Prop where
  c : He.SaysD fa fn K
  x : ex K = true
  t : (ts.map fun t => He.dicW K (He.ga K t.1)) = ts.map fun t => some (He.keysIn w.params t.2)
theorem SaysX.tab {fa : List He.Fa} {fn : List He.DefD} {ex : PySem.W.Frag → Bool} {ts : List (Str × List Str)} {w : World} {K : PySem.W.Frag} (c : SaysX fa fn ex ts w K) (i : Nat) {t : Str × List Str} (h : ts[i]? = some t := by rfl) : ∃ es n, KDict K w (He.ga K t.1) es n := by
  have e2 : (ts.map fun t => He.dicW K (He.ga K t.1))[i]? = (ts.map fun t => some (He.keysIn w.params t.2))[i]? := by rw [c.t]
  rw [List.getElem?_map, List.getElem?_map, h] at e2
  exact He.dicW_ok (Option.some.inj e2)
/-! a dict of the top: its entries -/
def allB : List Bool → Bool
  | [] => true
  | b :: r => b && allB r
theorem allB_at : ∀ {l : List Bool} {i : Nat} {b : Bool}, allB l = true → l[i]? = some b → b = true
  | [], _, _, _, e => by cases e
  | c :: r, 0, b, h, e => by cases e; exact (He.ba h).1
  | c :: r, i + 1, b, h, e => allB_at (l := r) (i := i) (He.ba h).2 e
end Nc

namespace Nc
open PySem PySem.Spec PyProof.Rows L2
/-! ### try with clauses of any kind: one class or a tuple of classes, with a name or without -/
section
variable {M : Model} {A : Around} {E : Value → Shared → Prop} {s : Shared}
theorem fi_all {f : Value → PUnit → Sem (ForInStep PUnit)} : ∀ {cs : List Value}, (∀ c ∈ cs, ∀ Q : ForInStep PUnit → Shared → Prop, Q (.yield PUnit.unit) s → wpAny M A (f c PUnit.unit) Q E s) → ∀ {Q : PUnit → Shared → Prop}, Q PUnit.unit s → wpAny M A (forIn cs PUnit.unit f) Q E s
  | [], _, Q, q => by rw [List.forIn_nil]; exact wpAny_pure q
  | c :: cs, h, Q, q => by
    rw [List.forIn_cons]
    exact wpAny_bind (h c (List.mem_cons_self ..) _ (fi_all (fun c hc => h c (List.mem_cons_of_mem _ hc)) q))
theorem fi_any {σ : Type} {st0 st1 : σ} {f : Value → σ → Sem (ForInStep σ)} {K : PySem.W.Frag} {cls : Value} : ∀ {cs : List Value} {b : Bool}, PySem.W.exmAny K cls cs = some b →
    (∀ c ∈ cs, ∀ v, PySem.W.exmOne K cls c = some v → ∀ Q : ForInStep σ → Shared → Prop, Q (if v = true then .done st1 else .yield st0) s → wpAny M A (f c st0) Q E s) → ∀ {Q : σ → Shared → Prop}, Q (if b = true then st1 else st0) s → wpAny M A (forIn cs st0 f) Q E s
  | [], b, hb, _, Q, q => by
    have : some false = some b := hb
    cases this
    rw [List.forIn_nil]
    exact wpAny_pure q
  | c :: cs, b, hb, h, Q, q => by
    obtain ⟨b1, d1, x1, y1, z1⟩ := PySem.W.exmAny_cons hb
    rw [List.forIn_cons]
    refine wpAny_bind (h c (List.mem_cons_self ..) b1 x1 _ ?_)
    cases b1 with
    | true =>
      subst z1
      exact wpAny_pure q
    | false =>
      subst z1
      exact fi_any y1 (fun c hc => h c (List.mem_cons_of_mem _ hc)) q
end
theorem exm_each {K : PySem.W.Frag} {cls : Value} : ∀ {cs : List Value} {b : Bool}, PySem.W.exmAny K cls cs = some b → ∀ c ∈ cs, ∃ v, PySem.W.exmOne K cls c = some v
  | [], _, _, _, h => by cases h
  | c :: cs, b, hb, c', h => by
    obtain ⟨b1, d1, x1, y1, z1⟩ := PySem.W.exmAny_cons hb
    rcases List.mem_cons.mp h with rfl | h
    · exact ⟨_, x1⟩
    · exact exm_each y1 c' h
theorem exm_tup {M : Model} {K : PySem.W.Frag} {cs : List Value} {cls : Value} {tp e : Addr} {b : Bool} {h : Heap} (X : K.In h) (LT : PySem.W.Looks M h (typeOf (.ref e)) cls) (hp : h.get? tp = some { cls := .type "tuple", data := .seq cs.toArray }) (hx : PySem.W.exmAny K cls cs = some b) :
    PySem.W.Looks M h (excMatches (.ref e) (.ref tp)) b := by
  intro A Q E s k₀ q
  obtain ⟨hh, g, d, tk, os⟩ := s
  have k : ∀ b o, h.get? b = some o → hh.get? b = some o := k₀
  have LT0 : PySem.W.Looks M h (isInstance (.ref tp) (.type "tuple")) true := ((PySem.W.Looks.ld hp).andThen .now).andThen (PySem.W.Looks.of_pure isSubtype_tuple_tuple)
  have hp' := k _ _ hp
  unfold excMatches
  refine wpAny_bind ((LT0.keeps k).here ?_)
  dsimp only
  rw [if_pos rfl]
  first
    | refine wpAny_bind (wpAny_seqItems hp' rfl ?_)
    | refine wpAny_bind (wpAny_bind (wpAny_seqItems hp' rfl (wpAny_pure ?_)))
  dsimp only [Option.getD_some, Option.getD]
  refine wpAny_bind (wpAny_pure ?_)
  refine wpAny_bind (fi_all (fun c hc Q q => ?_) ?_)
  · obtain ⟨v, hv⟩ := exm_each hx c hc
    obtain ⟨e1, _⟩ := PySem.W.exm_cls (M := M) X hv
    refine wpAny_bind ((e1.keeps k).here ?_)
    exact wpAny_pure q
  refine wpAny_bind ((LT.keeps k).here ?_)
  refine wpAny_bind (fi_any (st1 := (some true, PUnit.unit)) hx (fun c hc v hv Q q => ?_) ?_)
  · obtain ⟨_, S1⟩ := PySem.W.exm_cls (M := M) X hv
    refine wpAny_bind ((S1.keeps k).here ?_)
    cases v <;> exact wpAny_pure q
  · cases b <;> exact wpAny_pure q
/-- a clause: its classes, its name's slot, its suite -/
structure Cl where
  cs : List Value
  oi : Option Nat
  ts : Addr → Value → Option Addr → TS
def asEnds (oi : Option Nat) (D : Ends) : Ends := match oi with
  | none => D
  | some i => { nx := fun σ' H' => D.nx (σ'.set i none) H', rt := D.rt, bk := fun σ' H' => D.bk (σ'.set i none) H', ct := fun σ' H' => D.ct (σ'.set i none) H' }
def asSt (oi : Option Nat) (a : Addr) (σ : L2.St) : L2.St := match oi with
  | none => σ
  | some i => σ.set i (some (.ref a))
/-- what the clauses wish of an exception of the body, one after the other -/
def wGen (K : PySem.W.Frag) (Wout : WX) (D : Ends) : List Cl → WX
  | [] => Wout
  | c :: r => fun cls d σ H => ∃ b, PySem.W.exmAny K cls c.cs = some b ∧ (b = true → ∀ a, H a = none → c.ts a cls d (asEnds c.oi D) (asSt c.oi a σ) H) ∧ (b = false → wGen K Wout D r cls d σ H)
inductive NamesAll (X : Cx) : List Expr → List Value → Prop
  | nil : NamesAll X [] []
  | cons {x : Str} {c : Value} {np : Pos} {es : List Expr} {cs : List Value} (hc : Names X x c) (r : NamesAll X es cs) : NamesAll X (.Name x np :: es) (c :: cs)
theorem NamesAll.suite {X : Cx} {a : Addr} {pn : List (Addr × Obj)} {es : List Expr} {cs : List Value} (h : NamesAll X es cs) : NamesAll (X.suite a pn) es cs := by
  induction h with
  | nil => exact .nil
  | cons hc r ih => exact .cons hc ih
inductive ClT (X : Cx) : Expr → List Value → Prop
  | one {x : Str} {c : Value} {np : Pos} (hc : Names X x c) : ClT X (.Name x np) [c]
  | tup {es : List Expr} {cs : List Value} {kk : Nat} {tpos : Pos} (h : NamesAll X es cs) (hz : cs.length ≤ sizeLine) : ClT X (.Tuple es kk tpos) cs
inductive ClN (X : Cx) : Option Str → Option Nat → Prop
  | no : ClN X none none
  | yes {n : Str} {i : Nat} (hi : X.N[i]? = some n) (hln : X.env.kindOf n = some .local) : ClN X (some n) (some i)
inductive HdsG (X : Cx) : List ExceptHandler → List Cl → Prop
  | nil : HdsG X [] []
  | cons {t : Expr} {n : Option Str} {c : Cl} {b₀ : Stmt} {suite : List Stmt} {pos' : Pos} {hds : List ExceptHandler} {l : List Cl} (ht : ClT X t c.cs) (hn : ClN X n c.oi)
      (hsu : ∀ (a : Addr) (oe : Obj) (cls : Value) (d : Option Addr) (pn : List (Addr × Obj)), Zc cls d oe → (∃ vs, oe.data = .fields vs) → PSs (X.suite a ((a, oe) :: pn)) (b₀ :: suite) (c.ts a cls d)) (r : HdsG X hds l) :
      HdsG X (.ExceptHandler (some t) n (b₀ :: suite) pos' :: hds) (c :: l)
theorem flyingZ_keeps {B h h' : Heap} {l : List Env} {e : Addr} {Z : Obj → Prop} (f : HandSPX.FlyingZ B l e Z h) (k : ∀ b o, h.get? b = some o → h'.get? b = some o) : HandSPX.FlyingZ B l e Z h' := by
  obtain ⟨f1, f2, f3, oe, vs, T, oT, ts, he, hz, hd, h1, hnT, hTe, hT, hdT, h3⟩ := f
  exact ⟨fun b o q => k b o (f1 b o q), f2, f3.of_keeps fun b o q _ => ⟨o, k b o q, rfl⟩, oe, vs, T, oT, ts, k _ _ he, hz, hd, h1, hnT, hTe, k _ _ hT, hdT, h3⟩
section
variable {X : Cx} {pins : List (Addr × Obj)} {σ : L2.St} {H : Hp} {s : Shared}
theorem ld_name {M : Model} {E : Value → Shared → Prop} {x : Str} {c : Value} {np : Pos} {Q : Value → Shared → Prop} (I : Inv X pins σ H s) (hc : Names X x c) (q : Q c s) : wpAny (model X.prog X.w) X.A (eval (.Name x np) X.env) Q E s := by
  obtain ⟨hg, hdbg, hm | ⟨hm, hv, hnn⟩⟩ := hc
  · exact ld_glob I hg hm q hdbg
  · exact ld_blt I hg hm hv q hnn hdbg
theorem ld_names {E : Value → Shared → Prop} {es : List Expr} {cs : List Value} {pos : Pos} (I : Inv X pins σ H s) (h : NamesAll X es cs) : ∀ {Q : List Value → Shared → Prop}, Q cs s → wpAny (model X.prog X.w) X.A (spliced (backTo pos (starEach es X.env))) Q E s := by
  induction h with
  | nil => exact fun q => wpAny_items_nil q
  | cons hc r ih => exact fun q => wpAny_items_cons (ld_name (M := model X.prog X.w) I hc (ih q))
end
section
variable {X : Cx} {body : List Stmt} {h₀ : ExceptHandler} {hds : List ExceptHandler} {l : List Cl} {pos : Pos} {tb : WX → TS} {Wout : WX}
theorem ps_try_gen (hs : X.stack = X.env :: X.outer) (hf : X.env.frame = some X.env.locals) (hN : X.N.Nodup) (tk : Takes X Wout)
    (hb : ∀ (W : WX) (pn : List (Addr × Obj)) (xe : Value → Shared → Prop), Takes (X.tr pn xe) W → PassesOwn (model X.prog X.w) X.A X.env xe → PSs (X.tr pn xe) body (tb W))
    (hh : HdsG X (h₀ :: hds) l) : PS X (.Try body (h₀ :: hds) [] [] pos) (fun D σ H => tb (wGen X.K Wout D l) D σ H) := by
  refine ⟨fun pins s σ H D I h => ?_⟩
  have ok := I.ok
  have hfr : X.A.frames = some (X.env :: X.outer) := by rw [ok.frames, hs]
  refine wpAny_Try_except ?_
  refine wpAny_mono ((hb (wGen X.K Wout D l) (X.pn ++ pins) (fun e s₁ => wpAny (model X.prog X.w) X.A (noteFrame e X.env) (fun _ s₂ => wpAny (model X.prog X.w) X.A (setFlight e none) (fun _ s₃ =>
    wpAny (model X.prog X.w) X.A (handleBy e X.env (h₀ :: hds)) (SP X pins D) X.xe s₃) X.xe s₂) X.xe s₁) (fun u s' xx => ?_) PassesOwn.looking).run [] s σ H D (I.toTry _) h) (fun f s1 hsp => ?_) (fun e s1 he => he)
  · -- the catch
    obtain ⟨a, B, sI, pins', σ', H', cls, d, rfl, J', nb, up, sky, na, os, ag, w⟩ := xx
    have J : Inv X pins σ' H' sI := J'.ofTry ok
    have sky' : Sky B (X.env :: X.outer) a (Zc cls d) X.env.locals s'.heap := by rw [← hs]; exact sky
    show wpAny (model X.prog X.w) X.A (noteFrame (.ref a) X.env) _ _ _
    refine Sky.land Zc.steady hfr hf sky' fun h3 fl3 up3 => ?_
    have notFr : ∀ {h : Heap} {o : Obj} {vs : Array Value}, h.FunFrames B (X.env :: X.outer) → h.get? a = some o → o.data = .fields vs → a ∉ frs (X.env :: X.outer) := fun {h o vs} ff e dd hm => by
      obtain ⟨_, o', e', hnf⟩ := ff.mem hm
      rw [e] at e'; cases e'
      exact hnf _ dd
    have nfr : a ∉ frs (X.env :: X.outer) := by
      obtain ⟨oe3, vs3, he3, hz3, hd3⟩ := fl3.there
      exact notFr fl3.2.2.1 he3 hd3
    have nL : a ≠ X.env.locals := fun z => nfr (List.mem_filterMap.mpr ⟨X.env, List.mem_cons_self, by rw [hf, z]⟩)
    have nF : a ∉ X.fs := fun hm => by
      obtain ⟨e, he, q⟩ := List.mem_filterMap.mp hm
      exact nfr (List.mem_filterMap.mpr ⟨e, List.mem_cons_of_mem _ he, q⟩)
    have go : ∀ {hds' : List ExceptHandler} {l' : List Cl}, HdsG X hds' l' → wGen X.K Wout D l' cls d σ' H' → ∀ h3, HandSPX.FlyingZ B (X.env :: X.outer) a (Zc cls d) h3 → s'.heap.UpToSlots h3 →
        wpAny (model X.prog X.w) X.A (handleBy (.ref a) X.env hds') (SP X pins D) X.xe { s' with heap := h3 } := by
      intro hds' l' hk
      induction hk with
      | nil =>
        intro w h3 fl3 up3
        refine wpAny_handleBy_nil ?_
        obtain ⟨k1, k2, k3, oe, vs, T, oT, ts', he, hz, hd, h1, hr⟩ := id fl3
        unfold PySem.passOn
        refine wpAny_bind (wpAny_field he hd h1 ?_)
        rw [if_neg (show ¬ ((Value.ref T == Value.none) = true) from by simp)]
        have fin : wpAny (model X.prog X.w) X.A (setFlight (.ref a) X.env.frame) (fun _ s4 => wpAny (model X.prog X.w) X.A (throw (.ref a) : Sem Flow) (SP X pins D) X.xe s4) X.xe { s' with heap := h3 } := by
          rw [hf]
          refine HandSPX.setFlight_upZ fl3 fun h4 hh4 up4 => wpAny_throw (tk _ _ ?_)
          exact ⟨a, B, sI, pins, σ', H', cls, d, rfl, J, nb, (up.trans up3).trans up4, .inr (.inr (by rw [hs]; exact hh4)), na, os, ag, w⟩
        first
          | exact wpAny_bind (wpAny_pure (wpAny_bind fin))
          | exact wpAny_bind fin
      | @cons t n c b₀ suite pos' hds2 l2 ht hn hsu r ih =>
        intro w h3 fl3 up3
        have J3 : Inv X pins σ' H' { s' with heap := h3 } := J.landed nb fl3.1 (up.trans up3) os ag
        obtain ⟨oe3, vs3, he3, hz3, hd3⟩ := fl3.there
        have S3 := J3.suite he3 hd3 na nL nF
        obtain ⟨b, hb1, hyes, hno⟩ := w
        refine wpAny_handleBy_cons (codeAny_handlers_test ?_) (by intro q; cases q)
        -- the class or the classes
        have test : ∀ {R : Bool → Shared → Prop} {E : Value → Shared → Prop}, (∀ h5, HandSPX.FlyingZ B (X.env :: X.outer) a (Zc cls d) h5 → s'.heap.UpToSlots h5 → R b { s' with heap := h5 }) →
            wpAny (model X.prog X.w) (X.A.mark (some (.ref a))) (eval t X.env) (fun c s₁ => wpAny (model X.prog X.w) (X.A.mark (some (.ref a))) (excMatches (.ref a) c) R E s₁) E { s' with heap := h3 } := by
          intro R E q
          have LT : PySem.W.Looks (model X.prog X.w) h3 (typeOf (.ref a)) cls := fun A Q E s k q => wpAny_typeOf_ref (k _ _ he3) (by rw [hz3.1]; exact q)
          generalize hcs : c.cs = cs at ht hb1
          cases ht with
          | one hc =>
            obtain ⟨b1, d1, x1, y1, z1⟩ := PySem.W.exmAny_cons hb1
            have y1 : some false = some d1 := y1
            cases y1
            rw [Bool.or_false] at z1
            subst z1
            have LM := PySem.W.exm_one (M := model X.prog X.w) (J3.kIn) LT x1
            exact ld_name (X := X.suite a ((a, oe3) :: (X.pn ++ pins))) (M := model X.prog X.w) S3 hc (LM.here (q _ fl3 up3))
          | tup hN' hz =>
            refine wpAny_Tuple (ld_names (X := X.suite a ((a, oe3) :: (X.pn ++ pins))) S3 hN'.suite ⟨hz, ?_⟩)
            have kp : ∀ b o, h3.get? b = some o → (h3.push { cls := .type "tuple", data := .seq cs.toArray }).get? b = some o := fun _ _ z => Heap.get?_push_of_some _ z
            have LM := exm_tup (M := model X.prog X.w) (fun b o z => kp _ _ (J3.kIn b o z)) (LT.keeps kp) (Heap.get?_push_size h3 rfl) hb1
            exact LM.here (q _ (flyingZ_keeps fl3 kp) (up3.trans (Heap.UpToSlots.of_keeps kp)))
        refine test fun h5 fl5 up5 => ?_
        cases b with
        | true =>
          have J4 : ∀ h4, HandSPX.FlyingZ B (X.env :: X.outer) a (Zc cls d) h4 → h5.UpToSlots h4 → Inv X pins σ' H' { s' with heap := h4 } := fun h4 fl4 up4 => J.landed nb fl4.1 ((up.trans up5).trans up4) os ag
          generalize hoi : c.oi = oi at hn hyes
          cases hn with
          | no =>
            refine codeAny_handlers_suite ?_
            refine HandSPX.lands_againZ fl5 fun h4 fl4 up4 => ?_
            have J4 := J4 h4 fl4 up4
            obtain ⟨oe4, vs4, he4, hz4, hd4⟩ := fl4.there
            have S4 := J4.suite he4 hd4 na nL nF
            refine wpAny_mono ((hsu a oe4 cls d (X.pn ++ pins) hz4 ⟨_, hd4⟩).run [] _ _ H' _ S4 (hyes rfl a na)) (fun f s6 hsp => ?_) (fun _ _ z => False.elim z)
            cases f with
            | next =>
              obtain ⟨σ6, H6, S6, q6⟩ := hsp
              exact ⟨_, _, S6.unsuite ok, q6⟩
            | brk =>
              obtain ⟨σ6, H6, S6, q6⟩ := hsp
              exact ⟨_, _, S6.unsuite ok, q6⟩
            | cont =>
              obtain ⟨σ6, H6, S6, q6⟩ := hsp
              exact ⟨_, _, S6.unsuite ok, q6⟩
            | ret u =>
              obtain ⟨v6, σ6, H6, S6, r6, q6⟩ := hsp
              exact ⟨_, _, _, S6.unsuite ok, r6, q6⟩
          | @yes n i hi hln =>
            have hloc : Loc X.env.scope n := .inl hln
            refine codeAny_handlers_suite_as ?_
            refine HandSPX.lands_againZ fl5 fun h4 fl4 up4 => ?_
            have J4 := J4 h4 fl4 up4
            obtain ⟨oe4, vs4, he4, hz4, hd4⟩ := fl4.there
            have S4 := J4.suite he4 hd4 na nL nF
            refine store_ok (X := X.suite a ((a, oe4) :: (X.pn ++ pins))) (v := .ref a) S4 hN hi hloc rfl (fun s5 S5 => ?_) (.inr hln)
            refine wpAny_mono ((hsu a oe4 cls d (X.pn ++ pins) hz4 ⟨_, hd4⟩).run [] s5 _ H' _ S5 (hyes rfl a na)) (fun f s6 hsp => ?_) (fun _ _ z => False.elim z)
            have end_ : ∀ {σ6 : L2.St} {H6 : Hp} {Q : Shared → Prop}, Inv (X.suite a ((a, oe4) :: (X.pn ++ pins))) [] σ6 H6 s6 → (∀ s7, Inv X pins (σ6.set i none) H6 s7 → Q s7) →
                wpAny (model X.prog X.w) X.A (do bindName X.env n .none; unbindBehindTheSuite X.env n pos') (fun _ s7 => Q s7) X.xe s6 := fun {σ6 H6 Q} S6 hq => gone_ok (S6.unsuite ok) hN hi hln hq
            cases f with
            | next =>
              obtain ⟨σ6, H6, S6, q6⟩ := hsp
              exact end_ S6 fun s7 J7 => ⟨_, _, J7, q6⟩
            | brk =>
              obtain ⟨σ6, H6, S6, q6⟩ := hsp
              exact end_ S6 fun s7 J7 => ⟨_, _, J7, q6⟩
            | cont =>
              obtain ⟨σ6, H6, S6, q6⟩ := hsp
              exact end_ S6 fun s7 J7 => ⟨_, _, J7, q6⟩
            | ret u =>
              obtain ⟨v6, σ6, H6, S6, r6, q6⟩ := hsp
              exact end_ S6 fun s7 J7 => ⟨_, _, _, J7, r6, q6⟩
        | false =>
          show wpAny _ X.A (handleBy (.ref a) X.env hds2) _ _ _
          exact ih (hno rfl) h5 fl5 up5
    exact go hh w h3 fl3 up3
  · cases f with
    | next =>
      obtain ⟨σ', H', J', q⟩ := hsp
      exact wpAny_execs_nil ⟨σ', H', J'.ofTry ok, q⟩
    | brk =>
      obtain ⟨σ', H', J', q⟩ := hsp
      exact ⟨σ', H', J'.ofTry ok, q⟩
    | cont =>
      obtain ⟨σ', H', J', q⟩ := hsp
      exact ⟨σ', H', J'.ofTry ok, q⟩
    | ret u =>
      obtain ⟨v, σ', H', J', r, q⟩ := hsp
      exact ⟨v, σ', H', J'.ofTry ok, r, q⟩
end
end Nc

namespace Nc
open PySem PySem.Spec PyProof.Rows L2
/-! ### tables of code objects: for lambdas -/
/-- the law's code object, its table, the name of its lambdas (they stand in the law alone) -/
def tabAt (K : PySem.W.Frag) (p : Addr × Obj) : Option (Addr × Addr × Str) := match p.2.data with
  | .func fd => if fd.qualname = "law" then (match fd.code with
    | .ref c => match K.lookup c with
      | some ⟨_, _, .fields vs, _⟩ => match (vs[11]? : Option Value) with
        | some (.ref P) => some (c, P, fd.qualname ++ ".<locals>." ++ "<lambda>")
        | _ => none
      | _ => none
    | _ => none) else none
  | _ => none
def tabsL (K : PySem.W.Frag) : List (Addr × Addr × Str) := K.filterMap (tabAt K)
/-- the tables, each with the name of the code objects in it -/
def tabsOf (K : PySem.W.Frag) : List (Addr × Str) := (tabsL K).map (·.2)
/-- an empty table -/
def emptyT (g : Addr → Option Obj) (a : Addr) : Bool := match g a with
  | some ⟨.none, none, .fields vs, sl⟩ => vs.size == 0 && sl.size == 0
  | _ => false
theorem emptyT_ok {g : Addr → Option Obj} {a : Addr} (h : emptyT g a = true) : g a = some { cls := .none, data := .fields #[] } := by
  unfold emptyT at h
  split at h
  · rename_i vs sl q
    rw [Bool.and_eq_true_iff] at h
    rw [q]
    have h1 : vs = #[] := Array.size_eq_zero_iff.mp (beq_iff_eq.mp h.1)
    have h2 : sl = #[] := Array.size_eq_zero_iff.mp (beq_iff_eq.mp h.2)
    rw [h1, h2]
  · cases h
/-- each table: empty, not in K, of one name -/
def tabsB (g : Addr → Option Obj) (K : PySem.W.Frag) : Bool := (tabsL K).all fun t => emptyT g t.2.1 && ((K.lookup t.2.1).isNone && (PySem.W.codeHdIn K t.1 t.2.1 && ((mainGlobals != t.2.1) && (tabsL K).all fun u => u.2.1 != t.2.1 || u.2.2 == t.2.2)))
structure TabsIn (K : PySem.W.Frag) (h : Heap) : Prop where
  emp : ∀ t ∈ tabsL K, h.get? t.2.1 = some { cls := .none, data := .fields #[] }
  out : ∀ t ∈ tabsL K, K.lookup t.2.1 = none
  code : ∀ t ∈ tabsL K, PySem.W.codeHdIn K t.1 t.2.1 = true
  gl : ∀ t ∈ tabsL K, mainGlobals ≠ t.2.1
  uniq : ∀ t ∈ tabsL K, ∀ u ∈ tabsL K, u.2.1 = t.2.1 → u.2.2 = t.2.2
theorem tabsB_ok {K : PySem.W.Frag} {h : Heap} (b : tabsB h.get? K = true) : TabsIn K h := by
  have q := List.all_eq_true.mp b
  have q2 : ∀ t ∈ tabsL K, emptyT h.get? t.2.1 = true ∧ (K.lookup t.2.1).isNone = true ∧ PySem.W.codeHdIn K t.1 t.2.1 = true ∧ (mainGlobals != t.2.1) = true ∧ ((tabsL K).all fun u => u.2.1 != t.2.1 || u.2.2 == t.2.2) = true := fun t ht => by
    have := q t ht
    simp only [Bool.and_eq_true] at this
    exact this
  refine ⟨fun t ht => emptyT_ok (q2 t ht).1, fun t ht => Option.isNone_iff_eq_none.mp (q2 t ht).2.1, fun t ht => (q2 t ht).2.2.1, fun t ht => by have := (q2 t ht).2.2.2.1; simpa using this, fun t ht u hu e => ?_⟩
  have := List.all_eq_true.mp (q2 t ht).2.2.2.2 u hu
  rw [e] at this
  simpa using this
/-- the objects of the head, but for the empty tables -/
def frT (g : Addr → Option Obj) (as : List Addr) : PySem.W.Frag := He.frG g (as.filter fun a => !emptyT g a)
/-- what an object names, but for its class and the order of a class's bases -/
def kidsO (o : Obj) : List Addr := (match o.dict with
  | some d => [d]
  | none => []) ++ match o.data with
  | .seq its _ => its.toList.flatMap He.refV
  | .dict es _ => es.toList.flatMap fun e => He.refV e.val
  | .func fd => He.refV fd.code ++ (He.refV fd.defaults ++ (He.refV fd.kwdefaults ++ fd.closure.map (·.2)))
  | .cls cd => [cd.ns]
  | .fields vs => vs.toList.flatMap He.refV
  | .cell (some v) => He.refV v
  | _ => []
def kidsG (g : Addr → Option Obj) (a : Addr) : List Addr := match g a with
  | some o => kidsO o
  | none => []
def growN (g : Addr → Option Obj) : Nat → List Addr → List Addr
  | 0, l => l
  | n + 1, l => l ++ growN g n (l.flatMap (kidsG g))
/-- some names of the module, and what they reach in four steps (a method's code and its table); nothing is looked for twice, that is cheaper than to look whether it stands there -/
def asN (g : Addr → Option Obj) (nms : List Str) : List Addr := mainGlobals :: cStatics :: growN g 4 (nms.map (He.ga (He.frG g [mainGlobals])))
abbrev AlT : Type := AlX × Bool
def obsT (nms : List Str) (fa : List He.Fa) (fn : List He.DefD) (ex : PySem.W.Frag → Bool) (ts : List (Str × List Str)) (g : Addr → Option Obj) : AlT :=
  (obsX fa fn ex ts (frT g (asN g nms)), tabsB g (frT g (asN g nms)))
def hookT (nms : List Str) (fa : List He.Fa) (fn : List He.DefD) (ex : PySem.W.Frag → Bool) (ts : List (Str × List Str)) : PySem.W.Hook where
  α := AlT
  obs := fun s => obsT nms fa fn ex ts s.heap.get?
  val := fun w => (valX fn ts w, true)
  says := fun w h => ∃ K : PySem.W.Frag, K.In h ∧ SaysX fa fn ex ts w K ∧ TabsIn K h
  of := fun _ _ e => ⟨_, He.frG_in, ⟨congrArg (fun z : AlT => z.1.1) e, congrArg (fun z : AlT => z.1.2.1) e, congrArg (fun z : AlT => z.1.2.2) e⟩, tabsB_ok (congrArg (fun z : AlT => z.2) e)⟩
  keeps := fun _ _ _ ⟨K, hK, c, t⟩ k => ⟨K, PySem.W.Frag.In.keeps hK k, c, ⟨fun x hx => k _ _ (t.emp x hx), t.out, t.code, t.gl, t.uniq⟩⟩
theorem obsT_eq {nms : List Str} {fa : List He.Fa} {fn : List He.DefD} {ex : PySem.W.Frag → Bool} {ts : List (Str × List Str)} {g : Addr → Option Obj} {s : Shared} (h : ∀ a, g a = s.heap.get? a) : obsT nms fa fn ex ts g = (hookT nms fa fn ex ts).obs s := by
  have e : g = s.heap.get? := funext h
  rw [e] <;> rfl
/-- a lambda's text -/
structure LT where
  ps : Arguments
  b : Expr
  sc : Scope
  dv : List V := []
/-- lambdas that stand for data: text, name, cells -/
abbrev Clos : Type := List (LT × Str × List (Str × Addr))
structure ZP where
  p : Program
  w : World
  ls : Clos
end Nc

namespace Nc
open PySem PySem.Spec PyProof.Rows L2
/-! ### zip of two things, each a text, a list or a tuple -/
inductive Zs where
  | str (x : Str) (t : Tok) | lst (a : Addr) | tup (a : Addr)
def Zs.src : Zs → List Addr
  | .str _ _ => [] | .lst a => [a] | .tup a => [a]
def Zs.it (it : Addr) (i : Nat) (h : Heap) : Zs → Prop
  | .str x t => h.IsStrIter it (strIterType x) x t i
  | .lst a => h.IsListIter it a i
  | .tup a => h.IsTupleIter it a i
/-- what it gives, turn by turn -/
def Zs.rd (K : PySem.W.Frag) (H : Hp) : Zs → List V → Prop
  | .str x _, vs => vs = x.cps.toList.map fun c => V.str ⟨#[c]⟩
  | .lst a, vs => SqL K H a vs
  | .tup a, vs => SqT K H a vs
def Zs.val : Zs → Value
  | .str x t => .str x t | .lst a => .ref a | .tup a => .ref a
/-- its draws, where it stands -/
theorem Zs.draws {X : Cx} {pins : List (Addr × Obj)} {σ : L2.St} {H : Hp} {s : Shared} {A : Around} {z : Zs} {it : Addr} {vs : List V} (hh : A.handled = none) (I : Inv X pins σ H s) (r : z.rd X.K H vs) (hne : ∀ a ∈ z.src, a ≠ it) :
    ∃ (P : Nat → Value → Prop) (St : Nat → Heap → Prop), Draws X.prog X.w A it (it :: z.src) vs.length P St ∧ (∀ i, z.it it i s.heap → St i s.heap) ∧ (∀ i h, St i h → z.it it i h) ∧ ∀ i v, P i v → ∃ x, vs[i]? = some x ∧ RelV x v := by
  cases z with
  | str x t =>
    have r : vs = x.cps.toList.map fun c => V.str ⟨#[c]⟩ := r
    subst r
    have D := Draws.text (prog := X.prog) (w := X.w) hh it x t
    rw [show x.cps.size = (x.cps.toList.map fun c => V.str ⟨#[c]⟩).length by simp] at D
    refine ⟨_, _, D, fun i h => h, fun i h e => e, fun i v h => ?_⟩
    obtain ⟨c, u, h1, rfl⟩ := h
    exact ⟨.str ⟨#[c]⟩, by rw [List.getElem?_map, Array.getElem?_toList, h1]; rfl, u, rfl⟩
  | lst a =>
    obtain ⟨its, rv, p, _⟩ := I.list r
    have D := Draws.list (prog := X.prog) (w := X.w) hh it a (hne a (List.mem_singleton.mpr rfl)) its.toArray
    rw [show its.toArray.size = vs.length by rw [List.size_toArray, rv.length]] at D
    refine ⟨_, _, D, fun i h => ⟨h, p.isList⟩, fun i h e => e.1, fun i v h => ?_⟩
    have h : its[i]? = some v := by simpa using h
    have hl := rv.length
    have hi : i < vs.length := by have := (List.getElem?_eq_some_iff.mp h).1; omega
    obtain ⟨u, h1, h2⟩ := rv.get (List.getElem?_eq_getElem hi)
    rw [h] at h1
    cases h1
    exact ⟨_, List.getElem?_eq_getElem hi, h2⟩
  | tup a =>
    obtain ⟨its, rv, p, _⟩ := I.tuple r
    have D := Draws.tuple (prog := X.prog) (w := X.w) hh it a (hne a (List.mem_singleton.mpr rfl)) its.toArray
    rw [show its.toArray.size = vs.length by rw [List.size_toArray, rv.length]] at D
    refine ⟨_, _, D, fun i h => ⟨h, p⟩, fun i h e => e.1, fun i v h => ?_⟩
    have h : its[i]? = some v := by simpa using h
    have hl := rv.length
    have hi : i < vs.length := by have := (List.getElem?_eq_some_iff.mp h).1; omega
    obtain ⟨u, h1, h2⟩ := rv.get (List.getElem?_eq_getElem hi)
    rw [h] at h1
    cases h1
    exact ⟨_, List.getElem?_eq_getElem hi, h2⟩
inductive ZV (K : PySem.W.Frag) (H : Hp) : V → List V → (Tok → Zs) → Prop
  | str (x : Str) : ZV K H (.str x) (x.cps.toList.map fun c => V.str ⟨#[c]⟩) (fun t => .str x t)
  | lst {a : Addr} {xs : List V} : SqL K H a xs → ZV K H (.ref a) xs (fun _ => .lst a)
  | tup {a : Addr} {xs : List V} : SqT K H a xs → ZV K H (.ref a) xs (fun _ => .tup a)
end Nc

namespace Nc
open PySem PySem.Spec PyProof.Rows L2
/-! ### a dict of the top, its keys walked -/
/-! str(..) of a text or an int; a text += a text -/
end Nc

namespace Nc
open PySem PySem.Spec PyProof.Rows L2
variable {ls : Clos}
/-! ## dicts whose keys are tuples, nested -/
abbrev NK := NestedKey
abbrev DNs := List (NK × Addr × V)
def dnRel (p : NK × Addr × V) (q : NK × Addr × Value) : Prop := p.1 = q.1 ∧ p.2.1 = q.2.1 ∧ RelV p.2.2 q.2.2
def dnOk (P : Program) (w : World) (d : Addr) (kvs : DNs) (h : Heap) : Prop :=
  (d == sysModules) = false ∧ ∃ xs, Paired dnRel kvs xs ∧ ∃ o es ep, h.get? d = some o ∧ o.ExactDict ∧ o.data = .dict es ep ∧ es.toList = xs.map (entryOfKey (nestedKind P w)) ∧ (xs.map (·.1)).Nodup
/-- the dict at d -/
def DNO (P : Program) (w : World) (d : Addr) (kvs : DNs) : HO := .ext (dnOk P w d kvs)
def dnPairs (kvs : DNs) : List (NK × V) := kvs.map fun p => (p.1, p.2.2)
def dnPut (kvs : DNs) (κ : NK) (b : Addr) (v : V) : DNs := if (kvs.any fun p => decide (p.1 = κ)) then kvs.map (fun p => if p.1 = κ then (p.1, p.2.1, v) else p) else kvs ++ [(κ, b, v)]
theorem dnPut_len (kvs : DNs) (κ : NK) (b : Addr) (v : V) : (dnPut kvs κ b v).length ≤ kvs.length + 1 := by
  unfold dnPut
  split <;> simp
/-! ### keys -/
mutual
/-- the value is that key -/
inductive KH (K : PySem.W.Frag) (H : Hp) : NK → V → Prop
  | non : KH K H .none .non
  | bl (b : Bool) : KH K H (.num (if b = true then 1 else 0)) (.bl b)
  | int (i : Int) : KH K H (.num i) (.int i)
  | str (z : Str) : KH K H (.text z) (.str z)
  | tup {a : Addr} {xs : List V} {ks : List NK} : SqT K H a xs → KHA K H ks xs → KH K H (.tup ks) (.ref a)
inductive KHA (K : PySem.W.Frag) (H : Hp) : List NK → List V → Prop
  | nil : KHA K H [] []
  | cons {k : NK} {v : V} {ks : List NK} {vs : List V} : KH K H k v → KHA K H ks vs → KHA K H (k :: ks) (v :: vs)
end
section
variable {X : Cx} {pins : List (Addr × Obj)} {σ : L2.St} {H H' : Hp} {s : Shared} {a : Addr}
mutual
theorem KH.at (I : Inv X pins σ H s) : ∀ {κ : NK} {y : V} {u : Value}, KH X.K H κ y → RelV y u → NestedIs s.heap κ u
  | _, _, _, .non, r => by cases r; exact .none
  | _, _, _, .bl b, r => by cases r; exact .bool rfl
  | _, _, _, .int i, r => by obtain ⟨t, rfl⟩ := r; exact .int i t
  | _, _, _, .str z, r => by obtain ⟨t, rfl⟩ := r; exact .text z t
  | _, _, u, .tup (a := a) h t, r => by
    obtain rfl : u = Value.ref a := r
    obtain ⟨its, rv, ⟨o, e, hc, n, hd⟩, _⟩ := I.tuple h
    exact .tup e hc hd (KHA.at I t (by simpa using rv))
theorem KHA.at (I : Inv X pins σ H s) : ∀ {ks : List NK} {ys : List V} {us : List Value}, KHA X.K H ks ys → Vals ys us → NestedAll s.heap ks us
  | _, _, _, .nil, r => by cases r; exact .nil
  | _, _, _, .cons h t, r => by
    cases r with
    | cons r1 r2 => exact .cons (KH.at I h r1) (KHA.at I t r2)
end
mutual
theorem KH.same {K : PySem.W.Frag} (e : Same H H') : ∀ {κ : NK} {y : V}, KH K H κ y → KH K H' κ y
  | _, _, .non => .non
  | _, _, .bl b => .bl b
  | _, _, .int i => .int i
  | _, _, .str z => .str z
  | _, _, .tup h t => .tup (Same.tup e h) (KHA.same e t)
theorem KHA.same {K : PySem.W.Frag} (e : Same H H') : ∀ {ks : List NK} {ys : List V}, KHA K H ks ys → KHA K H' ks ys
  | _, _, .nil => .nil
  | _, _, .cons h t => .cons (KH.same e h) (KHA.same e t)
end
/-- a key of a dict -/
def KT8 (K : PySem.W.Frag) (H : Hp) (κ : NK) (b : Addr) : Prop := KH K H κ (.ref b) ∧ κ.depth ≤ 8
theorem KT8.at (I : Inv X pins σ H s) {κ : NK} {b : Addr} (h : KT8 X.K H κ b) : (nestedKind X.prog X.w).is s.heap κ b := ⟨h.1.at I rfl, h.2⟩
/-! ### the dict -/
theorem dnRel_pairs {kvs : DNs} {xs : List (NK × Addr × Value)} (r : Paired dnRel kvs xs) : KV (dnPairs kvs) (pairsH xs) := by
  induction r with
  | nil => exact .nil
  | cons h t ih => exact .cons ⟨h.1, h.2.2⟩ ih
theorem dnRel_any {kvs : DNs} {xs : List (NK × Addr × Value)} (r : Paired dnRel kvs xs) (κ : NK) : (kvs.any fun p => decide (p.1 = κ)) = (atKey xs κ).isSome := by
  rw [← any_pairsH]
  induction r with
  | nil => rfl
  | cons h t ih =>
    rw [List.any_cons, ih, h.1]
    rfl
theorem dnRel_put {kvs : DNs} {xs : List (NK × Addr × Value)} (r : Paired dnRel kvs xs) (κ : NK) {b : Addr} {v : V} {u : Value} (rv : RelV v u) : Paired dnRel (dnPut kvs κ b v) (storedH xs κ b u) := by
  unfold dnPut storedH
  rw [dnRel_any r κ]
  by_cases q : (atKey xs κ).isSome = true
  · rw [if_pos q, if_pos q]
    clear q
    induction r with
    | nil => exact .nil
    | @cons p q ps qs h t ih =>
      rw [List.map_cons, List.map_cons]
      refine .cons ?_ ih
      unfold putAt
      by_cases e : p.1 = κ
      · rw [if_pos e, if_pos (h.1.symm.trans e)]; exact ⟨h.1, h.2.1, rv⟩
      · rw [if_neg e, if_neg (fun z => e (h.1.trans z))]; exact h
  · rw [if_neg q, if_neg q]; exact Paired.snoc r ⟨rfl, rfl, rv⟩
theorem dn_at (I : Inv X pins σ H s) {kvs : DNs} (e : Rd H a (DNO X.prog X.w a kvs)) : dnOk X.prog X.w a kvs s.heap := (rd_of I.hok e).1
/-- its object, told with its keys -/
theorem dn_of (I : Inv X pins σ H s) {kvs : DNs} (e : Rd H a (DNO X.prog X.w a kvs)) (hk : ∀ p ∈ kvs, KT8 X.K H p.1 p.2.1) :
    (a == sysModules) = false ∧ ∃ xs, Paired dnRel kvs xs ∧ s.heap.DictOfH (nestedKind X.prog X.w) a xs := by
  obtain ⟨hd, xs, r, o, es, ep, h1, h2, h3, h4, h5⟩ := dn_at I e
  refine ⟨hd, xs, r, o, es, ep, h1, h2, h3, h4, ?_, h5⟩
  have all : ∀ {l : DNs} {m : List (NK × Addr × Value)}, (∀ p ∈ l, KT8 X.K H p.1 p.2.1) → Paired dnRel l m → ∀ x ∈ m, (nestedKind X.prog X.w).is s.heap x.1 x.2.1 := by
    intro l m hl q
    induction q with
    | nil => intro x hx; exact nomatch hx
    | @cons p q ps qs hq t ih =>
      intro x hx
      rcases List.mem_cons.mp hx with e | hx
      · subst e
        have := hl p (List.mem_cons_self ..)
        rw [hq.1, hq.2.1] at this
        exact this.at I
      · exact ih (fun p hp => hl p (List.mem_cons_of_mem _ hp)) x hx
  exact all hk r
/-- its object, made anew -/
theorem dn_new {P : Program} {w : World} {H' : Hp} {h' : Heap} {kvs : DNs} {xs : List (NK × Addr × Value)} (hd : (a == sysModules) = false) (r : Paired dnRel kvs xs) (dd : h'.DictOfH (nestedKind P w) a xs) : ObjOk P w H' h' a (DNO P w a kvs) := by
  obtain ⟨o, es, ep, h1, h2, h3, h4, _, h5⟩ := dd
  exact ⟨⟨hd, xs, r, o, es, ep, h1, h2, h3, h4, h5⟩, ⟨o, h1⟩, fun g1 g2 ⟨z0, ys, z1, o', es', ep', y1, y2⟩ k => ⟨z0, ys, z1, o', es', ep', k _ y1, y2⟩⟩
/-- an empty dict is one of any kind -/
theorem dk0_of (I : Inv X pins σ H s) (e : Rd H a (.dK [])) : (a == sysModules) = false ∧ s.heap.DictOfH (nestedKind X.prog X.w) a [] := by
  obtain ⟨_, hd, vs, r, o, es, ep, h1, h2, h3, _, h4, _⟩ := dk_rd I.hok e
  cases r
  have he : es.toList = [] := by
    cases h : es.toList with
    | nil => rfl
    | cons p q => rw [h] at h4; cases h4
  exact ⟨hd, o, es, ep, h1, h2, h3, by rw [he]; rfl, (fun _ hx => nomatch hx), List.nodup_nil⟩
theorem dn0_of (I : Inv X pins σ H s) (e : Rd H a (DNO X.prog X.w a [])) : (a == sysModules) = false ∧ s.heap.DictOf (mixKind X.prog X.w) a [] := by
  obtain ⟨hd, xs, r, o, es, ep, h1, h2, h3, h4, h5⟩ := dn_at I e
  cases r
  have he : es = #[] := by
    cases es
    simpa using h4
  subst he
  exact ⟨hd, o, #[], ep, h1, h2, h3, (fun _ he => by simp at he), .nil, List.nodup_nil⟩
/-- the dict at a, to be read: its keys and values -/
inductive DNR (P : Program) (w : World) (K : PySem.W.Frag) (H : Hp) (a : Addr) : DNs → Prop
  | n {kvs : DNs} : Rd H a (DNO P w a kvs) → (∀ p ∈ kvs, KT8 K H p.1 p.2.1) → DNR P w K H a kvs
  | e : Rd H a (.dK []) → DNR P w K H a []
theorem DNR.of (I : Inv X pins σ H s) {kvs : DNs} (h : DNR X.prog X.w X.K H a kvs) : (a == sysModules) = false ∧ ∃ xs, Paired dnRel kvs xs ∧ s.heap.DictOfH (nestedKind X.prog X.w) a xs := by
  cases h with
  | n h1 h2 => exact dn_of I h1 h2
  | e h1 => exact ⟨(dk0_of I h1).1, [], .nil, (dk0_of I h1).2⟩
/-- what the dict at a holds at the key y -/
def DGX (P : Program) (w : World) (K : PySem.W.Frag) (H : Hp) (a : Addr) (y : V) (r : Option V) : Prop :=
  DGet H a y r ∨ (∃ kvs κ b, DNR P w K H a kvs ∧ y = .ref b ∧ KT8 K H κ b ∧ r = valV (dnPairs kvs) κ) ∨ ∃ k, Rd H a (DNO P w a []) ∧ y = kV k ∧ r = none
/-- the heap behind a[y] = v -/
def DPX (P : Program) (w : World) (K : PySem.W.Frag) (H : Hp) (a : Addr) (y v : V) (H' : Hp) : Prop :=
  DPut H a y v H' ∨ (∃ kvs κ b, DNR P w K H a kvs ∧ Mut (H a) ∧ y = .ref b ∧ KT8 K H κ b ∧ kvs.length < sizeLine ∧ H' = upd H a (DNO P w a (dnPut kvs κ b v))) ∨
    ∃ k, Rd H a (DNO P w a []) ∧ Mut (H a) ∧ y = kV k ∧ H' = upd H a (.dK [(k, v)])
/-- .. without flat tuple keys -/
def DPK (P : Program) (w : World) (K : PySem.W.Frag) (H : Hp) (a : Addr) (y v : V) (H' : Hp) : Prop :=
  (∃ kvs k, H a = some (.dK kvs) ∧ y = kV k ∧ kvs.length < sizeLine ∧ H' = upd H a (.dK (putK kvs k v))) ∨ (∃ kvs κ b, DNR P w K H a kvs ∧ Mut (H a) ∧ y = .ref b ∧ KT8 K H κ b ∧ kvs.length < sizeLine ∧ H' = upd H a (DNO P w a (dnPut kvs κ b v))) ∨
    ∃ k, Rd H a (DNO P w a []) ∧ Mut (H a) ∧ y = kV k ∧ H' = upd H a (.dK [(k, v)])
theorem DPK.x {P : Program} {w : World} {K : PySem.W.Frag} {y v : V} (h : DPK P w K H a y v H') : DPX P w K H a y v H' := by
  rcases h with ⟨kvs, k, h1, h2, h3, h4⟩ | h | h
  · exact .inl (.inl ⟨kvs, k, h1, h2, h3, h4⟩)
  · exact .inr (.inl h)
  · exact .inr (.inr h)
/-- a is a dict -/
def IsDX (P : Program) (w : World) (K : PySem.W.Frag) (H : Hp) (a : Addr) : Prop := IsD H a ∨ ∃ kvs, DNR P w K H a kvs
theorem IsDX.at (I : Inv X pins σ H s) (h : IsDX X.prog X.w X.K H a) : s.TypeIs (.ref a) "dict" ∧ (∀ b, Value.ref a = .ref b → ∃ ob, s.heap.get? b = some ob ∧ ob.dict = none) ∧ (a == sysModules) = false := by
  rcases h with h | ⟨kvs, h⟩
  · exact isD_at I h
  · obtain ⟨hd, xs, _, dd⟩ := h.of I
    refine ⟨dd.typeIs, fun b q => ?_, hd⟩
    cases q
    obtain ⟨ob, _, _, h1, h2, _⟩ := dd
    exact ⟨ob, h1, h2.2.1⟩
theorem DGX.isD {P : Program} {w : World} {K : PySem.W.Frag} {y : V} {r : Option V} (h : DGX P w K H a y r) : IsDX P w K H a := by
  rcases h with (⟨kvs, k, e, _, _⟩ | ⟨kvs, k, b, e, _, _, _⟩) | ⟨kvs, κ, b, h, _⟩ | ⟨k, h, _⟩
  · exact .inl (.inl ⟨_, e⟩)
  · exact .inl (.inr ⟨_, e⟩)
  · exact .inr ⟨_, h⟩
  · exact .inr ⟨_, .n h (fun _ q => nomatch q)⟩
theorem nk_room {A : Around} (hu : A.units + 64 < cLine) {P : Program} {w : World} : (nestedKind P w).room A.in1 := by
  show A.in1.units + 8 < cLine
  simp only [Around.in1_units]
  omega
section
variable {A : Around} {E : Value → Shared → Prop} {y v : V} {u r : Value} {o : Option V}
theorem x_get2 {d : V} {Q : Value → Shared → Prop} (hu : A.units + 64 < cLine) (I : Inv X pins σ H s) (g : DGX X.prog X.w X.K H a y o) (ry : RelV y u) (rd : RelV d r) (h : ∀ w' s', Inv X pins σ H s' → RelV (o.getD d) w' → Q w' s') :
    wpAny (model X.prog X.w) A (call (.builtin "dict.get") [.ref a, u, r]) Q E s := by
  rcases g with g | ⟨kvs, κ, b, hx, rfl, hb, hv⟩ | ⟨k0, h0, rfl, hv⟩
  · exact d_get2 (by omega) I g ry rd h
  · cases (show u = Value.ref b from ry)
    obtain ⟨hd, xs, rel, dd⟩ := hx.of I
    refine getOr_keyed (nk_room hu) (hb.at I) hd ⟨xs, dd, rfl⟩ (h _ _ (I.tok _) ?_)
    rw [hv]
    exact ((dnRel_pairs rel).val κ).getD rd
  · obtain ⟨hd, dd⟩ := dn0_of I h0
    subst hv
    exact call_meetsIn PySem.F.slot_dict_get dd.typeIs PySem.F.entry_dict_get (PySem.F.args_dict_get_3 _ _ _) (meets_dict_get_default (mixKind X.prog X.w) a (kV_is ry) hd r) ⟨_, dd.mapOf, h _ _ (I.tok _) rd⟩
/-- the dict at a is written -/
theorem dn_store {kvs : DNs} {κ : NK} {b : Addr} {xs : List (NK × Addr × Value)} {h' : Heap} {t' : Nat} (I : Inv X pins σ H s) (mu : Mut (H a)) (hd : (a == sysModules) = false) (rel : Paired dnRel kvs xs) (rv : RelV v r)
    (dd' : h'.DictOfH (nestedKind X.prog X.w) a (storedH xs κ b r)) (hs : Heap.SameBut a s.heap h') : Inv X pins σ (upd H a (DNO X.prog X.w a (dnPut kvs κ b v))) { s with heap := h', toks := t' } := by
  obtain ⟨q, _, _, hq, _⟩ := id dd'
  exact d_write I mu hs ⟨q, hq⟩ (dn_new hd (dnRel_put rel κ rv) dd')
theorem x_setItem {Q : Unit → Shared → Prop} (hu : A.units + 64 < cLine) (I : Inv X pins σ H s) (g : DPX X.prog X.w X.K H a y v H') (ry : RelV y u) (rv : RelV v r) (h : ∀ s', Inv X pins σ H' s' → Q () s') :
    wpAny (model X.prog X.w) A (setItem (.ref a) u r) Q E s := by
  rcases g with g | ⟨kvs, κ, b, hx, mu, rfl, hb, hl, rfl⟩ | ⟨k0, h0, mu, rfl, rfl⟩
  · exact d_setItem (by omega) I g ry rv h
  · cases (show u = Value.ref b from ry)
    obtain ⟨hd, xs, rel, dd⟩ := hx.of I
    have hz : xs.length ≤ sizeLine := by rw [← Paired.length rel]; exact Nat.le_of_lt hl
    exact wpAny_setItem_heap (hsz := hz) (nk_room hu) (hb.at I) dd fun h' dd' hs => h _ (dn_store I mu hd rel rv dd' hs)
  · obtain ⟨hd, dd⟩ := dn0_of I h0
    refine wpAny_setItem_pairs (hsz := Nat.zero_le _) (kV_is ry) dd fun h' dd' hs => h _ ?_
    have he : ∃ q, h'.get? a = some q := let ⟨q, _, _, hq, _⟩ := dd'; ⟨q, hq⟩
    exact d_write I mu hs he (dk_new (by show 1 ≤ sizeLine; decide) hd ((KV.put (kvs := []) .nil k0 rv)) dd')
end
end
/-! ### the rules -/
def tXGet2 (Z : ZP) (K : PySem.W.Frag) (td ty tx : TE) : TE := fun σ H Q => td σ H fun x H1 => ∃ a, x = .ref a ∧ IsDX Z.p Z.w K H1 a ∧ ty σ H1 fun y H2 => tx σ H2 fun z H3 => ∃ o, DGX Z.p Z.w K H3 a y o ∧ Q (o.getD z) H3
def sXPut (Z : ZP) (K : PySem.W.Frag) (td ty tv : TE) : TS := fun D σ H => tv σ H fun v H1 => td σ H1 fun x H2 => ty σ H2 fun y H3 => ∃ a H4, x = .ref a ∧ DPX Z.p Z.w K H3 a y v H4 ∧ D.nx σ H4
section
variable {X : Cx} {o i e f value : Expr} {pos pos' tpos apos cpos : Pos} {td ty tv tx : TE}
theorem ps_xput (hu : X.A.units + 64 < cLine) (ho : PE X o td) (hi : PE X i ty) (hv : PE X value tv) (hs : swapsWith value (some (.Subscript o i pos')) pos.line X.env = pure false) :
    PS X (.Assign [.Subscript o i pos'] value pos) (sXPut ⟨X.prog, X.w, ls⟩ X.K td ty tv) := by
  refine ⟨fun pins s σ H D I h => ?_⟩
  refine wpAny_Assign_Subscript (thn (hv.run pins s σ H _ I h) fun r s1 ⟨v, H1, I1, rv, q1⟩ => thn (ho.run pins s1 σ H1 _ I1 q1) fun u s2 ⟨x, H2, I2, rx, q2⟩ => thn (hi.run pins s2 σ H2 _ I2 q2) fun iv s3 ⟨y, H3, I3, ry, a, H4, ex, g, q3⟩ => ?_) hs
  subst ex
  obtain rfl : u = Value.ref a := rx
  exact x_setItem hu I3 g ry rv fun s4 I4 => ⟨σ, H4, I4, q3⟩
theorem pe_xget2 (hu : X.A.units + 64 < cLine) (ho : PE X o td) (he : PE X e ty) (hf : PE X f tx) (m : M2 X o "get" apos e f cpos) : PE X (.Call (.Attribute o "get" apos) [e, f] [] cpos) (tXGet2 ⟨X.prog, X.w, ls⟩ X.K td ty tx) := by
  refine ⟨fun pins s σ H Q I h => ?_⟩
  refine wpAny_Call_method m.base m.few m.line PySem.F.plainAttrs_dict PySem.F.slot_dict_get PySem.F.type_dict_get (thn (ho.run pins s σ H _ I h) fun u s1 ⟨x, H1, I1, rx, a, ex, d, q1⟩ => ?_)
  subst ex
  obtain rfl : u = Value.ref a := rx
  obtain ⟨t1, t2, _⟩ := d.at I1
  refine ⟨t1, t2, ?_⟩
  rw [m.trees]
  refine Calls.callWith_builtin rfl (Calls.evalArgs_plain (Calls.spliced_cons (thn (he.run pins s1 σ H1 _ I1 q1) fun iv s2 ⟨y, H2, I2, ry, q2⟩ =>
    Calls.spliced_cons (thn (hf.run pins s2 σ H2 _ I2 q2) fun fv s3 ⟨z, H3, I3, rz, ov, g, q3⟩ => Calls.spliced_nil ?_))))
  exact x_get2 hu I3 g ry rz fun w' s4 I4 rw' => ⟨_, H3, I4, rw', q3⟩
end
end Nc

namespace Nc
open PySem PySem.Spec PyProof.Rows L2
variable {ls : Clos}
/-! ## dict comprehensions, keys flat or tuples (the way of HandS.DictComp, with the store of NcDN) -/
section
variable {X : Cx}
end
/-! a new dict, locked: from now on a datum -/
/-- ahead of statements: the dict in slot i is locked -/
def tFrz (i : Nat) (t : TS) : TS := fun D σ H => ∃ a u, σ[i]? = some (some (.ref a)) ∧ H a = some u ∧ Mut (some u) ∧ ∀ od, t D σ (upd H a (.frz od u))
theorem pss_frz {X : Cx} {st : List Stmt} {i : Nat} {t : TS} (h : PSs X st t) : PSs X st (tFrz i t) := by
  refine ⟨fun pins s σ H D I hw => ?_⟩
  obtain ⟨a, u, _, hd, mu, hw⟩ := hw
  obtain ⟨od, I1⟩ := I.lock hd mu
  exact h.run pins s σ _ _ I1 (hw od)
end Nc

namespace Nc
open PySem PySem.Spec PyProof.Rows L2
variable {ls : Clos}
/-! ## a locked dict walked, whatever its keys -/
/-- the dict's entries: its keys and values -/
inductive DkE (P : Program) (w : World) (d : Addr) : HO → List (V × V) → Prop
  | k (kvs : List (Key × V)) : DkE P w d (.dK kvs) (kvs.map fun p => (kV p.1, p.2))
  | n (kvs : DNs) : DkE P w d (DNO P w d kvs) (kvs.map fun p => (.ref p.2.1, p.2.2))
section
variable {X : Cx} {pins : List (Addr × Obj)} {σ : L2.St} {H : Hp} {s : Shared} {d : Addr} {o : Obj} {u : HO} {es : List (V × V)}
end
section
variable {P : Program} {w : World} {K : PySem.W.Frag} {tg : Expr} {d : Addr} {o : Obj} {ents : Array DictEntry} {ep : Nat} {u : HO} {es : List (V × V)}
end
section
variable {X : Cx} {tg e : Expr} {td : TE} {apos cpos : Pos}
end
end Nc

namespace Nc
open PySem PySem.Spec PyProof.Rows L2
/-! ## t.index(i), ints -/
/-- the tuple at a has no dict of its own (locked with its object, or the module's) -/
def NdT (K : PySem.W.Frag) (H : Hp) (a : Addr) : Prop := (∃ o xs, H a = some (.frz o (.tup xs)) ∧ o.dict = none) ∨ ∃ o, K.lookup a = some o ∧ o.dict = none
theorem NdT.same {K : PySem.W.Frag} {H H' : Hp} {a : Addr} (e : Same H H') (h : NdT K H a) : NdT K H' a := h.elim (fun ⟨o, xs, h, d⟩ => .inl ⟨o, xs, e _ _ h, d⟩) .inr
theorem NdT.at {X : Cx} {pins : List (Addr × Obj)} {σ : L2.St} {H : Hp} {s : Shared} {a : Addr} (I : L2.Inv X pins σ H s) (h : NdT X.K H a) : ∃ ob, s.heap.get? a = some ob ∧ ob.dict = none := by
  rcases h with ⟨o, xs, h, d⟩ | ⟨o, h, d⟩
  · exact ⟨o, (I.hok a _ h).1, d⟩
  · exact ⟨o, I.kIn a o h, d⟩
section
variable {X : Cx} {o e : Expr} {apos cpos : Pos} {to ty : TE}
end
/-- a new tuple, told with its object: it has no dict of its own -/
def newTF (xs : List V) (H : Hp) (Q : VK) : Prop := xs.length ≤ sizeLine ∧ ∀ p o, H p = none → o.dict = none → Q (.ref p) (upd H p (.frz o (.tup xs)))
def tTupF (t : TA) : TE := fun σ H Q => t σ H fun xs H1 => newTF xs H1 Q
theorem tupF_ok {P : Program} {w : World} {H : Hp} {h : Heap} {a : Addr} {o : Obj} {xs : List V} {us : List Value} {n : Nat} (z : xs.length ≤ sizeLine) (r : Vals xs us) (e : h.get? a = some o) (hc : o.cls = .type "tuple") (hd : o.data = .seq us.toArray n) : ObjOk P w H h a (.frz o (.tup xs)) :=
  ⟨e, z, us, r, o, e, hc, n, hd⟩
section
variable {X : Cx} {es : List Expr} {t : TA} {pos : Pos}
theorem pe_tupF {x1} (h : PA X es t) : PE X (.Tuple es x1 pos) (tTupF t) := by
  refine ⟨fun pins s σ H Q I hq => ?_⟩
  refine wpAny_Tuple_spliced (thn (h.run pos pins s σ H _ I hq) fun us s1 ⟨xs, H1, I1, r, z, q⟩ => ⟨by rw [← r.length]; exact z, ?_⟩)
  have hf : H1 s1.heap.objs.size = none := I1.hok.fresh (Nat.le_refl _)
  exact ⟨.ref s1.heap.objs.size, _, I1.laid (t' := s1.toks) (fun b u e => Heap.get?_push_of_some _ e) (Nat.le_refl _) (tupF_ok z r (Heap.get?_push_size _ rfl) rfl rfl), rfl, q _ _ hf rfl⟩
def rCatF (K : PySem.W.Frag) : R2 := fun x y H Q => ∃ a b xs ys, x = .ref a ∧ y = .ref b ∧ SqT K H a xs ∧ SqT K H b ys ∧ xs.length + ys.length ≤ sizeLine ∧
  (xs = [] → Q (.ref b) H) ∧ (xs ≠ [] → ys = [] → Q (.ref a) H) ∧ (xs ≠ [] → ys ≠ [] → ∀ p o, H p = none → o.dict = none → Q (.ref p) (upd H p (.frz o (.tup (xs ++ ys)))))
theorem op_catF : OpR X (binaryOp .Add) (rCatF X.K) := by
  intro pins s σ H x y v u Q I rx ry h
  obtain ⟨a, b, xs, ys, rfl, rfl, ha, hb, hz, q0, q1, q2⟩ := h
  obtain rfl : v = Value.ref a := rx
  obtain rfl : u = Value.ref b := ry
  obtain ⟨its, r1, p1, _⟩ := I.tuple ha
  obtain ⟨its2, r2, p2, _⟩ := I.tuple hb
  by_cases hx : xs = []
  · subst hx
    cases r1
    exact cat_tup0 p1 p2 ⟨.ref b, H, I, rfl, q0 rfl⟩
  · refine HT.cat_tup p1 p2 (fun z => hx (r1.nil_iff.mp z)) (fun z => ⟨.ref a, H, I, rfl, q1 hx (r2.nil_iff.mp z)⟩) (fun z => ?_) (by rw [← r1.length, ← r2.length]; exact hz)
    exact ⟨.ref s.heap.objs.size, _, I.laid (t' := s.toks) (fun b ob q => Heap.get?_push_of_some _ q) (Nat.le_refl _) (tupF_ok (by rw [List.length_append]; exact hz) (r1.append r2) (Heap.get?_push_size _ rfl) rfl rfl), rfl, q2 hx (fun w => z (r2.nil_iff.mpr w)) _ _ (I.hok.fresh (Nat.le_refl _)) rfl⟩
end
end Nc

-- @import HandS.WordsDict
-- @import HandS.TupLen
namespace Nc
open PySem PySem.Spec PyProof.Rows L2
variable {ls : Clos}
/-! ## d.setdefault(k, x) and len(d), any keys -/
/-- G: what stood there, and the heap behind, had nothing stood there -/
def DSX (P : Program) (w : World) (K : PySem.W.Frag) (H : Hp) (a : Addr) (y z : V) (G : Option V → Hp → Prop) : Prop :=
  (∃ (kvs : List (Key × V)) (k : Key), H a = some (.dK kvs) ∧ y = kV k ∧ kvs.length < sizeLine ∧ G (valV kvs k) (upd H a (.dK (putK kvs k z)))) ∨
  (∃ kvs κ b, DNR P w K H a kvs ∧ Mut (H a) ∧ y = .ref b ∧ KT8 K H κ b ∧ kvs.length < sizeLine ∧ G (valV (dnPairs kvs) κ) (upd H a (DNO P w a (dnPut kvs κ b z)))) ∨
  ∃ k : Key, Rd H a (DNO P w a []) ∧ Mut (H a) ∧ y = kV k ∧ G none (upd H a (.dK [(k, z)]))
section
variable {X : Cx} {pins : List (Addr × Obj)} {σ : L2.St} {H : Hp} {s : Shared} {a : Addr} {u r : Value} {A : Around} {E : Value → Shared → Prop}
end
section
variable {X : Cx} {o e f : Expr} {apos cpos : Pos} {td ty tx : TE}
end
end Nc

-- @import HandS.Finally
-- @import HandS.DictEq
namespace Nc
open PySem PySem.Spec PyProof.Rows L2
/-! ## dicts of flat keys: dict(d), d.clear(), d == e -/
/-- the pairs of a dict of ints and texts, or of an empty one -/
def DkR (P : Program) (w : World) (H : Hp) (a : Addr) (kvs : List (Key × V)) : Prop := Rd H a (.dK kvs) ∨ (kvs = [] ∧ Rd H a (DNO P w a []))
/-- dict(d): a copy -/
def rDictX (P : Program) (w : World) : List V → Hp → VK → Prop := fun xs H Q => ∃ a kvs, xs = [V.ref a] ∧ DkR P w H a kvs ∧ ∀ p, H p = none → Q (.ref p) (upd H p (.dK kvs))
/-- d.clear() -/
def rDClearX (P : Program) (w : World) : V → List V → Hp → VK → Prop := fun x vs H Q => ∃ a, x = .ref a ∧ vs = [] ∧ ((∃ kvs : List (Key × V), H a = some (.dK kvs)) ∨ H a = some (DNO P w a [])) ∧ Q .non (upd H a (.dK []))
section
variable {X : Cx} {pins : List (Addr × Obj)} {σ : L2.St} {H : Hp} {s : Shared} {a : Addr}
theorem DkR.of {kvs : List (Key × V)} (I : Inv X pins σ H s) (h : DkR X.prog X.w H a kvs) : kvs.length ≤ sizeLine ∧ (a == sysModules) = false ∧ ∃ vs, KV kvs vs ∧ s.heap.DictOf (mixKind X.prog X.w) a vs := by
  rcases h with h | ⟨rfl, h⟩
  · exact dk_rd I.hok h
  · obtain ⟨hd, dd⟩ := dn0_of I h
    exact ⟨Nat.zero_le _, hd, [], .nil, dd⟩
theorem call_dictX : CallR X (.type "dict") (rDictX X.prog X.w) := by
  intro pins s σ H xs us Q I r q
  obtain ⟨a, kvs, ex, hd, q⟩ := q
  subst ex
  obtain ⟨u, eu, rx⟩ := vals1 r
  subst eu
  cases rx
  obtain ⟨z, lo, vs, rel, dd⟩ := hd.of I
  refine kt_call_dict lo dd (by rw [← rel.length]; exact z) fun h' d' hs => ?_
  have hm : (s.heap.objs.size == sysModules) = false := beq_eq_false_iff_ne.mpr (Nat.ne_of_gt I.big)
  exact ⟨.ref s.heap.objs.size, upd H s.heap.objs.size (.dK kvs), I.laid (t' := s.toks) (fun b u e => (hs.2 b (Nat.ne_of_lt (Heap.lt_size e))).trans (Heap.get?_push_of_some _ e)) (Nat.le_refl _)
    (show L2.ObjOk X.prog X.w _ _ _ (.dK kvs) from ⟨z, hm, vs, rel, d'⟩), rfl, q _ (I.hok.fresh (Nat.le_refl _))⟩
theorem mt_dclearX : MtR X "dict.clear" (rDClearX X.prog X.w) := by
  intro pins s σ H x xs v us Q I rx rv h
  obtain ⟨a, rfl, rfl, e, q⟩ := h
  obtain rfl : v = Value.ref a := rx
  have hus := rv.zero
  subst hus
  rcases e with ⟨kvs, e⟩ | e
  · exact d_clear I e fun s' I' => ⟨.non, _, I', rfl, q⟩
  · obtain ⟨hd, dd⟩ := dn0_of I (.inl e)
    refine call_meetsIn PySem.F.slot_dict_clear dd.typeIs PySem.F.entry_dict_clear (PySem.F.args_dict_clear_1 _) (meets_dict_clear (mixKind X.prog X.w) a) ⟨[], dd, Nat.zero_le _, fun h' dd' hs => ?_⟩
    have he : ∃ q, h'.get? a = some q := let ⟨q, _, _, hq, _⟩ := dd'; ⟨q, hq⟩
    exact ⟨.non, _, d_write (t' := s.toks) I (by rw [e]; exact True.intro) hs he (dk_new (Nat.zero_le _) hd .nil dd'), rfl, q⟩
/-! ### dicts with ints as values, held against one another -/
def eqIV : Option V → V → Bool
  | some (.int j), .int i => decide (i = j)
  | _, _ => false
def dEqB (ka kb : List (Key × V)) : Bool := ka.length == kb.length && ka.all fun p => eqIV (valV kb p.1) p.2
def IntsD (ka : List (Key × V)) : Prop := ∀ p ∈ ka, ∃ i : Int, p.2 = .int i
theorem valV_mem {kb : List (Key × V)} {k : Key} {u : V} (h : valV kb k = some u) : ∃ p ∈ kb, p.2 = u := by
  unfold valV at h
  obtain ⟨p, hp, e⟩ := Option.map_eq_some_iff.mp h
  exact ⟨p, List.mem_of_find?_eq_some hp, e⟩
theorem hits_int {A : Around} {kb : List (Key × Value)} {kvb : List (Key × V)} (rb : KV kvb kb) (ib : IntsD kvb) : ∀ {kva : List (Key × V)} {ka : List (Key × Value)}, KV kva ka → IntsD kva → PySem.W.KeqHitsP X.prog X.w A s kb ka (kva.all fun p => eqIV (valV kvb p.1) p.2) := by
  intro kva ka ra
  unfold KV at ra
  induction ra with
  | nil => exact fun _ => .nil
  | @cons p q r1 r2 h t ih =>
    intro ia
    obtain ⟨k, v⟩ := p
    obtain ⟨k', v'⟩ := q
    obtain ⟨rfl, rv⟩ := h
    obtain ⟨i, hi⟩ := ia _ (List.mem_cons_self ..)
    cases (show v = V.int i from hi)
    obtain ⟨ti, rfl⟩ := rv
    have ih := ih fun p hp => ia p (List.mem_cons_of_mem _ hp)
    have q := rb.val k
    rw [List.all_cons]
    cases e : valV kvb k with
    | none =>
      rw [e] at q
      cases e2 : valueAt kb k with
      | some y => rw [e2] at q; exact (show False from q).elim
      | none => exact .miss e2
    | some u =>
      rw [e] at q
      cases e2 : valueAt kb k with
      | none => rw [e2] at q; exact (show False from q).elim
      | some y =>
        rw [e2] at q
        obtain ⟨p', hp', e3⟩ := valV_mem e
        obtain ⟨j, hj⟩ := ib p' hp'
        rw [hj] at e3
        subst e3
        obtain ⟨tj, rfl⟩ := (show RelV (V.int j) y from q)
        refine .hit e2 ?_ ih
        intro E Q hq
        refine wpAny_eqBool_int ?_
        rw [show (i == j) = decide (i = j) by rw [Bool.eq_iff_iff]; simp]
        exact hq
def rDEqX (P : Program) (w : World) (neg : Bool) : R2 := fun x y H Q => ∃ a b ka kb, x = .ref a ∧ y = .ref b ∧ DkR P w H a ka ∧ DkR P w H b kb ∧ IntsD ka ∧ IntsD kb ∧ Q (.bl (if neg then !dEqB ka kb else dEqB ka kb)) H
theorem rcP_dictsNe {prog : Program} {w : World} {K0 : Type} [DecidableEq K0] {knd : PySem.KeyKind prog w K0} {A : Around} {a b : Addr} {ka kb : List (K0 × Value)} {r : Bool} (ha : (a == sysModules) = false) (hb : (b == sysModules) = false)
    (da : s.heap.DictOf knd a ka) (db : s.heap.DictOf knd b kb) (hu : A.units < cLine) (hits : ka.length = kb.length → PySem.W.KeqHitsP prog w A.in1 s kb ka r) (E Q : Value → Shared → Prop) (h : Q (.bool (!(ka.length == kb.length && r))) s) : wpAny (model prog w) A (richCompare .NotEq (.ref a) (.ref b)) Q E s := by
  refine wpAny_richCompare_same_room (op := .NotEq) da.typeIs db.typeIs PySem.F.slot_dict_ne (wpAny_call_entry PySem.F.slot_dict_ne da.typeIs PySem.F.entry_dict_ne ?_ (PySem.F.args_dict_ne_2 _ _)) hu
  show wpAny _ _ (Builtin.Dict.dictSlotArgs "__ne__" ⟨[.ref a, .ref b], []⟩ >>= _) _ _ s
  refine wpAny_bind ?_
  unfold Builtin.Dict.dictSlotArgs
  refine wpAny_bind (wpAny_notOrdered_dict da.typeIs ?_)
  show wpAny _ _ (pure (Value.ref a, Value.ref b)) _ _ s
  refine wpAny_pure ?_
  refine wpAny_bind (wpAny_isInstance (T := "dict") db.typeIs PySem.F.sub_dict_dict ?_)
  simp only [Bool.not_true, Bool.false_eq_true, if_false]
  refine wpAny_bind (wpAny_pure (wpAny_bind (wpAny_pure ?_)))
  refine wpAny_bind (PySem.W.samePairsP ha hb da db hits ?_)
  refine wpAny_pure ⟨_, rfl, ?_, ?_⟩
  · exact fun x => nomatch x
  · simpa using h
theorem op_dNeX (hu : X.A.units + 64 < cLine) : OpR X (compareOp .NotEq) (rDEqX X.prog X.w true) := by
  intro pins s σ H x y v u Q I rx ry h
  obtain ⟨a, b, ka, kb, rfl, rfl, da, db, ia, ib, q⟩ := h
  cases rx
  cases ry
  obtain ⟨_, la, va, ra, dda⟩ := da.of I
  obtain ⟨_, lb, vb, rb, ddb⟩ := db.of I
  refine rcP_dictsNe la lb dda ddb (by omega) (fun _ => hits_int rb ib ra ia) _ _ ⟨.bl (!dEqB ka kb), H, I, ?_, q⟩
  unfold dEqB
  rw [ra.length, rb.length]
  rfl
end
end Nc

namespace Nc
open PySem PySem.Spec PyProof.Rows L2
/-! ## a tuple times an int -/
section
variable {X : Cx}
end
end Nc

namespace Nc
open PySem PySem.Spec PyProof.Rows L2
/-! ## len(o), o of an own class with a __len__ -/
end Nc

namespace Nc
open PySem PySem.Spec PyProof.Rows L2
/-! ### lambdas (their parameters have defaults, all of them): objects that are kept -/
/-! where a lambda stands in a def's text -/
/-- the tuple of the defaults -/
def DfO (d : Addr) (dv : List V) : HO := .ext fun h => ∃ us, h.get? d = some (PySem.W.kdv_tup us) ∧ Vals dv us
theorem dfO_new {P : Program} {w : World} {H : Hp} {h : Heap} {d : Addr} {dv : List V} {us : List Value} (e : h.get? d = some (PySem.W.kdv_tup us)) (r : Vals dv us) : ObjOk P w H h d (DfO d dv) :=
  ⟨⟨us, e, r⟩, ⟨_, e⟩, fun _ _ ⟨us, e, r⟩ k => ⟨us, k _ e, r⟩⟩
theorem dfO_nt {d : Addr} {dv : List V} (ps : Array Value) : DfO d dv ≠ .tbl ps := fun z => by
  unfold DfO at z
  cases z
/-- the defaults: none, or a tuple -/
def DfOk (H : Hp) (dv : List V) (df : Value) : Prop := (dv = [] ∧ df = .none) ∨ (dv ≠ [] ∧ ∃ d, df = .ref d ∧ H d = some (DfO d dv))
theorem DfOk.mono {H H' : Hp} {dv : List V} {df : Value} (h : DfOk H dv df) (x : LamX.ExtN H H') : DfOk H' dv df := h.imp id fun ⟨n, d, e, h⟩ => ⟨n, d, e, x _ _ h dfO_nt⟩
theorem DfOk.ext {H H' : Hp} {dv : List V} {df : Value} (h : DfOk H dv df) (x : ∀ b o, H b = some o → H' b = some o) : DfOk H' dv df := h.imp id fun ⟨n, d, e, h⟩ => ⟨n, d, e, x _ _ h⟩
/-- its object: made in a def whose cells are cl -/
def LamO (f : Addr) (q : Str) (t : LT) (cl : List (Str × Addr)) (c' : Addr) (df : Value) : HO := .ext fun h => ∃ pm ctv doc, h.get? f = some (PySem.W.kdv_obj "<lambda>" q t.ps (.expr t.b) t.sc cl df doc pm c' ctv)
theorem lamO_new {P : Program} {w : World} {H : Hp} {h : Heap} {f : Addr} {q : Str} {t : LT} {cl : List (Str × Addr)} {c' : Addr} {df : Value} (e : ∃ pm ctv doc, h.get? f = some (PySem.W.kdv_obj "<lambda>" q t.ps (.expr t.b) t.sc cl df doc pm c' ctv)) : ObjOk P w H h f (LamO f q t cl c' df) :=
  let ⟨pm, ctv, doc, e1⟩ := e
  ⟨⟨pm, ctv, doc, e1⟩, ⟨_, e1⟩, fun h1 h2 ⟨pm, ctv, doc, z⟩ k => ⟨pm, ctv, doc, k _ z⟩⟩
/-- its names: parameters that the maker knows not, captured ones, globals -/
structure LamP (N : List Str) (sc scope : Scope) : Prop where
  kind : scope.kind = .function
  co : scope.isCoroutine = false
  gen : scope.isGenerator = false
  cel : ∀ y ∈ scope.names, y.2 ≠ .cell
  loc : ∀ y ∈ scope.names, y.2 = .local → y.1 ∉ N
  free : ∀ y ∈ scope.names, y.2 = .free → sc.names.lookup y.1 = some .cell ∨ sc.names.lookup y.1 = some .free
def lamPB (N : List Str) (sc scope : Scope) : Bool :=
  (decide (scope.kind = .function) && (!scope.isCoroutine && !scope.isGenerator)) && scope.names.all fun y => match y.2 with
    | .cell => false
    | .local => !decide (y.1 ∈ N)
    | .free => decide (sc.names.lookup y.1 = some .cell) || decide (sc.names.lookup y.1 = some .free)
    | _ => true
theorem lamP_by {N : List Str} {sc scope : Scope} (h : lamPB N sc scope = true) : LamP N sc scope := by
  unfold lamPB at h
  rw [Bool.and_eq_true, Bool.and_eq_true, Bool.and_eq_true] at h
  obtain ⟨⟨k, c, g⟩, al⟩ := h
  have al := List.all_eq_true.mp al
  refine ⟨of_decide_eq_true k, by simpa using c, by simpa using g, fun y hy z => ?_, fun y hy z => ?_, fun y hy z => ?_⟩
  · have q := al y hy
    rw [z] at q
    cases q
  · have q := al y hy
    rw [z] at q
    simpa using q
  · have q := al y hy
    rw [z] at q
    simpa using q
theorem LamP.has {X : Cx} {scope : Scope} (L : LamP X.N X.env.scope scope) (ok : X.Ok) : ∀ y ∈ scope.names, y.2 = .free → ∃ c, X.env.cells.lookup y.1 = some c := fun y hy z => ok.has _ (L.free y hy z)
/-- its body's start, whatever its parameters are bound to -/
theorem lam_start3 {X : Cx} {pins : List (Addr × Obj)} {σ : L2.St} {H HZ : Hp} {s s1 : Shared} {Ad : Around} {out : List PySem.Env} {Ex : XK} {lsc : Scope} {f co : Addr} {hb : Heap} {tk : Nat} {mm : Str → Option Value} (I : L2.Inv X pins σ H s) (L : LamP X.N X.env.scope lsc) (z0 : Env0 X.prog X.w X.K X.mg X.base Ad out s1 HZ) (nh : Ad.handled = none)
    (un : Un (frs X.stack) [] H HZ s.heap s1.heap) (ns : hb.Ns s1.heap.objs.size mm) (keep : ∀ b o, s1.heap.get? b = some o → hb.get? b = some o) : L2.Inv (LamX.lamCx X Ad out s1 HZ Ex lsc f co) [] σ HZ { s1 with heap := hb, toks := tk } := by
  have back : ∀ {y : Str} {c : Addr}, (cloFrom X.env.cells lsc.names []).lookup y = some c → X.env.cells.lookup y = some c := fun {y c} e => by
    rcases cloFrom_mem (PySem.mem_of_lookup e) with m | ⟨m, ec⟩
    · cases m
    · obtain ⟨c', e'⟩ := L.has I.ok _ m rfl
      have e' : X.env.cells.lookup y = some c' := e'
      have : c = c' := by rw [ec, e'] <;> rfl
      rw [this]; exact e'
  have there : ∀ {y : Str}, lsc.names.lookup y = some .free → ∃ c, (cloFrom X.env.cells lsc.names []).lookup y = some c := fun {y} e =>
    mem_lookup (cloFrom_has (cells := X.env.cells) (acc := []) (show (y, NameKind.free) ∈ lsc.names from PySem.mem_of_lookup e))
  have cellIn : ∀ {c : Addr} {v : Option Value}, H c = none → s.heap.IsCell c v → hb.IsCell c v := fun {c v} n ⟨o, a, d⟩ =>
    let ⟨_, q⟩ := un.any a n (by simp)
    ⟨_, keep _ _ q, d⟩
  have none_ : ∀ b : Addr, b ∉ (LamX.lamCx X Ad out s1 HZ Ex lsc f co).ex := fun b => List.not_mem_nil
  have hOk : (LamX.lamCx X Ad out s1 HZ Ex lsc f co).Ok := by
    refine ⟨z0.mod, L.kind, rfl, rfl, Nat.le_refl _, fun y z c a b => I.ok.inj y z c (back a) (back b), fun y hy => ?_, fun y c z _ => (by cases (show false = true from z)), fun _ => nh, Around.frames_deeper z0.frames, .inr ⟨rfl, rfl⟩, fun b z => absurd z (none_ b), z0.bs, z0.bsz, fun b _ _ => none_ b, fun b z => absurd z (none_ b), z0.funs, z0.frf⟩
    rcases (show lsc.names.lookup y = some .cell ∨ lsc.names.lookup y = some .free from hy) with k | k
    · exact absurd rfl (L.cel _ (PySem.mem_of_lookup k))
    · exact there k
  have hLoc : ∃ m, hb.Ns s1.heap.objs.size m ∧ ∀ (i : Nat) (y : Str) (v : V), X.N[i]? = some y → σ[i]? = some (some v) → Vis lsc y → ∃ w', RelV v w' ∧ ((lsc.names.lookup y = some .local ∧ m y = some w') ∨ ((lsc.names.lookup y = some .cell ∨ lsc.names.lookup y = some .free) ∧ ∃ c, (cloFrom X.env.cells lsc.names []).lookup y = some c ∧ hb.IsCell c (some w'))) := by
    refine ⟨_, ns, fun i y v a b vis => ?_⟩
    rcases vis with k | k | k
    · exact absurd (List.mem_of_getElem? a) (L.loc _ (PySem.mem_of_lookup k) rfl)
    · exact absurd rfl (L.cel _ (PySem.mem_of_lookup k))
    · obtain ⟨m, _, lk⟩ := I.loc
      have fr := L.free _ (PySem.mem_of_lookup k) rfl
      obtain ⟨w', r, q⟩ := lk i y v a b (fr.elim (fun k => .inr (.inl k)) fun k => .inr (.inr k))
      obtain ⟨c, hc⟩ := there k
      refine ⟨w', r, .inr ⟨.inr k, c, hc, ?_⟩⟩
      have hc := back hc
      rcases q with ⟨k', _⟩ | ⟨_, c3, e3, ic⟩
      · have k' : X.env.scope.names.lookup y = some .local := k'
        rcases fr with k2 | k2 <;> (rw [show X.env.scope.names.lookup y = _ from k2] at k'; cases k')
      · rw [hc] at e3
        cases e3
        exact cellIn (I.freeC y _ hc) ic
  refine ⟨hOk, rfl, z0.bare, Un.kept keep, hLoc, fun y c e => ?_, z0.hok.fresh (Nat.le_refl _), fun y c e => ?_, fun q m => absurd (show q ∈ ([] : List (Addr × Obj)) ++ [] from m) (by simp), z0.hok.kept keep, I.len⟩
  · obtain ⟨w', z⟩ := I.cell y c (back e)
    exact ⟨w', cellIn (I.freeC y c (back e)) z⟩
  · obtain ⟨_, o, ho, _⟩ := I.cell y c (back e)
    exact un.free c o ho (I.freeC y c (back e)) (by simp)
/-- the def's code object is known, and its table of lambdas -/
structure TbAt (X : Cx) (T : List (Addr × Str)) : Prop where
  ex : ∃ c P, LamX.TabB X.base X.mg c P ∧ X.env.code = .ref c ∧ (P, X.env.qual ++ "<lambda>") ∈ T ∧ ∀ p ∈ T, p.1 = P → p.2 = X.env.qual ++ "<lambda>"
section
variable {X : Cx} {pins : List (Addr × Obj)} {σ : L2.St} {H : Hp} {s : Shared}
/-- a lambda's function object is made; it is known from now on -/
theorem lam_tail {T : List (Addr × Str)} {t : LT} {pos : Pos} {E : Value → Shared → Prop} {Q : Value → Shared → Prop} {df : Value} (I : L2.Inv X pins σ H s) (TB : TbAt X T) (hT : LamX.Tabs T H)
    (hc : ∀ y ∈ t.sc.names, y.2 = .free → ∃ c, X.env.cells.lookup y.1 = some c)
    (k : ∀ (f c' : Addr) (H1 : Hp) (s' : Shared), L2.Inv X pins σ H1 s' → LamX.ExtN H H1 → (∀ b, H1 b = none → H b = none) → LamX.Tabs T H1 → H f = none →
      H1 f = some (LamO f (X.env.qual ++ "<lambda>") t (cloFrom X.env.cells t.sc.names []) c' df) → H1 c' = some (LamX.CodeO c' (X.env.qual ++ "<lambda>")) → Q (.ref f) s') :
    wpAny (model X.prog X.w) X.A (makeTail "<lambda>" (X.env.qual ++ "<lambda>") t.ps (.expr t.b) t.sc X.env df .none none pos pos.line) Q E s := by
  obtain ⟨c, P, B, hcode, hm, hu⟩ := TB.ex
  obtain ⟨ps, hP, tri, among⟩ := hT _ hm
  have onB : s.heap.BuiltinsAt X.mg P := B.bm.keeps I.bk
  have atP : s.heap.get? P = some { cls := .none, data := .fields ps } := I.hok P _ hP
  have gl := I.mod.glob.keeps I.bk
  have cd := B.code.keeps I.bk
  have clo := closure_ok hc
  -- the object is laid upon what is known of the rest
  have lay : ∀ {H2 : Hp} {h2 : Heap} {tk : Nat} {c' : Addr} {ctv doc : Value}, L2.Inv X pins σ H2 { s with heap := h2, toks := tk } → s.heap.objs.size ≤ h2.objs.size → LamX.ExtN H H2 → (∀ b, H2 b = none → H b = none) → LamX.Tabs T H2 → H2 c' = some (LamX.CodeO c' (X.env.qual ++ "<lambda>")) →
      Q (.ref h2.objs.size) { s with heap := h2.push (PySem.W.kdv_obj "<lambda>" (X.env.qual ++ "<lambda>") t.ps (.expr t.b) t.sc (cloFrom X.env.cells t.sc.names []) df doc ((X.mg "__name__").getD .none) c' ctv), toks := tk } := fun {H2 h2 tk c' ctv doc} J le e1 e2 e3 e4 => by
    have n2 : H2 h2.objs.size = none := J.hok.fresh (Nat.le_refl _)
    have J2 := J.laid (t' := tk) (o := LamO h2.objs.size (X.env.qual ++ "<lambda>") t (cloFrom X.env.cells t.sc.names []) c' df) (fun b o e => Heap.get?_push_of_some (PySem.W.kdv_obj "<lambda>" (X.env.qual ++ "<lambda>") t.ps (.expr t.b) t.sc (cloFrom X.env.cells t.sc.names []) df doc ((X.mg "__name__").getD .none) c' ctv) e) (Nat.le_refl _) (lamO_new ⟨_, ctv, doc, Heap.get?_push_size _ rfl⟩)
    have s2 : ∀ b o, H2 b = some o → upd H2 h2.objs.size (LamO h2.objs.size (X.env.qual ++ "<lambda>") t (cloFrom X.env.cells t.sc.names []) c' df) b = some o := same_new n2
    refine k _ c' _ _ J2 (e1.trans (LamX.ExtN.of s2)) (fun b e => e2 b ?_) (e3.ext s2) (e2 _ n2) upd_same (s2 _ _ e4)
    by_cases z : b = h2.objs.size
    · rw [z, upd_same] at e; cases e
    · rw [upd_ne z] at e; exact e
  cases q : codeAmong pos ps.toList with
  | some cv =>
    obtain ⟨c', rfl, known⟩ := among pos cv q
    refine PySem.W.kdv_makeTailHit (mg := X.mg) (c := c) (P := P) (ps := ps) clo I.ok.glob gl hcode cd atP tri q onB fun ctv doc h2 tk kp le => ?_
    exact lay (I.kept kp) le (LamX.ExtN.refl H) (fun _ e => e) hT known
  | none =>
    refine PySem.W.kdv_makeTail (mg := X.mg) (c := c) (P := P) (ps := ps) clo I.ok.glob gl hcode cd atP tri q B.gP onB fun c' ctv doc h2 tk kp le lt rec_ tab_ => ?_
    obtain ⟨c1, oc, vs, tt, e0, o1, o2, o3⟩ := rec_
    cases e0
    have nc : H c' = none := I.hok.fresh le
    have nPc : P ≠ c' := ne_of_none hP nc
    have J := LamX.inv_table (t' := tk) (more := #[rawInt pos.line, rawInt pos.col, .ref c']) (h' := h2) I hP (fun b o n e => kp b o n e) tab_ le ⟨oc, vs, tt, o1, o2, o3⟩
    generalize hH2 : upd (upd H P (.tbl (ps ++ #[rawInt pos.line, rawInt pos.col, .ref c']))) c' (LamX.CodeO c' (X.env.qual ++ "<lambda>")) = H2 at J
    have at_ : ∀ b, b ≠ P → b ≠ c' → H2 b = H b := fun b n1 n2 => by rw [← hH2, upd_ne n2, upd_ne n1]
    have atT : H2 P = some (.tbl (ps ++ #[rawInt pos.line, rawInt pos.col, .ref c'])) := by rw [← hH2, upd_ne nPc, upd_same]
    have atC : H2 c' = some (LamX.CodeO c' (X.env.qual ++ "<lambda>")) := by rw [← hH2, upd_same]
    have ext : LamX.ExtN H H2 := fun b o e n => by
      rw [at_ b (fun z => by rw [z, hP] at e; exact n ps (Option.some.inj e).symm) (ne_of_none e nc)]; exact e
    refine lay J (Nat.le_trans le (Nat.le_of_lt lt)) ext (fun b e => ?_) (fun p hp => ?_) atC
    · by_cases z1 : b = P
      · rw [z1, atT] at e; cases e
      · by_cases z2 : b = c'
        · rw [z2]; exact nc
        · rw [at_ b z1 z2] at e; exact e
    · by_cases z : p.1 = P
      · rw [hu p hp z, z]
        have el : (ps ++ #[rawInt pos.line, rawInt pos.col, .ref c']).toList = ps.toList ++ [rawInt pos.line, rawInt pos.col, .ref c'] := by simp
        refine ⟨_, atT, by rw [el]; exact PySem.TriplesOk_snoc _ _ _ _ tri, fun p' cv h => ?_⟩
        rw [el] at h
        rcases LamX.among_app _ tri h with y | y
        · obtain ⟨c0, z1, z2⟩ := among p' cv y
          exact ⟨c0, z1, ext _ _ z2 LamX.codeO_ne⟩
        · exact ⟨c', y, atC⟩
      · obtain ⟨ps', a1, a2, a3⟩ := hT p hp
        refine ⟨ps', by rw [at_ _ z (ne_of_none a1 nc)]; exact a1, a2, fun p' cv h => ?_⟩
        obtain ⟨c0, z1, z2⟩ := a3 p' cv h
        exact ⟨c0, z1, ext _ _ z2 LamX.codeO_ne⟩
/-- the defaults are read -/
inductive EvD (X : Cx) : List Expr → List V → Prop
  | nil : EvD X [] []
  | cons {e : Expr} {es : List Expr} {v : V} {vs : List V} : PE X e (fun _ H Q => Q v H) → EvD X es vs → EvD X (e :: es) (v :: vs)
theorem evD_run {es : List Expr} {vs : List V} (h : EvD X es vs) : ∀ {s : Shared} {Q : List Value → Shared → Prop}, L2.Inv X pins σ H s → (∀ us s', L2.Inv X pins σ H s' → Vals vs us → Q us s') → wpAny (model X.prog X.w) X.A (evalAll (evalEach es X.env)) Q X.xe s := by
  induction h with
  | nil => exact fun I k => PySem.W.kdv_all0 (k [] _ I .nil)
  | cons he _ ih => exact fun {s Q} I k => PySem.W.kdv_all1 (thn (he.run pins s σ H (fun v' H1 => v' = _ ∧ H1 = H) I ⟨rfl, rfl⟩) fun u s1 ⟨v', H1, J, rv, ev, eH⟩ => by
      subst ev eH
      exact ih J fun us s2 J2 r => k (u :: us) s2 J2 (.cons rv r))
/-- a lambda's defaults: none, or read as dv -/
inductive LDf (X : Cx) (t : LT) : Prop
  | no : t.dv = [] → defaultsOf t.ps X.env = ([], []) → LDf X t
  | yes : t.dv ≠ [] → t.ps.defaults.isEmpty = false → t.ps.kw_defaults = [] → t.ps.kwonlyargs = [] → EvD X t.ps.defaults t.dv → LDf X t
/-- a lambda is made; it is known from now on -/
theorem lam_laid {T : List (Addr × Str)} {t : LT} {pos : Pos} {Q : Value → Shared → Prop} (I : L2.Inv X pins σ H s) (TB : TbAt X T) (hT : LamX.Tabs T H) (hd : LDf X t)
    (hc : ∀ y ∈ t.sc.names, y.2 = .free → ∃ c, X.env.cells.lookup y.1 = some c)
    (k : ∀ (f c' : Addr) (df : Value) (H1 : Hp) (s' : Shared), L2.Inv X pins σ H1 s' → LamX.ExtN H H1 → (∀ b, H1 b = none → H b = none) → LamX.Tabs T H1 → H f = none →
      H1 f = some (LamO f (X.env.qual ++ "<lambda>") t (cloFrom X.env.cells t.sc.names []) c' df) → H1 c' = some (LamX.CodeO c' (X.env.qual ++ "<lambda>")) → DfOk H1 t.dv df → (∀ d, df = .ref d → H d = none) → Q (.ref f) s') :
    wpAny (model X.prog X.w) X.A (eval (.Lambda t.ps t.b t.sc pos) X.env) Q X.xe s := by
  cases hd with
  | no e0 hd =>
    refine PySem.W.kla_eval hd ?_
    rw [makeFunction_eq]
    simp only [List.zip_nil_right, List.filterMap_nil, List.isEmpty_nil, if_true, pure_bind]
    exact lam_tail I TB hT hc fun f c' H1 s' J a1 a2 a3 a4 a5 a6 => k f c' .none H1 s' J a1 a2 a3 a4 a5 a6 (.inl ⟨e0, rfl⟩) (fun _ z => by cases z)
  | yes n0 e1 e2 e3 ev =>
    refine PySem.W.kdv_lam e1 e2 (evD_run ev I fun us s1 J r => ?_)
    rw [makeFunction_eq]
    have ne : us.isEmpty = false := by
      cases us with
      | nil => exact absurd (List.eq_nil_of_length_eq_zero r.length) n0
      | cons _ _ => rfl
    simp only [e3, List.zip_nil_right, List.filterMap_nil, List.isEmpty_nil, if_true, pure_bind, ne, Bool.false_eq_true, if_false]
    refine wpAny_bind (wpAny_newTextTuple ?_)
    have nd : H s1.heap.objs.size = none := J.hok.fresh (Nat.le_refl _)
    have J2 := J.laid (t' := s1.toks) (o := DfO s1.heap.objs.size t.dv) (fun b o e => Heap.get?_push_of_some (PySem.W.kdv_tup us) e) (Nat.le_refl _) (dfO_new (Heap.get?_push_size _ rfl) r)
    have s2 : ∀ b o, H b = some o → upd H s1.heap.objs.size (DfO s1.heap.objs.size t.dv) b = some o := same_new nd
    have n2 : ∀ b, upd H s1.heap.objs.size (DfO s1.heap.objs.size t.dv) b = none → H b = none := fun b e => by
      by_cases z : b = s1.heap.objs.size
      · rw [z, upd_same] at e; cases e
      · rw [upd_ne z] at e; exact e
    exact lam_tail J2 TB (hT.ext s2) hc fun f c' H1 s' J a1 a2 a3 a4 a5 a6 => k f c' (.ref s1.heap.objs.size) H1 s' J ((LamX.ExtN.of s2).trans a1) (fun b e => n2 b (a2 b e)) a3 (n2 _ a4) a5 a6 (.inr ⟨n0, _, rfl, a1 _ _ upd_same dfO_nt⟩) (fun d z => by cases z; exact nd)
/-- a lambda called with nothing: what its parameters are bound to -/
inductive LBind (t : LT) : Prop
  | no : t.dv = [] → (∀ (q : Str) (cl : List (Str × Addr)) (doc pm cv ctv : Value), bindArgs (PySem.W.kdv_fn "<lambda>" q t.ps (.expr t.b) t.sc cl .none doc pm cv ctv) ⟨[], []⟩ = pure []) → LBind t
  | yes : t.dv ≠ [] → (∀ (q : Str) (cl : List (Str × Addr)) (df doc pm cv ctv : Value) (us : List Value), us.length = t.dv.length → ∃ k binds, bindArgs (PySem.W.kdv_fn "<lambda>" q t.ps (.expr t.b) t.sc cl df doc pm cv ctv) ⟨[], []⟩ = seqItems? df >>= k ∧ k (some us.toArray) = pure binds ∧ ∀ y ∈ binds, t.sc.names.lookup y.1 = some .local) → LBind t
theorem LBind.to {t : LT} (h : LBind t) {s : Shared} {H : Hp} {df : Value} {P : Program} {w : World} (hok : ∀ a o, H a = some o → ObjOk P w H s.heap a o) (d : DfOk H t.dv df) (q : Str) (cl : List (Str × Addr)) (doc pm cv ctv : Value) :
    ∃ binds, BindsTo s (PySem.W.kdv_fn "<lambda>" q t.ps (.expr t.b) t.sc cl df doc pm cv ctv) ⟨[], []⟩ binds ∧ ∀ y ∈ binds, t.sc.names.lookup y.1 = some .local := by
  rcases d with ⟨d1, d2⟩ | ⟨d1, dd, d2, d3⟩
  · subst d2
    cases h with
    | no e h => exact ⟨[], BindsTo.of_eq (h q cl doc pm cv ctv), fun y hy => by cases hy⟩
    | yes n _ => exact absurd d1 n
  · subst d2
    obtain ⟨us, g, r⟩ := (hok _ _ d3).1
    cases h with
    | no e _ => exact absurd e d1
    | yes _ h =>
      obtain ⟨k, binds, h1, h2, h3⟩ := h q cl (.ref dd) doc pm cv ctv us r.length.symm
      exact ⟨binds, BindsTo.of_defaults rfl g rfl h1 h2, h3⟩
/-- x(), x a lambda of the maker X, in a def that got it; Z: that def's context, entered at s -/
theorem pe_actO {CXg : CXT} {Eg : XK} {Ng : List Str} {qg : Str} {sg : Scope} {g f c' : Addr} {cdg df : Value} {t : LT} {k i : Nat} {a : Str} {pn : List (Addr × Obj)} {xe : Value → Shared → Prop} {W : WX} {E : XK} {tb : TE} {p1 p2 : Pos}
    (I : L2.Inv X pins σ H s) (L : LamP X.N X.env.scope t.sc) (hbind : LBind t)
    (tk : Takes ((cxOf CXg X.prog X.w X.K X.mg X.base Ng qg sg g cdg X.A X.stack s H Eg).tr pn xe) W) (hW : ∀ cls d σ' H', E cls d H' → W cls d σ' H') (hr : Room (k + 1) (X.A.deeper (envOfC qg sg s.heap.objs.size g cdg)))
    (hbody : ∀ (A : Around) (outer : List PySem.Env) (s : Shared) (H : Hp), Room k (A.deeper (LamX.lamEnv X t.sc s.heap.objs.size f c')) → PE (LamX.lamCx X A outer s H E t.sc f c') t.b tb)
    (hN : Ng[i]? = some a) (hv : Vis sg a) (hd : (a == ("__debug__" : Str)) = false := by decide) (hcd : (a == ("__classdict__" : Str)) = false := by decide) :
    PE ((cxOf CXg X.prog X.w X.K X.mg X.base Ng qg sg g cdg X.A X.stack s H Eg).tr pn xe) (.Call (.Name a p1) [] [] p2)
      (fun σZ HZ Q => σZ[i]? = some (some (.ref f)) ∧ HZ f = some (LamO f (X.env.qual ++ "<lambda>") t (cloFrom X.env.cells t.sc.names []) c' df) ∧ HZ c' = some (LamX.CodeO c' (X.env.qual ++ "<lambda>")) ∧ (DfOk HZ t.dv df ∧ tb σ HZ Q)) := by
  refine ⟨fun pinsZ sZ σZ HZ Q IZ ⟨hs, hf, hc, hdf, ht⟩ => ?_⟩
  have rd := (pe_var (pos := p1) (i := i) hN hv hd hcd).run pinsZ sZ σZ HZ (fun v H1 => v = .ref f ∧ H1 = HZ) IZ ⟨.ref f, hs, rfl, rfl⟩
  refine wpAny_Call_Name_kw (thn rd fun u s1 ⟨v, H1, J, rv, ev, eH⟩ => ?_)
  subst ev eH
  obtain rfl : u = Value.ref f := rv
  obtain ⟨pm, ctv, doc, hob⟩ := (J.hok f _ hf).1
  obtain ⟨binds, hbt, hbl⟩ := hbind.to (fun a o e => J.hok a o e) hdf (X.env.qual ++ "<lambda>") (cloFrom X.env.cells t.sc.names []) doc pm (.ref c') ctv
  obtain ⟨oc, vs, tt, hoc, hdc, hvc⟩ := (J.hok c' _ hc).1
  refine PySem.W.callWith_F0 ⟨_, _, _, _, hob⟩ ?_
  have un : Un (frs X.stack) [] H H1 s.heap s1.heap := J.base
  refine wpAny_call (codeAny_mono (R := CR (L2.CX X.prog X.w) (envOfC qg sg s.heap.objs.size g cdg :: X.stack) X.prog X.w H1 s1 Q E) ?_ fun r s' hq => ?_)
  · refine PySem.W.kla_callFunE hr.depth hob rfl L.co L.gen rfl ⟨c', oc, vs, tt, rfl, hoc, hdc, hvc⟩ ?_
    refine hbt _ _ _ _ (wpAny_newFunctionEnv (fun y hy => L.cel y hy) hbl (fun h₁ hns hsb => ⟨J.nolimit.fresh _ hsb, ?_⟩) L.kind)
    have kp : ∀ b o, s1.heap.get? b = some o → h₁.get? b = some o := fun b o e => hsb.extBut b o (Nat.ne_of_lt (Heap.lt_size e)) (Heap.get?_push_of_some _ e)
    have J2 := lam_start3 (Ad := X.A.deeper (envOfC qg sg s.heap.objs.size g cdg)) (out := envOfC qg sg s.heap.objs.size g cdg :: X.stack) (Ex := E) (f := f) (co := c') (tk := s1.toks + binds.length) I L J.env0 hr.hd un hns kp
    show codeAny _ _ (.expr t.b (LamX.lamEnv X t.sc s1.heap.objs.size f c')) _ _
    refine PySem.W.kla_codeExpr (wpAny_mono ((hbody _ _ s1 H1 (hr.deeper _)).run [] _ _ H1 Q J2 ht) (fun v s' ⟨w', H', J', rv, q⟩ => ?_) fun e s' hq => hq)
    exact ⟨w', H', J'.os, J'.bare, J'.base, J'.hok, rv, q⟩
  · cases r with
    | error e => exact (passes_call tk hW) pinsZ σZ H1 s1 e s' J hq
    | ok fl =>
      cases fl with
      | ret u => exact J.after hq
      | next => exact False.elim hq
      | brk => exact False.elim hq
      | cont => exact False.elim hq
/-- a lambda as a value -/
def tMkL (T : List (Addr × Str)) (q : Str) (t : LT) (cl : List (Str × Addr)) : TE := fun _ H Q => LamX.Tabs T H ∧ ∀ (f c' : Addr) (df : Value) (H1 : Hp), LamX.ExtN H H1 → (∀ b, H1 b = none → H b = none) → LamX.Tabs T H1 → H f = none →
  H1 f = some (LamO f q t cl c' df) → H1 c' = some (LamX.CodeO c' q) → DfOk H1 t.dv df → (∀ d, df = .ref d → H d = none) → Q (.ref f) H1
theorem pe_lambda {T : List (Addr × Str)} {t : LT} {pos : Pos} (TB : TbAt X T) (L : LamP X.N X.env.scope t.sc) (hd : LDf X t) :
    PE X (.Lambda t.ps t.b t.sc pos) (tMkL T (X.env.qual ++ "<lambda>") t (cloFrom X.env.cells t.sc.names [])) := ⟨fun pins s σ H Q I ⟨hT, h⟩ =>
  lam_laid I TB hT hd (L.has I.ok) fun f c' df H1 s' J e1 e2 e3 e4 e5 e6 e7 e8 => ⟨.ref f, H1, J, rfl, h f c' df H1 e1 e2 e3 e4 e5 e6 e7 e8⟩⟩
/-- a lambda of X that may be called: its names, its body -/
structure LamOk (X : Cx) (k : Nat) (t : LT) (tb : XK → TE) : Prop where
  L : LamP X.N X.env.scope t.sc
  bind : LBind t
  body : ∀ (A : Around) (outer : List PySem.Env) (s : Shared) (H : Hp) (E : XK) (f c' : Addr), Room k (A.deeper (LamX.lamEnv X t.sc s.heap.objs.size f c')) → PE (LamX.lamCx X A outer s H E t.sc f c') t.b (tb E)
abbrev TTy := (XK → Hp → VK → Prop) → Hp → VK → Prop
/-- the def x calls what it gets; TT: what it makes of the reading -/
def GivesL (Pg : Program) (w : World) (K : PySem.W.Frag) (mg : Str → Option Value) (base : Heap) (A : Around) (st : List PySem.Env) (Ng : List Str) (x : Str) (sg : Scope) (g : Addr) (cdg : Value) (bg : List Stmt) (a : Str) (q : Str) (TT : TTy) : Prop :=
  ∀ (f c' : Addr) (lam : HO) (s : Shared) (H : Hp) (Q : VK) (tl : XK → Hp → VK → Prop),
    (∀ (W : WX) (pn : List (Addr × Obj)) (xe : Value → Shared → Prop) (E : XK) (p1 p2 : Pos), Takes ((cxOf C8.CX0 Pg w K mg base Ng x sg g cdg A st s H C8.E0).tr pn xe) W → (∀ cls d σ' H', E cls d H' → W cls d σ' H') →
      PE ((cxOf C8.CX0 Pg w K mg base Ng x sg g cdg A st s H C8.E0).tr pn xe) (.Call (.Name a p1) [] [] p2) (fun σZ HZ Q => σZ[0]? = some (some (.ref f)) ∧ HZ f = some lam ∧ HZ c' = some (LamX.CodeO c' q) ∧ tl E HZ Q)) →
    H f = some lam → H c' = some (LamX.CodeO c' q) → TT tl H Q →
    ∃ t, PSs (cxOf C8.CX0 Pg w K mg base Ng x sg g cdg A st s H C8.E0).nox bg t ∧ t { nx := fun _ H' => Q .non H', rt := Q } (L2.start Ng [.ref f]) H
/-- x(e), e a lambda of X -/
def tCallL (TT : TTy) (q : Str) (cl : Scope → List (Str × Addr)) (ls : List (LT × (XK → TE))) (te : TE) : TE := fun σ H Q => te σ H fun v H1 => ∃ f c' df, ∃ l ∈ ls, v = .ref f ∧ H1 f = some (LamO f q l.1 (cl l.1.sc) c' df) ∧ H1 c' = some (LamX.CodeO c' q) ∧ DfOk H1 l.1.dv df ∧
  TT (fun E H' Q' => DfOk H' l.1.dv df ∧ l.2 E σ H' Q') H1 Q
theorem pe_callL {TT : TTy} {x a : Str} {g : Addr} {k : Nat} {pg : Arguments} {bg : List Stmt} {sg : Scope} {fd : FuncData} {kws : List (Str × V)} {Ng : List Str} {ls : List (LT × (XK → TE))} {e : Expr} {te : TE} {p pos : Pos} (F : FunD X.K x x pg bg sg [] kws g fd) (hb : Binds X.K fd [a] []) (Sg : FnScope Ng [a] sg) (hNg : Ng[0]? = some a) (hva : Vis sg a)
    (hg : Gl X x) (hm : X.mg x = some (.ref g)) (hG : ∀ cdg, GivesL X.prog X.w X.K X.mg X.base X.A X.stack Ng x sg g cdg bg a (X.env.qual ++ "<lambda>") TT) (hr : Room (k + 2) X.A) (hl : ∀ l ∈ ls, LamOk X k l.1 l.2) (he : PE X e te)
    (hst : starEach [e] X.env = (false, eval e X.env) :: starEach [] X.env := by rfl) (hdb : (x == ("__debug__" : Str)) = false := by decide) (hd : (a == ("__debug__" : Str)) = false := by decide) (hcd : (a == ("__classdict__" : Str)) = false := by decide) :
    PE X (.Call (.Name x p) [e] [] pos) (tCallL TT (X.env.qual ++ "<lambda>") (fun sc => cloFrom X.env.cells sc.names []) ls te) := by
  obtain ⟨oc, od, dV, kV, doc, pm, an, cdv, ct, osl, rfl, lk, hcg, _, _⟩ := F.ex
  refine ⟨fun pins s σ H Q I h => ?_⟩
  refine wpAny_Call_Name_kw (ld_glob I hg hm ?_ hdb)
  refine PySem.W.callWith_K (h₀ := X.base) I.ok.mod.kin F.kp ?_ hst (by rfl)
  rw [hst]
  show wpAny _ _ (spliced ((false, eval e X.env) :: backTo pos (starEach [] X.env))) _ _ s
  refine Calls.spliced_cons (thn (he.run pins s σ H _ I h) fun u s1 ⟨v, H1, J, rv, f, c', df, l, hl2, ev, hf, hc, hdf, ht⟩ => ?_)
  subst ev
  obtain rfl : u = Value.ref f := rv
  refine Calls.spliced_nil ⟨J.kIn, ?_⟩
  have ok := hl l hl2
  refine wpAny_call (codeAny_mono (R := CR C8.CX0 X.stack X.prog X.w H1 s1 Q C8.E0) ?_ fun r s2 hq => ?_)
  · refine LamX.run_ofS (N := Ng) (ps := [a]) (us := [.ref f]) (vs := [.ref f]) lk hcg Sg hr J.env0 (hb s1 [.ref f] J.kIn rfl) (.cons rfl .nil) rfl fun hr' => ?_
    obtain ⟨t', h1, h2⟩ := hG cdv f c' _ s1 H1 Q (fun E H' Q' => DfOk H' l.1.dv df ∧ l.2 E σ H' Q') (fun W pn xe E p1 p2 tk hW => pe_actO (i := 0) J ok.L ok.bind tk hW hr' (fun A outer s H hr2 => ok.body A outer s H E f c' hr2) hNg hva hd hcd) hf hc ht
    exact ⟨t', h1.nox, h2⟩
  · cases r with
    | error e => exact (show False from hq).elim
    | ok fl =>
      cases fl with
      | ret u => exact J.after hq
      | next => exact False.elim hq
      | brk => exact False.elim hq
      | cont => exact False.elim hq
end
/-! ### what a lambda is refused with, told: try: x() / except .. as e: found = (e.called, e.f) -/
theorem takes_len {X : Cx} {W : WX} (t : Takes X W) : Takes X (fun c d σ H => σ.length = X.N.length → W c d σ H) := fun u s' ⟨a, B, sI, pins, σ, H, cls, d, e, I, nb, up, sky, na, os, ag, w⟩ =>
  t u s' ⟨a, B, sI, pins, σ, H, cls, d, e, I, nb, up, sky, na, os, ag, w I.len⟩
theorem takes_no {X : Cx} : Takes X (fun _ _ _ _ => False) := fun _ _ ⟨_, _, _, _, _, _, _, _, _, _, _, _, _, _, _, _, w⟩ => w.elim
/-- e.f, e in slot i the caught exception, of one of the classes ms -/
def tXfL (i : Nat) (a : Addr) (cls : Value) (d : Option Addr) (ms : List Addr) (f : Str) : TE := fun σ H Q => σ[i]? = some (some (.ref a)) ∧ (∃ C ∈ ms, cls = .ref C) ∧ ∃ (dd : Addr) (fs : List (Str × V)) (v : V), d = some dd ∧ H dd = some (.xd fs) ∧ fs.lookup f = some v ∧ Q v H
theorem pe_xfL {X : Cx} {a : Addr} {oe : Obj} {cls : Value} {d : Option Addr} {pn : List (Addr × Obj)} {i : Nat} {x f : Str} {p1 p2 : Pos} {ms : List Addr} (hms : ∀ C ∈ ms, XfC X.K C ∧ fldOk X.K C f) (hz : Zc cls d oe) (hf : ∃ vs, oe.data = .fields vs)
    (he : PE (X.suite a ((a, oe) :: pn)) (.Name x p1) (tVar i)) (hb : attributeBase (.Name x p1) f X.env (eval (.Name x p1) X.env) = eval (.Name x p1) X.env := by rfl) :
    PE (X.suite a ((a, oe) :: pn)) (.Attribute (.Name x p1) f p2) (tXfL i a cls d ms f) := ⟨fun pins s σ H Q I ⟨h0, ⟨C, hC, hc⟩, dd, fs, v, h1, h2, h3, h4⟩ =>
  (pe_xf (hms C hC).1 (hms C hC).2 hz hf he hb).run pins s σ H Q I ⟨_, h0, rfl, hc, dd, fs, v, h1, h2, h3, h4⟩⟩
/-- a clause: its classes; those that may come; the field told -/
structure CK where
  cs : List Value
  ms : List Addr
  f : Option Str
def selF (f : Option Str) (fs : List (Str × V)) (v : V) : Prop := match f with
  | some f => fs.lookup f = some v
  | none => v = .non
def catK (K : PySem.W.Frag) : List CK → Value → Option Addr → Hp → VK → Prop
  | [], _, _, _, _ => False
  | c :: r, cls, d, H, Q => ∃ b, PySem.W.exmAny K cls c.cs = some b ∧ (b = true → (∃ C ∈ c.ms, cls = .ref C) ∧ ∃ (dd : Addr) (fs : List (Str × V)) (v1 v2 : V), d = some dd ∧ H dd = some (.xd fs) ∧ fs.lookup ("called" : Str) = some v1 ∧ selF c.f fs v2 ∧
      ∀ p o, H p = none → o.dict = none → Q (.ref p) (upd H p (.frz o (.tup [v1, v2])))) ∧ (b = false → catK K r cls d H Q)
def TTval (K : PySem.W.Frag) (cl : List CK) : TTy := fun tl H Q => tl (fun cls d H' => catK K cl cls d H' Q) H (fun _ H' => ∃ v : V, some (some V.non) = some (some v) ∧ Q v H')
/-- found = (e.called, e.f) -/
def tsVal (c : CK) : Addr → Value → Option Addr → TS := fun a cls d => tAsg (tTupF (tCons (tXfL 2 a cls d c.ms "called") (tCons (match c.f with | some f => tXfL 2 a cls d c.ms f | none => tC .non) tNil))) (gName 1)
def clVal (c : CK) : Cl := ⟨c.cs, some 2, tsVal c⟩
theorem cat_gen {K : PySem.W.Frag} {D : Ends} {Q : VK} (hD : ∀ (σ : L2.St) (H : Hp) (v : V), σ[1]? = some (some v) → Q v H → D.nx σ H) : ∀ {cl : List CK} {cls : Value} {d : Option Addr} {σ : L2.St} {H : Hp}, σ.length = 3 → catK K cl cls d H Q → wGen K (fun _ _ _ _ => False) D (cl.map clVal) cls d σ H
  | [], _, _, _, _, _, h => h.elim
  | c :: r, cls, d, σ, H, hl, ⟨b, h1, h2, h3⟩ => ⟨b, h1, fun hb a _ => by
      obtain ⟨hC, dd, fs, v1, v2, e1, e2, e3, e4, k⟩ := h2 hb
      have h22 : (σ.set 2 (some (V.ref a)))[2]? = some (some (.ref a)) := by rw [List.getElem?_set_self (by omega)]
      have fin : newTF [v1, v2] H fun x H1 => gName 1 x (asSt (clVal c).oi a σ) H1 (asEnds (clVal c).oi D).nx := ⟨(by decide : 2 ≤ sizeLine), fun p o hp ho => by
        refine hD _ _ (.ref p) ?_ (k p o hp ho)
        show (((σ.set 2 (some (V.ref a))).set 1 (some (V.ref p))).set 2 none)[1]? = _
        rw [List.getElem?_set_ne (by decide), List.getElem?_set_self (by rw [List.length_set]; omega)]⟩
      refine ⟨h22, hC, dd, fs, v1, e1, e2, e3, ?_⟩
      unfold selF at e4
      cases hf : c.f with
      | none => rw [hf] at e4; cases e4; exact fin
      | some f => rw [hf] at e4; exact ⟨h22, hC, dd, fs, v2, e1, e2, e4, fin⟩, fun hb => cat_gen hD hl (h3 hb)⟩
/-- the def's reading, from its body as a term -/
theorem val_reads {K : PySem.W.Frag} {cl : List CK} {f c' : Addr} {lam : HO} {q : Str} {Q : VK} {H : Hp} {tl : XK → Hp → VK → Prop} {Ng : List Str} (hN : Ng.length = 3) (hf : H f = some lam) (hc : H c' = some (LamX.CodeO c' q)) (h : TTval K cl tl H Q) :
    tSeq (tAsg (tC .non) (gName 1)) (tSeq (fun D σ H => (fun (W : WX) (D : Ends) σ H => ∃ Ech : XK, (∀ cls d (σ' : L2.St) H', σ'.length = 3 → Ech cls d H' → W cls d σ' H') ∧ σ[0]? = some (some (.ref f)) ∧ H f = some lam ∧ H c' = some (LamX.CodeO c' q) ∧ tl Ech H fun _ H' => D.nx σ H') (wGen K (fun _ _ _ _ => False) D (cl.map clVal)) D σ H) (tRet (tVar 1))) { nx := fun _ H' => Q .non H', rt := Q } (L2.start Ng [.ref f]) H := by
  have es : L2.start Ng [V.ref f] = [some (.ref f), none, none] := by
    unfold L2.start
    rw [hN]
    rfl
  rw [es]
  refine ⟨fun cls d H' => catK K cl cls d H' Q, fun cls d σ' H' hl hk => cat_gen (Q := Q) (fun σ H v h1 h2 => ?_) hl hk, rfl, hf, hc, ?_⟩
  · show tRet (tVar 1) _ σ H
    exact ⟨v, h1, h2⟩
  show tl _ H fun _ H' => tRet (tVar 1) _ [some (.ref f), some .non, none] H'
  exact h
/-! ### what the head says of it -/
/-- each def's table, at the base -/
structure TabAll (K : PySem.W.Frag) (mg : Str → Option Value) (base : Heap) : Prop where
  b : ∀ t ∈ tabsL K, LamX.TabB base mg t.1 t.2.1
  u : ∀ t ∈ tabsL K, ∀ u ∈ tabsL K, u.2.1 = t.2.1 → u.2.2 = t.2.2
/-- the def at p has a table -/
def lamOkB (K : PySem.W.Frag) (p : Str × Option Str) (qual : Str) : Bool := match K.lookup (He.fAd K p) with
  | some o => (match tabAt K (He.fAd K p, o) with
    | some (c, _, s) => decide (s = qual ++ ".<locals>." ++ "<lambda>") && decide ((fdF K p).code = .ref c)
    | none => false)
  | none => false
theorem tbAt_of {K : PySem.W.Frag} {mg : Str → Option Value} {base : Heap} {p : Str × Option Str} {qual : Str} (B : TabAll K mg base) (h : lamOkB K p qual = true) : ∃ c P, LamX.TabB base mg c P ∧ (fdF K p).code = .ref c ∧ (P, qual ++ ".<locals>." ++ "<lambda>") ∈ tabsOf K ∧ ∀ t ∈ tabsOf K, t.1 = P → t.2 = qual ++ ".<locals>." ++ "<lambda>" := by
  unfold lamOkB at h
  split at h
  · rename_i o q
    split at h
    · rename_i c P s e
      obtain ⟨h1, h2⟩ := Bool.and_eq_true_iff.mp h
      have h1 := of_decide_eq_true h1
      have h2 := of_decide_eq_true h2
      subst h1
      have m : (c, P, qual ++ ".<locals>." ++ "<lambda>") ∈ tabsL K := List.mem_filterMap.mpr ⟨_, PySem.W.mem_of_lookupK q, e⟩
      refine ⟨c, P, B.b _ m, h2, List.mem_map.mpr ⟨_, m, rfl⟩, fun t ht e => ?_⟩
      obtain ⟨t', m', rfl⟩ := List.mem_map.mp ht
      exact B.u _ m _ m' e
    · cases h
  · cases h
/-- a def's rule, its code object told -/
theorem funD_okC {P : Program} {w : World} {K : PySem.W.Frag} {mg : Str → Option Value} {base : Heap} {x qual : Str} {params : Arguments} {body : List Stmt} {scope : Scope} {dvs : List V} {kws : List (Str × V)} {f : Addr} {fd : FuncData} {CX : CXT} {N ps : List Str} {k : Nat} {sp : Sp}
    (F : FunD K x qual params body scope dvs kws f fd) (S : FnScope N ps scope) (len : ∀ vs H Q E, sp vs H Q E → vs.length = ps.length)
    (hbody : ∀ (cdv : Value) (A : Around) (outer : List PySem.Env) (s : Shared) (H : Hp) (vs : List V) (Q : VK) (E : XK), fd.code = cdv → Room k (A.deeper (envOfC qual scope s.heap.objs.size f cdv)) → sp vs H Q E →
      ∃ t, PSs (cxOf CX P w K mg base N qual scope f cdv A outer s H E) body t ∧ t { nx := fun _ H' => Q .non H', rt := Q } (L2.start N vs) H) : FnOk P w K mg base CX (k + 1) f fd ps sp := by
  obtain ⟨oc, od, dV, kV, doc, pm, an, cdv, ct, osl, rfl, lk, hcd, _, _⟩ := F.ex
  exact fn_of lk hcd S len fun A outer s H vs Q E hr h => hbody cdv A outer s H vs Q E rfl hr h
/-- a clause of the text: its classes' names, of those that may come, the field -/
structure CS where
  ns : List Str
  ms : List Str
  f : Option Str
def ckOf (K : PySem.W.Frag) (c : CS) : CK := ⟨c.ns.map fun x => .ref (He.ga K x), c.ms.map (He.ga K), c.f⟩
def clsB (K : PySem.W.Frag) (RC : List Str) (css : List CS) : Bool := css.all fun c => RC.all fun x => decide (PySem.W.exmAny K (.ref (He.ga K x)) (c.ns.map fun y => .ref (He.ga K y)) = some (decide (x ∈ c.ms)))
def xfsB (K : PySem.W.Frag) (css : List CS) : Bool := css.all fun c => c.ms.all fun x => xfB K (He.ga K x) && (decide (PySem.W.findIn K (.ref (He.ga K x)) ("called" : Str) = some none) && (match c.f with
  | some f => decide (PySem.W.findIn K (.ref (He.ga K x)) f = some none)
  | none => true))
theorem xfs_called {K : PySem.W.Frag} {css : List CS} (h : xfsB K css = true) {i : Nat} {c : CS} (hi : css[i]? = some c) : ∀ C ∈ (ckOf K c).ms, XfC K C ∧ fldOk K C "called" := fun C hC => by
  obtain ⟨x, hx, rfl⟩ := List.mem_map.mp hC
  have q := List.all_eq_true.mp (List.all_eq_true.mp h c (List.mem_of_getElem? hi)) x hx
  simp only [Bool.and_eq_true] at q
  exact ⟨xfB_ok q.1, show PySem.W.findIn K _ _ = some none from of_decide_eq_true q.2.1⟩
theorem xfs_f {K : PySem.W.Frag} {css : List CS} (h : xfsB K css = true) {i : Nat} {c : CS} {f : Str} (hi : css[i]? = some c) (hf : c.f = some f) : ∀ C ∈ (ckOf K c).ms, XfC K C ∧ fldOk K C f := fun C hC => by
  obtain ⟨x, hx, rfl⟩ := List.mem_map.mp hC
  have q := List.all_eq_true.mp (List.all_eq_true.mp h c (List.mem_of_getElem? hi)) x hx
  simp only [Bool.and_eq_true, hf] at q
  exact ⟨xfB_ok q.1, show PySem.W.findIn K _ _ = some none from of_decide_eq_true q.2.2⟩
/-- x() within the try -/
theorem val_tryB {Pg : Program} {w : World} {K : PySem.W.Frag} {mg : Str → Option Value} {base : Heap} {A : Around} {st : List PySem.Env} {Ng : List Str} {x : Str} {sg : Scope} {g : Addr} {cdg : Value} {a q : Str} {f c' : Addr} {lam : HO} {s : Shared} {H : Hp} {tl : XK → Hp → VK → Prop}
    (act : ∀ (W : WX) (pn : List (Addr × Obj)) (xe : Value → Shared → Prop) (E : XK) (p1 p2 : Pos), Takes ((cxOf C8.CX0 Pg w K mg base Ng x sg g cdg A st s H C8.E0).tr pn xe) W → (∀ cls d σ' H', E cls d H' → W cls d σ' H') →
      PE ((cxOf C8.CX0 Pg w K mg base Ng x sg g cdg A st s H C8.E0).tr pn xe) (.Call (.Name a p1) [] [] p2) (fun σZ HZ Q => σZ[0]? = some (some (.ref f)) ∧ HZ f = some lam ∧ HZ c' = some (LamX.CodeO c' q) ∧ tl E HZ Q)) (hN : Ng.length = 3)
    {W : WX} {pn : List (Addr × Obj)} {xe : Value → Shared → Prop} {p1 p2 p3 : Pos} (tk : Takes ((cxOf C8.CX0 Pg w K mg base Ng x sg g cdg A st s H C8.E0).tr pn xe) W) :
    PSs ((cxOf C8.CX0 Pg w K mg base Ng x sg g cdg A st s H C8.E0).tr pn xe) [.Expr (.Call (.Name a p1) [] [] p2) p3]
      (fun D σ H => ∃ Ech : XK, (∀ cls d (σ' : L2.St) H', σ'.length = 3 → Ech cls d H' → W cls d σ' H') ∧ σ[0]? = some (some (.ref f)) ∧ H f = some lam ∧ H c' = some (LamX.CodeO c' q) ∧ tl Ech H fun _ H' => D.nx σ H') :=
  ⟨fun pins s' σ H D I ⟨Ech, hW, h0, h1, h2, h3⟩ => (pss_one (ps_expr (act _ pn xe Ech p1 p2 (takes_len tk) (fun cls d σ' H' h hl => hW cls d σ' H' (hl.trans hN) h)))).run pins s' σ H D I ⟨h0, h1, h2, h3⟩⟩
theorem lam_one {X : Cx} {k : Nat} {t : LT} {tb : XK → TE} (h : LamOk X k t tb) : ∀ l ∈ [(t, tb)], LamOk X k l.1 l.2 := fun l hl => by
  rw [List.mem_singleton.mp hl]; exact h
end Nc

namespace Nc
open PySem PySem.Spec PyProof.Rows L2
def top (i : Nat) : Stmt := PySem.Challenge.pw_namecote_k04_rows_with_names_told_anew.main.body.getD i (.Pass ⟨0, 0, 0, 0⟩)
abbrev s_CoteError___init__ : Stmt := inClass (top 1) 0
abbrev s_BadNumber___init__ : Stmt := inClass (top 13) 0
abbrev s_BadKinds___init__ : Stmt := inClass (top 2) 0
abbrev s_TooLong___init__ : Stmt := inClass (top 5) 0
abbrev s_BadRow___init__ : Stmt := inClass (top 4) 0
abbrev s_is_number : Stmt := top 31
abbrev s_is_letter : Stmt := top 32
abbrev s_need_kinds : Stmt := top 33
abbrev s_is_happening : Stmt := top 34
abbrev s_need_row : Stmt := top 35
abbrev s_renamed : Stmt := top 36
abbrev s_own_kinds : Stmt := top 37
abbrev s__law_bag : Stmt := top 39
abbrev s__law_pick : Stmt := top 40
abbrev s__law_of : Stmt := top 41
abbrev s__law_shuffled : Stmt := top 42
abbrev s__law_same : Stmt := top 43
abbrev s__law_value : Stmt := top 44
abbrev s__law_signs : Stmt := top 45
abbrev s__law_names : Stmt := top 46
abbrev s__law_row : Stmt := top 47
abbrev s_law : Stmt := top 48
def d_CoteError___init__ : He.DefD := ⟨("CoteError", some "__init__"), "__init__", "CoteError.__init__", defArgs s_CoteError___init__, defBody s_CoteError___init__, defScope s_CoteError___init__, [.str "CoteError"], []⟩
def d_BadNumber___init__ : He.DefD := ⟨("BadNumber", some "__init__"), "__init__", "BadNumber.__init__", defArgs s_BadNumber___init__, defBody s_BadNumber___init__, defScope s_BadNumber___init__, [], []⟩
def d_BadKinds___init__ : He.DefD := ⟨("BadKinds", some "__init__"), "__init__", "BadKinds.__init__", defArgs s_BadKinds___init__, defBody s_BadKinds___init__, defScope s_BadKinds___init__, [], []⟩
def d_TooLong___init__ : He.DefD := ⟨("TooLong", some "__init__"), "__init__", "TooLong.__init__", defArgs s_TooLong___init__, defBody s_TooLong___init__, defScope s_TooLong___init__, [], []⟩
def d_BadRow___init__ : He.DefD := ⟨("BadRow", some "__init__"), "__init__", "BadRow.__init__", defArgs s_BadRow___init__, defBody s_BadRow___init__, defScope s_BadRow___init__, [], []⟩
def d_is_number : He.DefD := ⟨("is_number", none), "is_number", "is_number", defArgs s_is_number, defBody s_is_number, defScope s_is_number, [], []⟩
def d_is_letter : He.DefD := ⟨("is_letter", none), "is_letter", "is_letter", defArgs s_is_letter, defBody s_is_letter, defScope s_is_letter, [.str "abcdefghijklmnopqrstuvwxyz"], []⟩
def d_need_kinds : He.DefD := ⟨("need_kinds", none), "need_kinds", "need_kinds", defArgs s_need_kinds, defBody s_need_kinds, defScope s_need_kinds, [], []⟩
def d_is_happening : He.DefD := ⟨("is_happening", none), "is_happening", "is_happening", defArgs s_is_happening, defBody s_is_happening, defScope s_is_happening, [], []⟩
def d_need_row : He.DefD := ⟨("need_row", none), "need_row", "need_row", defArgs s_need_row, defBody s_need_row, defScope s_need_row, [], []⟩
def d_renamed : He.DefD := ⟨("renamed", none), "renamed", "renamed", defArgs s_renamed, defBody s_renamed, defScope s_renamed, [], []⟩
def d_own_kinds : He.DefD := ⟨("own_kinds", none), "own_kinds", "own_kinds", defArgs s_own_kinds, defBody s_own_kinds, defScope s_own_kinds, [], []⟩
def d__law_bag : He.DefD := ⟨("_law_bag", none), "_law_bag", "_law_bag", defArgs s__law_bag, defBody s__law_bag, defScope s__law_bag, [], []⟩
def d__law_pick : He.DefD := ⟨("_law_pick", none), "_law_pick", "_law_pick", defArgs s__law_pick, defBody s__law_pick, defScope s__law_pick, [], []⟩
def d__law_of : He.DefD := ⟨("_law_of", none), "_law_of", "_law_of", defArgs s__law_of, defBody s__law_of, defScope s__law_of, [], []⟩
def d__law_shuffled : He.DefD := ⟨("_law_shuffled", none), "_law_shuffled", "_law_shuffled", defArgs s__law_shuffled, defBody s__law_shuffled, defScope s__law_shuffled, [], []⟩
def d__law_same : He.DefD := ⟨("_law_same", none), "_law_same", "_law_same", defArgs s__law_same, defBody s__law_same, defScope s__law_same, [], []⟩
def d__law_value : He.DefD := ⟨("_law_value", none), "_law_value", "_law_value", defArgs s__law_value, defBody s__law_value, defScope s__law_value, [], []⟩
def d__law_signs : He.DefD := ⟨("_law_signs", none), "_law_signs", "_law_signs", defArgs s__law_signs, defBody s__law_signs, defScope s__law_signs, [], []⟩
def d__law_names : He.DefD := ⟨("_law_names", none), "_law_names", "_law_names", defArgs s__law_names, defBody s__law_names, defScope s__law_names, [], []⟩
def d__law_row : He.DefD := ⟨("_law_row", none), "_law_row", "_law_row", defArgs s__law_row, defBody s__law_row, defScope s__law_row, [], []⟩
def d_law : He.DefD := ⟨("law", none), "law", "law", defArgs s_law, defBody s_law, defScope s_law, [], []⟩
abbrev csV : List CS := [⟨["BadKinds"], ["BadKinds"], some "text"⟩, ⟨["BadKind"], [], some "kind"⟩, ⟨["BadRow", "BadText", "BadMachine", "NoStand", "NoPlace"], ["BadRow"], some "at"⟩, ⟨["TooLong", "TooMany", "TooWide"], ["TooLong"], some "most"⟩, ⟨["BadPattern", "BadWish"], [], some "flaw"⟩, ⟨["BadNumber"], ["BadNumber"], some "number"⟩, ⟨["BadName", "Taken", "InUse", "Unmade", "NoThing"], [], some "name"⟩, ⟨["BadDeed"], [], some "word"⟩, ⟨["OtherKinds", "BadOrder", "NotAgainst", "BadHappening", "NothingLeft"], [], none⟩]
def exB (K : PySem.W.Frag) : Bool := allB [oexB K (He.ga K "CoteError"), creadB K (He.ga K "CoteError") "__init__" (He.fAd K ("CoteError", some "__init__")), oexB K (He.ga K "BadNumber"), oexB K (He.ga K "BadKinds"), oexB K (He.ga K "TooLong"), oexB K (He.ga K "BadRow"), clsB K ["BadNumber", "BadKinds", "TooLong", "BadRow"] csV, xfsB K csV, lamOkB K ("law", none) "law"]
def fn : List He.DefD := [d_CoteError___init__, d_BadNumber___init__, d_BadKinds___init__, d_TooLong___init__, d_BadRow___init__, d_is_number, d_is_letter, d_need_kinds, d_is_happening, d_need_row, d_renamed, d_own_kinds, d__law_bag, d__law_pick, d__law_of, d__law_shuffled, d__law_same, d__law_value, d__law_signs, d__law_names, d__law_row, d_law]
def fa : List He.Fa := [.glo "BadDeed", .glo "BadHappening", .glo "BadKind", .glo "BadKinds", .glo "BadMachine", .glo "BadName", .glo "BadNumber", .glo "BadOrder", .glo "BadPattern", .glo "BadRow", .glo "BadText", .glo "BadWish", .glo "CoteError", .glo "InUse", .glo "NoPlace", .glo "NoStand", .glo "NoThing", .glo "NotAgainst", .glo "NothingLeft", .glo "OtherKinds", .glo "Taken", .glo "TooLong", .glo "TooMany", .glo "TooWide", .glo "Unmade", .glo "_law_bag", .glo "_law_names", .glo "_law_of", .glo "_law_pick", .glo "_law_row", .glo "_law_same", .glo "_law_shuffled", .glo "_law_signs", .glo "_law_value", .glo "is_happening", .glo "is_letter", .glo "is_number", .glo "law", .glo "need_kinds", .glo "need_row", .glo "own_kinds", .glo "renamed", .free "ValueError", .free "all", .free "any", .free "bool", .free "dict", .free "enumerate", .free "int", .free "isinstance", .free "len", .free "list", .free "range", .free "set", .free "sorted", .free "str", .free "tuple", .free "zip", .str "LETTERS" "abcdefghijklmnopqrstuvwxyz", .int "MOST_KINDS" 4, .int "MOST_ROW" 40, .noat "CoteError" "called", .meth "CoteError" "__init__", .noat "BadNumber" "called", .noat "BadNumber" "number", .meth "BadNumber" "__init__", .noat "BadKinds" "called", .noat "BadKinds" "text", .meth "BadKinds" "__init__", .noat "TooLong" "called", .noat "TooLong" "most", .meth "TooLong" "__init__", .noat "BadRow" "called", .noat "BadRow" "at", .meth "BadRow" "__init__"]
def tbs : List (Str × List Str) := []
def nmsT : List Str := [("CoteError" : Str), ("BadKinds" : Str), ("BadKind" : Str), ("BadRow" : Str), ("TooLong" : Str), ("BadPattern" : Str), ("BadWish" : Str), ("BadText" : Str), ("BadMachine" : Str), ("OtherKinds" : Str), ("TooMany" : Str), ("TooWide" : Str), ("BadNumber" : Str), ("BadOrder" : Str), ("NotAgainst" : Str), ("BadHappening" : Str), ("BadName" : Str), ("Taken" : Str), ("InUse" : Str), ("Unmade" : Str), ("BadDeed" : Str), ("Missing" : Str), ("NoStand" : Str), ("NoPlace" : Str), ("NoThing" : Str), ("NothingLeft" : Str), ("is_number" : Str), ("is_letter" : Str), ("need_kinds" : Str), ("is_happening" : Str), ("need_row" : Str), ("renamed" : Str), ("own_kinds" : Str), ("_law_bag" : Str), ("_law_pick" : Str), ("_law_of" : Str), ("_law_shuffled" : Str), ("_law_same" : Str), ("_law_value" : Str), ("_law_signs" : Str), ("_law_names" : Str), ("_law_row" : Str), ("law" : Str), ("LETTERS" : Str), ("MOST_ROW" : Str), ("MOST_KINDS" : Str)]
abbrev R : PySem.W.OpenRow := PySem.W.OpenLaw.row PySem.Challenge.rw_namecote_k04_rows_with_names_told_anew
abbrev hk : PySem.W.Hook := hookT nmsT fa fn exB tbs
def ob (s : PySem.W.SharedT) : AlT := obsT nmsT fa fn exB tbs (HandSHeadRun.getT s)
theorem ob_eq (s : PySem.W.SharedT) : ob s = hk.obs s.abs := obsT_eq (HandSHeadRun.getT_eq s)
def loose : List Str := [("__name__" : Str), ("CoteError" : Str), ("BadKinds" : Str), ("BadKind" : Str), ("BadRow" : Str), ("TooLong" : Str), ("BadPattern" : Str), ("BadWish" : Str), ("BadText" : Str), ("BadMachine" : Str), ("OtherKinds" : Str), ("TooMany" : Str), ("TooWide" : Str), ("BadNumber" : Str), ("BadOrder" : Str), ("NotAgainst" : Str), ("BadHappening" : Str), ("BadName" : Str), ("Taken" : Str), ("InUse" : Str), ("Unmade" : Str), ("BadDeed" : Str), ("Missing" : Str), ("NoStand" : Str), ("NoPlace" : Str), ("NoThing" : Str), ("NothingLeft" : Str), ("__name__" : Str), ("LETTERS" : Str), ("MOST_ROW" : Str), ("MOST_KINDS" : Str), ("is_number" : Str), ("is_letter" : Str), ("need_kinds" : Str), ("is_happening" : Str), ("need_row" : Str), ("renamed" : Str), ("own_kinds" : Str), ("__name__" : Str), ("_law_bag" : Str), ("_law_pick" : Str), ("_law_of" : Str), ("_law_shuffled" : Str), ("_law_same" : Str), ("_law_value" : Str), ("_law_signs" : Str), ("_law_names" : Str), ("_law_row" : Str)]
section
open PySem PySem.W PySem.Calls PyProof.Rows HandSHeadRun
/-- a part of the run's equation: each part is run for itself, so that none wants much room -/
def RunQ {α : Type} (f : World → PySem.W.SharedT → α) (v : World → α) (w : World) : Prop := ∀ os : OsState, (HandSHeadRun.endF (HandSHeadRun.stepQ (HandSHeadRun.denQ HandSHeadRun.tabQ) R.prog w) 40000 R.prog w os).map (f w) = some (v w)
theorem run1 (w : World) : RunQ (fun w s => (HandSHeadRun.looksF R.prog (boot_heap w.params) s.abs, HandSHeadRun.seenQ (PySem.W.view R.prog [48]) loose (importedModules R.prog.main.body) (fun s => xlAt (PySem.W.view R.prog [48]) [] s && recOk R.toRowW.records s) s.abs)) (fun _ => (true, openGood (PySem.W.view R.prog [48]) loose)) w := by
  intro os
  kernel_rfl
theorem run2 (w : World) : RunQ (fun _ s => ob s) (fun w => hk.val w) w := by
  intro os
  kernel_rfl
theorem run (w : World) : HandSHeadRun.RunEq R (PySem.W.view R.prog [48]) hk ob 40000 loose w := fun os => by
  have h1 := run1 w os
  have h2 := run2 w os
  generalize HandSHeadRun.endF (HandSHeadRun.stepQ (HandSHeadRun.denQ HandSHeadRun.tabQ) R.prog w) 40000 R.prog w os = o at h1 h2 ⊢
  cases o with
  | none => cases h1
  | some s =>
    have e1 := Option.some.inj h1
    have e2 : ob s = hk.val w := Option.some.inj h2
    have ea := congrArg Prod.fst e1
    have eb := congrArg Prod.snd e1
    exact congrArg some (Prod.ext ea (Prod.ext eb e2))
end
section
open PySem PySem.W PySem.Calls PyProof.Rows
set_option maxRecDepth 100000 in
set_option maxHeartbeats 0 in
/-- all of the law's looks and the head, ahead of the library: what is left is the walk of the law's def -/
theorem early (hc : PySem.W.WalkO (PySem.W.view R.prog [48]) loose (PySem.W.XL (PySem.W.view R.prog [48]) []) hk.says R.toRowW (HandSHeadRun.topDef R.prog 48) [] (fun f vs => PySem.call f vs)) : PySem.Challenge.rw_namecote_k04_rows_with_names_told_anew.Holds := by
  w_on; o_law
  refine HandSHeadRun.head_any (r := OpenLaw.row PySem.Challenge.rw_namecote_k04_rows_with_names_told_anew) (q := view (OpenLaw.row PySem.Challenge.rw_namecote_k04_rows_with_names_told_anew).prog [48]) (H := Nc.hk) (ob := Nc.ob) (M := 40000) (loose := Nc.loose) (d := HandSHeadRun.topDef (OpenLaw.row PySem.Challenge.rw_namecote_k04_rows_with_names_told_anew).prog 48) (kwd := []) Nc.ob_eq
    (by kernel_rfl) (fun s => by kernel_rfl) Nc.run (by kernel_rfl) (by kernel_rfl) (by kernel_rfl) (by rfl) (by first | assumption | decide +kernel) (by decide +kernel) ⟨rfl, rfl, rfl, rfl, rfl, by decide +kernel⟩ ?hw hc
  case hw => w_witness2
theorem nameLaw : (HandSHeadRun.topDef (PySem.W.OpenLaw.row PySem.Challenge.rw_namecote_k04_rows_with_names_told_anew).prog 48).name = ("law" : PySem.Str) := by kernel_rfl
theorem noDef : (HandSHeadRun.topDef (PySem.W.OpenLaw.row PySem.Challenge.rw_namecote_k04_rows_with_names_told_anew).prog 48).params.defaults = [] := by kernel_rfl
end
end Nc
namespace Nc
open PySem PySem.Spec PyProof.Rows L2
/-! ## sets, their very state: of ints, of texts -/
section
variable {P : Program} {w : World} {κ : Type} [DecidableEq κ] {knd : KeyKind P w κ} {A : Around} {E : Value → Shared → Prop} {s : Shared} {a : Addr}
/-- keys whose values are told apart at a look -/
def Seen (knd : KeyKind P w κ) : Prop := ∀ k v, knd.is k v = true → v.scannable = true
abbrev Keyed (knd : KeyKind P w κ) : List (Int × Value) → List κ → Prop := Paired fun e k => knd.is k e.2 = true ∧ e.1 = knd.hash k
theorem Keyed.len {es : List (Int × Value)} {ks : List κ} (h : Keyed knd es ks) : es.length = ks.length := by
  induction h with
  | nil => rfl
  | cons _ _ ih => simp [ih]
theorem Keyed.perm {es es' : List (Int × Value)} {ks : List κ} (p : es'.Perm es) : Keyed knd es ks → ∃ ks', ks'.Perm ks ∧ Keyed knd es' ks' := by
  induction p generalizing ks with
  | nil => exact fun h => ⟨ks, .refl _, h⟩
  | cons x _ ih =>
    intro h
    cases h with
    | cons r t => obtain ⟨k2, p2, h2⟩ := ih t; exact ⟨_ :: k2, p2.cons _, .cons r h2⟩
  | swap x y l =>
    intro h
    cases h with
    | cons r t => cases t with
      | cons r2 t => exact ⟨_, .swap _ _ _, .cons r2 (.cons r t)⟩
  | trans _ _ i1 i2 =>
    intro h
    obtain ⟨k1, p1, h1⟩ := i2 h
    obtain ⟨k2, p2, h2⟩ := i1 h1
    exact ⟨k2, p2.trans p1, h2⟩
theorem Keyed.push {e : Int × Value} {k : κ} {es : List (Int × Value)} {ks : List κ} (h : Keyed knd es ks) (he : knd.is k e.2 = true ∧ e.1 = knd.hash k) : Keyed knd (es ++ [e]) (ks ++ [k]) := by
  induction h with
  | nil => exact .cons he .nil
  | cons r _ ih => exact .cons r ih
theorem Keyed.elems (sn : Seen knd) {es : List (Int × Value)} {ks : List κ} (h : Keyed knd es ks) : ElemsOf knd es := by
  induction h with
  | nil => exact fun e he => by cases he
  | cons r _ ih =>
    intro e he
    rcases List.mem_cons.mp he with q | q
    · subst q; exact ⟨⟨_, r⟩, sn _ _ r.1⟩
    · exact ih e q
theorem Keyed.mem {es : List (Int × Value)} {ks : List κ} {k : κ} (h : Keyed knd es ks) : k ∈ ks ↔ ∃ e ∈ es, knd.is k e.2 = true := by
  induction h with
  | nil => simp
  | cons r _ ih =>
    rw [List.mem_cons, ih]
    constructor
    · rintro (q | ⟨e, he, q⟩)
      · exact ⟨_, List.mem_cons_self .., by rw [q]; exact r.1⟩
      · exact ⟨e, List.mem_cons_of_mem _ he, q⟩
    · rintro ⟨e, he, q⟩
      rcases List.mem_cons.mp he with z | z
      · rw [z] at q; exact .inl (knd.inj _ _ _ q r.1)
      · exact .inr ⟨e, z, q⟩
structure SetX (knd : KeyKind P w κ) (h : Heap) (a : Addr) (l : List κ) : Prop where
  nd : l.Nodup
  ex : ∃ o es ep t ks, h.get? a = some o ∧ o.ExactSet ∧ o.data = .set es ep t ∧ Keyed knd es.toList ks ∧ ks.Perm l ∧ es.size < scanBound ∧ t.fits es.size = true ∧ Ris t.place.toList ∧ (w.params.followText "set-order" = true ∨ t.led = true)
def insK (l : List κ) (k : κ) : List κ := if k ∈ l then l else l ++ [k]
/-- behind the laying of a new one: the table grown or not -/
theorem setX_tail {l : List κ} {g : Bool → Sem Unit} (hg : ∀ (b : Bool) (s₁ : Shared) (Q' : Unit → Shared → Prop), Q' () s₁ → wpAny (model P w) A (g b) Q' E s₁)
    {o : Obj} {es es1 : Array (Int × Value)} {ep : Nat} {t t2 : SetTable} {ks : List κ} {wd : Bool} {R : Option Bool → Shared → Prop} (ho : s.heap.get? a = some o) (hx : o.ExactSet) (hd : o.data = .set es ep t) (nd : l.Nodup)
    (hk : Keyed knd es1.toList ks) (hp : ks.Perm l) (hb : es1.size < scanBound) (hf : t2.fits es1.size = true) (hr : Ris t2.place.toList) (hl : w.params.followText "set-order" = true ∨ t2.led = true)
    (hR : ∀ h', Heap.SameBut a s.heap h' → SetX knd h' a l → R (some true) { s with heap := h' }) :
    wpAny (model P w) A (do
        storeSet a es1 t2
        if (!wd && t2.tooFull) = true then do
            g (relayAll t2 es1 (SetTable.grown es1.size)).2.2
            storeSet a (relayAll t2 es1 (SetTable.grown es1.size)).1 (relayAll t2 es1 (SetTable.grown es1.size)).2.1
            pure (some true)
          else pure (some true)) R E s := by
  have o1 := store_at (es' := es1) (t' := t2) ho hd
  refine wpAny_bind (wpAny_storeSet_of ho hd ?_ (fits_of_scanBound hb))
  have b1 := Heap.SameBut.update s.heap a (Obj.putSet es1 t2)
  by_cases c : (!wd && t2.tooFull) = true
  · rw [if_pos c]
    have pm := relayAll_perm t2 es1 (SetTable.grown es1.size)
    obtain ⟨ks2, p2, k2⟩ := hk.perm pm
    have sz : (relayAll t2 es1 (SetTable.grown es1.size)).1.size = es1.size := by rw [← Array.length_toList, pm.length_eq, Array.length_toList]
    refine wpAny_bind (hg _ _ _ (wpAny_bind (wpAny_storeSet_of o1 rfl (wpAny_pure (hR _ (b1.trans (Heap.SameBut.update _ a _)) ⟨nd, _, _, _, _, ks2, store_at o1 rfl, hx, rfl, k2, p2.trans hp, by rw [sz]; exact hb, ?_, relayAll_ris _ _ _, ?_⟩)) ?_)))
    · exact relayAll_fits t2 es1 (SetTable.grown es1.size)
    · rw [relayAll_led]; exact hl
    · exact fits_of_scanBound (by rw [sz]; exact hb)
  · rw [if_neg c]
    exact wpAny_pure (hR _ b1 ⟨nd, _, _, _, _, ks, o1, hx, rfl, hk, hp, hb, hf, hr, hl⟩)
theorem setX_add (sn : Seen knd) {x : Value} {k : κ} {l : List κ} {Q : Bool → Shared → Prop} (R : SetX knd s.heap a l) (hk : knd.is k x = true) (room : l.length + 1 < scanBound)
    (hQ : ∀ h', Heap.SameBut a s.heap h' → SetX knd h' a (insK l k) → Q (!decide (k ∈ l)) { s with heap := h' }) : wpAny (model P w) A (setAddHashed a x (knd.hash k)) Q E s := by
  obtain ⟨nd, o, es, ep, t, ks, ho, hx, hd, ky, pk, hb, hf, hr, hl⟩ := R
  have sx : x.scannable = true := sn _ _ hk
  have hel : ElemsOf knd es.toList := ky.elems sn
  have give : ∀ (b : Bool) {s₁ : Shared} {Q' : Unit → Shared → Prop}, Q' () s₁ → wpAny (model P w) A (match b with | true => rule "set.scan.the-table-gave-way" | false => pure ()) Q' E s₁ := fun b _ _ q => by
    cases b
    · exact wpAny_pure q
    · exact wpAny_rule q
  unfold setAddHashed setAddHashedIn
  refine wpAny_holding (wpAny_bind (wpAny_setState_of ho hd hf ?_))
  dsimp only
  rw [byScan_of sx hb hel]
  simp only [↓reduceIte]
  unfold setAddByScan
  refine wpAny_bind (wpAny_bind (wpAny_rule (wpAny_bind (wpAny_setScan_of hk ho hd hf hel ?_))))
  cases hfi : es.toList.findIdx? (fun e => knd.is k e.2) with
  | some j =>
    obtain ⟨hj, pj, _⟩ := List.findIdx?_eq_some_iff_getElem.mp hfi
    have kin : k ∈ l := pk.mem_iff.mp (ky.mem.mpr ⟨_, List.getElem_mem hj, pj⟩)
    have q := hQ s.heap (Heap.SameBut.refl a s.heap) ⟨by unfold insK; rw [if_pos kin]; exact nd, o, es, ep, t, ks, ho, hx, hd, ky, by unfold insK; rw [if_pos kin]; exact pk, hb, hf, hr, hl⟩
    rw [decide_eq_true kin] at q
    exact wpAny_pure (wpAny_pure q)
  | none =>
    have kout : k ∉ l := fun z => by
      obtain ⟨e, he, q⟩ := ky.mem.mp (pk.mem_iff.mpr z)
      rw [List.findIdx?_eq_none_iff.mp hfi e he] at q
      cases q
    have e1 : insK l k = l ++ [k] := if_neg kout
    have pm := layNew_perm t es (knd.hash k) x
    have hf1 := layNew_fits t es (knd.hash k) x
    have hr1 := layNew_ris t es (knd.hash k) x hr
    have hl1 := layNew_led t es (knd.hash k) x
    dsimp only
    generalize layNew t es (knd.hash k) x = Z at pm hf1 hr1 hl1 ⊢
    obtain ⟨es1, t1, wd, gave⟩ := Z
    dsimp only at pm hf1 hr1 hl1 ⊢
    rw [Array.toList_push] at pm
    obtain ⟨ks1, p1, k1⟩ := (ky.push (e := (knd.hash k, x)) ⟨hk, rfl⟩).perm pm
    have p2 : ks1.Perm (insK l k) := by rw [e1]; exact p1.trans (pk.append_right _)
    have nd1 : (insK l k).Nodup := by
      rw [e1, List.nodup_append]
      exact ⟨nd, by simp, fun a ha b hb => by rw [List.mem_singleton.mp hb]; exact fun z => kout (z ▸ ha)⟩
    have sz : es1.size = l.length + 1 := by rw [← Array.length_toList, k1.len, p2.length_eq, e1]; simp
    have hb1 : es1.size < scanBound := by rw [sz]; exact room
    have led : w.params.followText "set-order" = true ∨ t1.led = true := hl.imp id fun z => by rw [hl1]; exact z
    have fin : ∀ h', Heap.SameBut a s.heap h' → SetX knd h' a (insK l k) → Q true { s with heap := h' } := fun h' sb r => by
      have q := hQ h' sb r
      rw [decide_eq_false kout] at q
      exact q
    refine wpAny_bind (give _ ?_)
    split
    · refine wpAny_bind ?_
      rw [hashByValue_scannable 8 sx]
      refine wpAny_pure (setX_tail (fun b s₁ Q' q => give b q) ho hx hd nd1 k1 p2 hb1 ?_ ?_ ?_ fun h' sb r => wpAny_pure (fin h' sb r))
      · first
        | (split <;> first | exact hf1 | exact SetTable.fits_plain_off hf1)
        | exact hf1
      · first | (split <;> exact hr1) | exact hr1
      · first | (split <;> exact led) | exact led
    · refine wpAny_bind (wpAny_pure ?_)
      simp only [↓reduceIte]
      exact setX_tail (fun b s₁ Q' q => give b q) ho hx hd nd1 k1 p2 hb1 hf1 hr1 led fun h' sb r => wpAny_pure (fin h' sb r)
def gatherK (key : Nat → κ) : Nat → List κ
  | 0 => []
  | i + 1 => insK (gatherK key i) (key i)
theorem gatherK_le (key : Nat → κ) : ∀ i, (gatherK key i).length ≤ i
  | 0 => Nat.le_refl _
  | i + 1 => by
    have := gatherK_le key i
    unfold gatherK insK
    split
    · omega
    · rw [List.length_append]; simp; omega
theorem SetX.keep {h h' : Heap} {l : List κ} (R : SetX knd h a l) (k : ∀ o, h.get? a = some o → h'.get? a = some o) : SetX knd h' a l := by
  obtain ⟨nd, o, es, ep, t, ks, ho, r⟩ := R
  exact ⟨nd, o, es, ep, t, ks, k o ho, r⟩
/-- set.update's loop -/
theorem setX_loop (sn : Seen knd) {R : Result → Shared → Prop} {I : Addr} {fp wr : List Addr} {G : Array GenState → Array GenState → Prop} {n : Nat} {Pv : Nat → Value → Prop} {St : Nat → Shared → Prop} (W : WalksS P w A.in1 I fp wr G n Pv St) (hS : a ∉ fp)
    (key : Nat → κ) (hkey : ∀ i v, Pv i v → knd.is (key i) v = true) (hb : n + 1 < scanBound) : ∀ (m i : Nat) (s : Shared), n - i = m → i ≤ n → St i s → SetX knd s.heap a (gatherK key i) →
      (∀ s', Moved (a :: wr) G s s' → SetX knd s'.heap a (gatherK key n) → R (.ok (.ret .none)) s') → codeAny (model P w) A (.builtin "set.update.loop" ⟨[.ref a, .ref I], []⟩) R s := by
  have out : a ∉ wr := fun h => hS (W.sub _ h)
  have wide : ∀ b ∈ wr, b ∈ a :: wr := fun b hb => List.mem_cons_of_mem _ hb
  intro m
  induction m with
  | zero =>
    intro i s hm hi st X q
    obtain rfl : i = n := by omega
    refine codeAny_builtin F.entry_set_update_loop ?_
    rw [Around.under_plainId F.plain_set_update_loop _]
    show wpAny _ A.in1 (pyNext (.ref I) >>= _) _ _ s
    exact wpAny_bind (W.done s _ _ st fun s' mv => wpAny_pure (q s' (mv.mono wide) (X.keep fun o ho => mv.heap a _ out ho)))
  | succ m ih =>
    intro i s hm hi st X q
    have lt : i < n := by omega
    refine codeAny_builtin F.entry_set_update_loop ?_
    rw [Around.under_plainId F.plain_set_update_loop _]
    show wpAny _ A.in1 (pyNext (.ref I) >>= _) _ _ s
    refine wpAny_bind (W.item i s _ _ lt st fun v s' pv st' mv => ?_)
    have kv := hkey i v pv
    have X' : SetX knd s'.heap a (gatherK key i) := X.keep fun o ho => mv.heap a _ out ho
    show wpAny _ A.in1 (holding [v] (setAdd a v) >>= _) _ _ s'
    unfold setAdd
    refine wpAny_bind (wpAny_holding (wpAny_holding (wpAny_bind (knd.pyHash kv ?_))))
    refine setX_add (s := { s' with toks := s'.toks + 1 }) sn X' kv (by have := gatherK_le key i; omega) fun h' sb X2 => ?_
    refine wpAny_pure ⟨plainId_quiet F.plain_set_update_loop _, ih (i + 1) _ (by omega) lt (W.frame _ s' _ _ st' (Nat.le_succ _) fun b hb o e => ?_) X2 fun s2 mv2 X3 => ?_⟩
    · rw [sb.2 b fun z => hS (by rw [← z]; exact hb)]; exact e
    · refine q s2 (Moved.trans W.gtrans ((mv.mono wide).then_heap (Nat.le_succ _) fun b o hb e => ?_) mv2) X3
      rw [sb.2 b fun z => hb (by rw [z]; exact List.mem_cons_self ..)]; exact e
/-- an empty set, new -/
abbrev set0 (w : World) : Obj := { cls := .type "set", dict := none, data := .set #[] 0 (.fresh 0 0 (!w.params.followText "set-order")) }
theorem setX_fresh {h : Heap} (k : h.get? a = some (set0 w)) : SetX knd h a [] :=
  ⟨List.nodup_nil, _, #[], 0, _, [], k, ⟨rfl, rfl, rfl⟩, rfl, .nil, .refl _, by decide, by rfl, List.Pairwise.nil, by
    show _ ∨ (!w.params.followText "set-order") = true
    cases w.params.followText "set-order"
    · exact .inr rfl
    · exact .inl rfl⟩
/-- set.__new__(set, x) -/
theorem set_new1 (x : Value) {Q : Value → Shared → Prop} (q : Q (.ref s.heap.objs.size) { s with heap := s.heap.push (set0 w) }) : codeAny (model P w) A (.call (.builtin "set.__new__") ⟨[.type "set", x], []⟩) (wants Q E) s := by
  refine codeAny_of_tree ?_
  show wpAny _ A.in1 (do checkBuiltinCall "set.__new__" ⟨[.type "set", x], []⟩; again (.builtin "set.__new__" ⟨[.type "set", x], []⟩)) _ _ s
  refine wpAny_bind (wpAny_of_eq (F.newCall_set_1 x) (wpAny_pure ⟨plainId_quiet F.plain_set_new _, codeAny_builtin F.entry_set_new ?_⟩))
  rw [Around.under_plainId F.plain_set_new _]
  unfold Builtin.«set.__new__» Builtin.Frozenset.newClass
  have sub := sub_set_self
  obtain ⟨hp, g, d, tk, os⟩ := s
  dsimp only
  wp_walk
  refine wpAny_askSetting (wpAny_pure ?_)
  simp only [newObj]
  exact wpAny_bind (wpAny_alloc (wpAny_pure (wpAny_pure q)))
set_option maxHeartbeats 3200000 in
/-- set(xs) -/
theorem setX_list (sn : Seen knd) {l : Addr} {xs : Array Value} {Q : Value → Shared → Prop} (calm : A.handled = none) (hl : s.heap.IsList l xs) (key : Nat → κ) (hkey : ∀ i v, xs[i]? = some v → knd.is (key i) v = true) (hb : xs.size + 1 < scanBound)
    (q : ∀ (h' : Heap) (tk : Nat), SetX knd h' s.heap.objs.size (gatherK key xs.size) → (∀ b o, s.heap.get? b = some o → h'.get? b = some o) → Q (.ref s.heap.objs.size) { s with heap := h', toks := tk }) :
    wpAny (model P w) A (call (.type "set") [.ref l]) Q E s := by
  obtain ⟨c, tl, hmro⟩ := F.called_set.mro
  have hmade := F.called_set.made
  have hsub := F.called_set.sub
  have lt : l < s.heap.objs.size := let ⟨_, e, _⟩ := hl; Heap.lt_size e
  refine wpAny_call (codeAny_of_tree ?_)
  show wpAny _ _ (callAny (.type "set") _) _ _ _
  refine wpAny_pure ⟨Code.quiet_builtin _ (by decide +kernel), codeAny_builtin F.entry_type_call ?_⟩
  rw [Around.under_plain (weight_type_call_type "set" [.ref l] []) rfl]
  have h1 := F.called_set.notType
  have h2 := F.called_set.canCreate
  have hct := F.typeCall_set_1 (.ref l)
  repeat (any_goals (first | assumption | wp_step))
  refine codeAny_mono (set_new1 (.ref l) (E := E) (Q := fun obj s₁ => obj = .ref s.heap.objs.size ∧ s₁ = { s with heap := s.heap.push (set0 w) }) ⟨rfl, rfl⟩) fun r s₁ hr => ?_
  cases r with
  | error e => exact hr
  | ok fl =>
    cases fl with
    | ret obj =>
      obtain ⟨rfl, rfl⟩ := hr
      have gS : (s.heap.push (set0 w)).get? s.heap.objs.size = some (set0 w) := Heap.get?_push_size _ rfl
      have hT : Shared.TypeIs { s with heap := s.heap.push (set0 w) } (.ref s.heap.objs.size) "set" := ⟨_, gS, rfl⟩
      have hli := F.called_set.init.lookup
      have hbi := F.called_set.init.bind (.ref s.heap.objs.size)
      repeat (any_goals (first | assumption | wp_step))
      refine codeAny_mono (codeAny_call_builtin (R := wants (fun r s₂ => r = .none ∧ ∃ h' tk, s₂ = { s with heap := h', toks := tk } ∧ SetX knd h' s.heap.objs.size (gatherK key xs.size) ∧ (∀ b o, s.heap.get? b = some o → h'.get? b = some o)) E)
        F.called_set.init.plain F.entry_set_init (check_set_init_1 hT ?_)) fun r₂ s₂ hr₂ => ?_
      · obtain ⟨ol, hol, hcl, nl, hdl⟩ := hl
        obtain ⟨ocls, odict, odata, oslots⟩ := ol
        simp only at hcl hdl
        subst hcl; subst hdl
        have hol' : (s.heap.push (set0 w)).get? l = some { cls := .type "list", dict := odict, data := .seq xs nl, slots := oslots } := Heap.get?_push_of_some _ hol
        have hsls := F.sub_list_set
        have hslf := F.sub_list_frozenset
        have hne : (Value.type "list" == Value.type "dict") = false := by decide
        have hl1 : (s.heap.push (set0 w)).IsList l xs := ⟨_, hol', rfl, nl, rfl⟩
        unfold Builtin.«set.__init__» noKeywords Builtin.Frozenset.updateFrom
        generalize hPI : pyIter = PI
        wp_walk
        subst hPI
        refine wpAny_pyIter_list hl1 (wpAny_bind (wpAny_runValue ?_))
        have calm3 : A.in1.in1.in1.handled = none := by simp [calm]
        have sz : (s.heap.push (set0 w)).objs.size = s.heap.objs.size + 1 := Heap.size_push ..
        have nI : l ≠ (s.heap.push (set0 w)).objs.size := by rw [sz]; exact Nat.ne_of_lt (Nat.lt_succ_of_lt lt)
        have nS : s.heap.objs.size ∉ [(s.heap.push (set0 w)).objs.size, l] := by
          simp only [List.mem_cons, List.not_mem_nil, or_false, not_or]
          rw [sz]
          exact ⟨Nat.ne_of_lt (Nat.lt_succ_self _), Nat.ne_of_gt lt⟩
        refine setX_loop sn ((Walks.list calm3 _ l nI xs).toS) nS key hkey hb (xs.size - 0) 0 _ (by omega) (Nat.zero_le _) ⟨⟨_, Heap.get?_push_size _ rfl, rfl, rfl⟩, (hl1.push _)⟩ (setX_fresh (Heap.get?_push_of_some _ gS)) fun s' mv X => ?_
        obtain ⟨h', g', d', tk', os'⟩ := s'
        obtain rfl : g' = s.gens := mv.gens
        obtain rfl : d' = s.drawn := mv.drawn
        obtain rfl : os' = s.os := mv.os
        show wpAny _ _ _ _ _ _
        refine wpAny_pure ?_
        show wpAny _ _ (ret Value.none) _ _ _
        refine wpAny_pure ⟨rfl, h', tk', rfl, X, fun b o e => mv.heap b o ?_ (Heap.get?_push_of_some _ (Heap.get?_push_of_some _ e))⟩
        have lb := Heap.lt_size e
        simp only [List.mem_cons, List.not_mem_nil, or_false, not_or]
        rw [sz]
        exact ⟨Nat.ne_of_lt lb, Nat.ne_of_lt (Nat.lt_succ_of_lt lb)⟩
      · cases r₂ with
        | error e => exact hr₂
        | ok fl₂ =>
          cases fl₂ with
          | ret r =>
            obtain ⟨rfl, h', tk, rfl, X, hk'⟩ := hr₂
            repeat (any_goals (first | assumption | wp_step))
            exact q _ _ X hk'
          | _ => exact hr₂.elim
    | _ => exact hr.elim
end
theorem paired_perm {α β : Type} {F : α → β → Prop} {xs ys : List α} {zs : List β} (p : ys.Perm xs) : Paired F xs zs → ∃ ws, ws.Perm zs ∧ Paired F ys ws := by
  induction p generalizing zs with
  | nil => exact fun h => ⟨zs, .refl _, h⟩
  | cons x _ ih =>
    intro h
    cases h with
    | cons r t => obtain ⟨k2, p2, h2⟩ := ih t; exact ⟨_ :: k2, p2.cons _, .cons r h2⟩
  | swap x y l =>
    intro h
    cases h with
    | cons r t => cases t with
      | cons r2 t => exact ⟨_, .swap _ _ _, .cons r2 (.cons r t)⟩
  | trans _ _ i1 i2 =>
    intro h
    obtain ⟨k1, p1, h1⟩ := i2 h
    obtain ⟨k2, p2, h2⟩ := i1 h1
    exact ⟨k2, p2.trans p1, h2⟩
section
variable {P : Program} {w : World} {A : Around} {E : Value → Shared → Prop} {s : Shared} {a : Addr}
theorem seen_str : Seen (strKind P w) := fun k v h => by
  obtain ⟨t, rfl⟩ := Value.isStrOf_shape h
  rfl
theorem seen_int : Seen (intKind P w) := fun k v h => by
  obtain ⟨t, rfl⟩ := Value.isInt_shape h
  rfl
theorem strs_keyed {es : List (Int × Value)} {ks : List Str} (h : Keyed (strKind P w) es ks) : Paired (fun v k => (strKind P w).is k v = true) (es.map (·.2)) ks := by
  induction h with
  | nil => exact .nil
  | cons r _ ih => exact .cons r.1 ih
theorem strs_are {vs : List Value} {ks : List Str} (h : Paired (fun v k => (strKind P w).is k v = true) vs ks) : StrsAre vs ks := by
  induction h with
  | nil => exact .nil
  | cons r _ ih =>
    obtain ⟨t, rfl⟩ := Value.isStrOf_shape r
    exact .cons _ t ih
end
end Nc

namespace Nc
open PySem PySem.Spec PyProof.Rows L2
/-! ## sorted(set) of texts -/
section
variable {P : Program} {w : World} {A : Around} {E : Value → Shared → Prop} {s : Shared} {a : Addr}
theorem sorted_setS {l : List Str} {Q : Value → Shared → Prop} (R : SetX (strKind P w) s.heap a l) (calm : A.handled = none) (few : l.length < 64)
    (q : ∀ (s' : Shared) (p : Addr) (out : Array Value) (c : Nat) (ys : List Str), (∀ b o, s.heap.get? b = some o → s'.heap.get? b = some o) → s'.gens = s.gens → s'.os = s.os → s.heap.objs.size ≤ p →
      s'.heap.get? p = some (seqObj "list" out c) → StrsAre out.toList ys → ys.Perm l → sortedS ys = true → Q (.ref p) s') :
    wpAny (model P w) A (call (.builtin "sorted") [.ref a]) Q E s := by
  obtain ⟨nd, o, es, ep, t, ks, ho, hx, hd, ky, pk, hb, hf, hr, hl⟩ := R
  refine Calls.call_function_entry kind_sorted plain_sorted entry_sorted (args_sorted1 _) ?_
  unfold Builtin.«sorted»
  refine wpAny_bind (m := checkCount "sorted" 1 1 _) (wpAny_pure ?_)
  refine wpAny_bind (collect_set (A := A.in1) calm ⟨o, ho, hx.1, hd⟩ hf hb hr hl fun s1 vs k1 le g1 o1 pm => ?_)
  obtain ⟨zs, pz, hz⟩ := paired_perm pm (strs_keyed ky)
  have vz : StrsAre vs zs := strs_are hz
  have plz : zs.Perm l := pz.trans pk
  have len : vs.length = zs.length := vz.length
  have few2 : vs.length < 64 := by rw [len, plz.length_eq]; exact few
  refine wpAny_bind (wpAny_newList ?_ (by rw [sizeLine_eq]; omega))
  have hoL : (s1.heap.push (seqObj "list" vs.toArray 0)).get? s1.heap.objs.size = some (seqObj "list" vs.toArray 0) := Heap.get?_push_size _ rfl
  refine wpAny_bind (wpAny_holding (wpAny_call_entry slot_list_sort ⟨_, hoL, rfl⟩ entry_list_sort
    (list_sort_treeK strKind_oneLt hoL vz.keysOf (fun v₁ v₂ rest e => keyKind_strs (by rw [← e]; exact vz)) few2 fun st' hp hs => ⟨_, rfl, ?_⟩) (args_list_sort _)))
  obtain ⟨ys, y1, y2, y3⟩ := sorted_out_str vz hp hs
  obtain ⟨c, hc⟩ := sortedHeap_at (vs := vs) (out := (arrOf st').map (·.2)) hoL
  refine wpAny_pure ⟨_, rfl, q _ s1.heap.objs.size _ c ys (fun b u e => ?_) g1 o1 le hc y1 (y2.trans plz) y3⟩
  have e1 := k1 b u e
  have lt := Heap.lt_size e1
  show (sortedHeap (s1.heap.push (seqObj "list" vs.toArray 0)) s1.heap.objs.size vs _).get? b = some u
  rw [sortedHeap_old (Nat.ne_of_lt lt) (by rw [size_push']; exact Nat.lt_succ_of_lt lt)]
  exact Heap.get?_push_of_some _ e1
end
def foldK {κ : Type} [DecidableEq κ] (l : List κ) : List κ := l.foldl insK []
theorem gather_fold {κ : Type} [DecidableEq κ] {l : List κ} {key : Nat → κ} (h : ∀ i k, l[i]? = some k → key i = k) : ∀ n, n ≤ l.length → gatherK key n = (l.take n).foldl insK []
  | 0, _ => rfl
  | n + 1, hn => by
    have e : l[n]? = some l[n] := List.getElem?_eq_getElem hn
    rw [List.take_add_one, e, List.foldl_append]
    show insK (gatherK key n) (key n) = _
    rw [gather_fold h n (by omega), h n _ e]
    rfl
/-- the set at a, its members -/
def SetXO {P : Program} {w : World} {κ : Type} [DecidableEq κ] (knd : KeyKind P w κ) (a : Addr) (l : List κ) : HO := .ext fun h => SetX knd h a l
theorem setXO_new {P : Program} {w : World} {κ : Type} [DecidableEq κ] {knd : KeyKind P w κ} {H : Hp} {h : Heap} {a : Addr} {l : List κ} (R : SetX knd h a l) : ObjOk P w H h a (SetXO knd a l) := by
  have ⟨_, o, _, _, _, _, ho, _⟩ := R
  exact ⟨R, ⟨o, ho⟩, fun h1 h2 p k => SetX.keep p k⟩
def rSortX (P : Program) (w : World) : List V → Hp → VK → Prop := fun xs H Q => ∃ (a : Addr) (l : List Str), xs = [.ref a] ∧ H a = some (SetXO (strKind P w) a l) ∧ l.length < 64 ∧
  ∀ (ys : List Str) (p : Addr), ys.Perm l → sortedS ys = true → H p = none → Q (.ref p) (upd H p (.lst (ys.map V.str)))
theorem cr_sortX {X : Cx} (hc : X.calm = true) : CallR X (.builtin "sorted") (rSortX X.prog X.w) := by
  intro pins s σ H vs us Q I r h
  obtain ⟨a, l, rfl, ha, few, q⟩ := h
  have R : SetX (strKind X.prog X.w) s.heap a l := (I.hok a _ ha).1
  rw [Vals.ref1 r]
  refine sorted_setS R (I.ok.hd hc) few fun s' p out c ys k g o hp hg hi pm so => ?_
  have hlen : (ys.map V.str).length ≤ sizeLine := by rw [List.length_map, pm.length_eq, sizeLine_eq]; omega
  have hn : H p = none := I.hok.fresh hp
  have J : L2.Inv X pins σ (upd H p (.lst (ys.map V.str))) { s with heap := s'.heap, gens := s'.gens, drawn := s'.drawn, toks := s'.toks } :=
    I.call (ch := []) (Un.laid k hp hn) (I.hok.laid k hp ⟨hlen, out.toList, c, vals_of_strs hi, hg⟩) (by rw [g]; exact I.bare) (fun _ z => nomatch z)
  have e : s' = { s with heap := s'.heap, gens := s'.gens, drawn := s'.drawn, toks := s'.toks } := by
    cases s'
    cases s
    cases o
    rfl
  rw [e]
  exact ⟨.ref p, _, J, rfl, q ys p pm so hn⟩
end Nc

namespace Nc
open PySem PySem.Spec PyProof.Rows L2
/-! ## sets of tuples: keys of any depth (over the tables of HandS.TupSets) -/
section
variable {P : Program} {w : World}
/-! ### small questions about keys -/
def NoCls (P : Program) (w : World) (n : Nat) (s : Shared) (v : Value) : Prop := ∀ (A : Around) (E : Value → Shared → Prop) (Q : Bool → Shared → Prop), Q false s → wpAny (model P w) A (ofAClassStatement n v) Q E s
def ByV (P : Program) (w : World) (n : Nat) (s : Shared) (v : Value) : Prop := ∀ (A : Around) (E : Value → Shared → Prop) (Q : Bool → Shared → Prop), (∀ b, Q b s) → wpAny (model P w) A (hashByValue n v) Q E s
theorem noCls_tup {n : Nat} {s : Shared} {a : Addr} {o : Obj} {vs : Array Value} {m : Nat} (ho : s.heap.get? a = some o) (hc : o.cls = .type "tuple") (hd : o.data = .seq vs m) (hq : ∀ v ∈ vs.toList, NoCls P w n s v) : NoCls P w (n + 1) s (.ref a) := fun A E Q h => by
  have hT : s.TypeIs (.ref a) "tuple" := ⟨o, ho, hc⟩
  have yes : (("tuple" : String) == "tuple") = true := by decide
  unfold ofAClassStatement
  refine wpAny_bind (wpAny_typeOf hT ?_)
  dsimp only
  simp only [yes, if_true, Bool.not_true, Bool.false_eq_true, if_false]
  try refine wpAny_bind (wpAny_pure ?_)
  try simp only [Bool.not_true, Bool.false_eq_true, if_false]
  show wpAny _ _ (seqItems? (.ref a) >>= _) _ _ s
  refine wpAny_bind (wpAny_seqItems ho hd (wpAny_bind ?_))
  show wpAny _ _ (forIn vs _ _) _ _ s
  rw [← Array.forIn_toList]
  refine wpAny_forIn_list _ (fun rest r s' => (r.1 = none ∧ s' = s) ∧ ∀ v ∈ rest, NoCls P w n s v) _ ?_ ?_ _ _ ⟨⟨rfl, rfl⟩, hq⟩
  · rintro v rest r s' ⟨⟨hr, rfl⟩, all⟩
    refine wpAny_bind (all v (List.mem_cons_self ..) _ _ _ ?_)
    simp only [Bool.false_eq_true, if_false]
    exact wpAny_pure ⟨⟨rfl, rfl⟩, fun u hu => all u (List.mem_cons_of_mem _ hu)⟩
  · rintro ⟨r1, r2⟩ s' ⟨⟨hr, rfl⟩, _⟩
    cases (show r1 = none from hr)
    exact wpAny_pure h
theorem byV_tup {n : Nat} {s : Shared} {a : Addr} {o : Obj} {vs : Array Value} {m : Nat} (ho : s.heap.get? a = some o) (hc : o.cls = .type "tuple") (hd : o.data = .seq vs m) (hq : ∀ v ∈ vs.toList, ByV P w n s v) : ByV P w (n + 1) s (.ref a) := fun A E Q h => by
  have hT : s.TypeIs (.ref a) "tuple" := ⟨o, ho, hc⟩
  unfold hashByValue
  refine wpAny_bind (wpAny_specialOf hT F.slot_tuple_hash.lookup ?_)
  show wpAny _ _ (seqItems? (.ref a) >>= _) _ _ s
  refine wpAny_bind (wpAny_seqItems ho hd (wpAny_bind ?_))
  show wpAny _ _ (forIn vs _ _) _ _ s
  rw [← Array.forIn_toList]
  refine wpAny_forIn_list _ (fun rest r s' => ((r.1 = none ∨ ∃ b, r.1 = some b) ∧ s' = s) ∧ ∀ v ∈ rest, ByV P w n s v) _ ?_ ?_ _ _ ⟨⟨.inl rfl, rfl⟩, hq⟩
  · rintro v rest r s' ⟨⟨hr, rfl⟩, all⟩
    refine wpAny_bind (all v (List.mem_cons_self ..) _ _ _ fun b => ?_)
    cases b with
    | true =>
      simp only [Bool.not_true, Bool.false_eq_true, if_false]
      exact wpAny_pure ⟨⟨.inl rfl, rfl⟩, fun u hu => all u (List.mem_cons_of_mem _ hu)⟩
    | false =>
      simp only [Bool.not_false, if_true]
      exact wpAny_pure (wpAny_pure (h _))
  · rintro ⟨r1, r2⟩ s' ⟨⟨hr, rfl⟩, _⟩
    rcases hr with hr | ⟨b, hr⟩
    · cases (show r1 = none from hr)
      exact wpAny_pure (h _)
    · cases (show r1 = some b from hr)
      exact wpAny_pure (h _)
mutual
theorem noCls_key : ∀ (k : NK) (v : Value) (n : Nat) (s : Shared), NestedIs s.heap k v → k.depth ≤ n → NoCls P w n s v
  | .none, _, n, s, x, _ => fun A E Q h => by cases x; cases n <;> exact wpAny_pure h
  | .num i, _, n, s, x, _ => fun A E Q h => by cases x <;> cases n <;> exact wpAny_pure h
  | .text y, _, n, s, x, _ => fun A E Q h => by cases x; cases n <;> exact wpAny_pure h
  | .tup ks, _, n, s, x, hn => by
    cases x with
    | tup hg hc hd hk =>
      have hn : NestedKey.depthAll ks + 1 ≤ n := hn
      obtain ⟨n, rfl⟩ : ∃ m, n = m + 1 := ⟨n - 1, by omega⟩
      exact noCls_tup hg hc hd (noCls_keys ks _ n s hk (by omega))
theorem noCls_keys : ∀ (ks : List NK) (vs : List Value) (n : Nat) (s : Shared), NestedAll s.heap ks vs → NestedKey.depthAll ks ≤ n → ∀ v ∈ vs, NoCls P w n s v
  | [], _, n, s, x, _, v, hv => by cases x; cases hv
  | k :: ks, _, n, s, x, hn, v, hv => by
    cases x with
    | cons x1 x2 =>
      have hn : max k.depth (NestedKey.depthAll ks) ≤ n := hn
      rcases List.mem_cons.mp hv with e | hv
      · rw [e]; exact noCls_key k _ n s x1 (by omega)
      · exact noCls_keys ks _ n s x2 (by omega) v hv
end
mutual
theorem byV_key : ∀ (k : NK) (v : Value) (n : Nat) (s : Shared), NestedIs s.heap k v → ByV P w n s v
  | .none, _, n, s, x => fun A E Q h => by cases x; cases n <;> exact wpAny_pure (h _)
  | .num i, _, n, s, x => fun A E Q h => by cases x <;> cases n <;> exact wpAny_pure (h _)
  | .text y, _, n, s, x => fun A E Q h => by cases x; cases n <;> exact wpAny_pure (h _)
  | .tup ks, _, n, s, x => by
    cases x with
    | tup hg hc hd hk =>
      cases n with
      | zero => exact fun A E Q h => wpAny_pure (h _)
      | succ n => exact byV_tup hg hc hd (byV_keys ks _ n s hk)
theorem byV_keys : ∀ (ks : List NK) (vs : List Value) (n : Nat) (s : Shared), NestedAll s.heap ks vs → ∀ v ∈ vs, ByV P w n s v
  | [], _, n, s, x, v, hv => by cases x; cases hv
  | k :: ks, _, n, s, x, v, hv => by
    cases x with
    | cons x1 x2 =>
      rcases List.mem_cons.mp hv with e | hv
      · rw [e]; exact byV_key k _ n s x1
      · exact byV_keys ks _ n s x2 v hv
end
end
/-- the tuple at b is the key κ -/
abbrev IsN (P : Program) (w : World) (h : Heap) (κ : NK) (b : Addr) : Prop := (nestedKind P w).is h κ b
def rowN (w : World) (L : List (NK × Addr)) : List (Int × Value) := L.map fun p => (p.1.hash w, Value.ref p.2)
def hashN (w : World) (L : List (NK × Addr)) : List Int := L.map fun p => p.1.hash w
/-- the set at a: its keys with their tuples, in the table's order -/
structure SetN (w : World) (h : Heap) (a : Addr) (L : List (NK × Addr)) (o : Obj) (es : Array (Int × Value)) (ep : Nat) (t : SetTable) : Prop where
  ob : h.get? a = some o
  xs : o.ExactSet
  dt : o.data = .set es ep t
  row : es.toList = rowN w L
  tab : TabOk t (hashN w L)
  nd : (L.map (·.1)).Nodup
  led : w.params.followText "set-order" = true ∨ t.led = true
  room : L.length * 5 < t.mask * 3
  few : L.length < 64
section
variable {P : Program} {w : World} {A : Around} {E : Value → Shared → Prop} {s : Shared} {a : Addr} {L : List (NK × Addr)} {o : Obj} {es : Array (Int × Value)} {ep : Nat} {t : SetTable}
theorem rowN_size (h : es.toList = rowN w L) : es.size = L.length := by
  rw [← Array.length_toList, h]
  unfold rowN
  rw [List.length_map]
theorem SetN.fits (R : SetN w s.heap a L o es ep t) : t.fits es.size = true := by
  have h1 : t.place.size = L.length := by have := R.tab.sz; unfold hashN at this; rwa [List.length_map] at this
  have h3 := R.room
  unfold SetTable.fits SetTable.fill
  rw [R.tab.dm, rowN_size R.row, h1]
  simp
  omega
theorem SetN.at_ (R : SetN w s.heap a L o es ep t) {i : Nat} {p : NK × Addr} (h : L[i]? = some p) : es[i]? = some (p.1.hash w, Value.ref p.2) := by
  rw [← Array.getElem?_toList, R.row]
  unfold rowN
  rw [List.getElem?_map, h]
  rfl
theorem SetN.here (R : SetN w s.heap a L o es ep t) : ¬ t.gaveWay = true := by
  unfold SetTable.gaveWay
  rw [mask_odd R.tab.mok]
  decide
/-- nothing is seen of a search among tuples -/
theorem unseen {κ : NK} {b : Addr} {Q : Bool → Shared → Prop} (hk : IsN P w s.heap κ b) {ys : List Value} (hy : ∀ y ∈ ys, ∃ κ' c, y = Value.ref c ∧ IsN P w s.heap κ' c) (h : Q false s) : wpAny (model P w) A (searchCouldBeSeen (.ref b) ys) Q E s := by
  unfold searchCouldBeSeen
  refine wpAny_bind (wpAny_forIn_list _ (fun rest r s' => (r.1 = none ∧ s' = s) ∧ ∀ y ∈ rest, ∃ κ' c, y = Value.ref c ∧ IsN P w s.heap κ' c) _ ?_ ?_ _ _ ⟨⟨rfl, rfl⟩, hy⟩)
  · rintro v rest r s' ⟨⟨hr, rfl⟩, all⟩
    obtain ⟨κ', c, rfl, hc⟩ := all v (List.mem_cons_self ..)
    have all' : ∀ y ∈ rest, ∃ κ' c, y = Value.ref c ∧ IsN P w s'.heap κ' c := fun u hu => all u (List.mem_cons_of_mem _ hu)
    dsimp only
    by_cases same : (b == c || (carriedByValue (.ref b) && carriedByValue (.ref c))) = true
    · exact wp_if_pos same (wpAny_pure ⟨⟨rfl, rfl⟩, all'⟩)
    · refine wp_if_neg same (wpAny_bind ((nestedKind P w).quiet hk ?_))
      simp only [Bool.not_true, Bool.false_eq_true, if_false]
      refine wpAny_bind ((nestedKind P w).quiet hc ?_)
      simp only [Bool.not_true, Bool.false_eq_true, if_false]
      refine wpAny_bind (noCls_key κ _ 8 s' hk.1 hk.2 _ _ _ ?_)
      simp only [Bool.false_eq_true, if_false]
      refine wpAny_bind (noCls_key κ' _ 8 s' hc.1 hc.2 _ _ _ ?_)
      simp only [Bool.false_eq_true, if_false]
      exact wpAny_pure ⟨⟨rfl, rfl⟩, all'⟩
  · rintro ⟨r1, r2⟩ s' ⟨⟨hr, rfl⟩, _⟩
    cases (show r1 = none from hr)
    exact wpAny_pure h
/-- the probe's stand behind c steps -/
abbrev standN (t : SetTable) (h : Int) (c : Nat) : SetTable.Probe := nth t.mask (runAt t.mask (SetTable.bits h % (t.mask + 1)) (SetTable.bits h)) c
theorem stand_dummy (t : SetTable) (h : Int) (c : Nat) : (standN t h c).dummy = none := by
  have key : ∀ (n : Nat) (p : SetTable.Probe), p.dummy = none → (nth t.mask p n).dummy = none := fun n => by
    induction n with
    | zero => exact fun p h => h
    | succ n ih => exact fun p h => ih (adv t.mask p) (by unfold adv; split <;> exact h)
  exact key c _ rfl
theorem stand_add (t : SetTable) (h : Int) (c q : Nat) : nth t.mask (standN t h c) q = standN t h (c + q) := (nth_add t.mask c _ q).symm
/-- the search, from the c-th step on -/
theorem sn_search (R : SetN w s.heap a L o es ep t) (hL : ∀ p ∈ L, IsN P w s.heap p.1 p.2) {x : Addr} {κ : NK} (hx : IsN P w s.heap κ x) (hu : (nestedKind P w).room A) {K : Nat} (K0 : K < 10 * SetTable.turns t.mask)
    (K1 : way t.mask (κ.hash w) K ∉ t.place.toList) (K2 : ∀ c, c < K → way t.mask (κ.hash w) c ∈ t.place.toList) {Q : SetFound → Shared → Prop} (hin : κ ∈ L.map (·.1) → Q (.there none) s) (hout : κ ∉ L.map (·.1) → Q (.free (way t.mask (κ.hash w) K) false) s) :
    ∀ (f c : Nat) (st : Option SetTable.Probe), st.getD (t.probeStart (κ.hash w)) = standN t (κ.hash w) c → c ≤ K → K - c < f →
      (∀ (i : Nat) p, L[i]? = some p → p.1 = κ → ∃ c', c ≤ c' ∧ c' < K ∧ t.place.toList[i]? = some (way t.mask (κ.hash w) c')) → wpAny (model P w) A (setSearchFrom a (.ref x) (κ.hash w) true f st) Q E s
  | 0, _, _, _, _, hf, _ => absurd hf (Nat.not_lt_zero _)
  | f + 1, c, st, hst, hc, hf, left => by
    rw [setSearchFrom_succ]
    refine wpAny_bind (wpAny_setState_of R.ob R.dt R.fits ?_)
    dsimp only
    refine wp_if_neg R.here ?_
    try refine wpAny_bind (wpAny_pure ?_)
    have wy : ∀ q, (nth t.mask (standN t (κ.hash w) c) q).j = way t.mask (κ.hash w) (c + q) := fun q => congrArg SetTable.Probe.j (stand_add t _ c q)
    have hh : ∀ (i : Nat) p, L[i]? = some p → (fun i => (es[i]?.map (·.1)).getD 0) i = p.1.hash w := fun i p hp => by
      show (es[i]?.map (·.1)).getD 0 = _
      rw [R.at_ hp]
      rfl
    have last : c + (K - c) = K := by omega
    rcases go_spec t R.tab.ris R.tab.dm (fun i => (es[i]?.map (·.1)).getD 0) (κ.hash w) (10 * SetTable.turns t.mask) (K - c) _ (stand_dummy t _ c) (by omega) (fun q hq => by rw [wy]; exact K2 (c + q) (by omega)) (by rw [wy, last]; exact K1) with ⟨q, i, hq, hi, hhash, none_ahead, pr⟩ | ⟨none_at_all, pr⟩
    · have pr2 : t.probe (fun i => (es[i]?.map (·.1)).getD 0) (κ.hash w) (st.getD (t.probeStart (κ.hash w))) = some (.candidate (way t.mask (κ.hash w) (c + q)) i (standN t (κ.hash w) (c + (q + 1)))) := by
        rw [hst, ← wy, ← stand_add]
        exact pr
      rw [pr2]
      dsimp only
      rw [wy] at hi
      have il : i < L.length := by
        have h2 : t.place.size = L.length := by have := R.tab.sz; unfold hashN at this; rwa [List.length_map] at this
        rw [← h2, ← Array.length_toList]
        exact (List.getElem?_eq_some_iff.mp hi).1
      have hp : L[i]? = some L[i] := List.getElem?_eq_getElem il
      generalize L[i] = p at hp
      have pm : p ∈ L := List.mem_of_getElem? hp
      have sl : t.slot (way t.mask (κ.hash w) (c + q)) = .live i := slot_live R.tab.ris hi
      have on : wpAny (model P w) A (searchRest a (.ref x) (κ.hash w) true f es t (way t.mask (κ.hash w) (c + q)) i (standN t (κ.hash w) (c + (q + 1)))) Q E s := by
        unfold searchRest
        rw [R.at_ hp]
        dsimp only
        refine wpAny_bind (wpAny_holding ((nestedKind P w).eqBool hu (hL p pm) hx (wpAny_bind (wpAny_setState_of R.ob R.dt R.fits ?_))))
        dsimp only
        by_cases hk : p.1 = κ
        · exact wp_if_pos (by simp [hk]) (wpAny_pure (hin (List.mem_map.mpr ⟨p, pm, hk⟩)))
        · refine wp_if_neg (by simp [hk]) ?_
          try refine wpAny_bind (wpAny_pure ?_)
          rw [sameMem]
          dsimp only
          simp only [if_true, sl, R.at_ hp]
          refine wpAny_bind (wpAny_isSame_ref_self (wpAny_bind (wpAny_pure ?_)))
          simp only [if_true]
          refine wp_if_neg (by simp [hk]) (sn_search R hL hx hu K0 K1 K2 hin hout f (c + (q + 1)) _ rfl (by omega) (by omega) fun i0 p0 h0 k0 => ?_)
          obtain ⟨c', a1, a2, a3⟩ := left i0 p0 h0 k0
          refine ⟨c', ?_, a2, a3⟩
          by_cases z : c' < c + q
          · exact absurd ((hh i0 p0 h0).trans (by rw [k0])) (none_ahead (c' - c) i0 (by omega) (by rw [wy, show c + (c' - c) = c' by omega]; exact a3))
          · by_cases y : c' = c + q
            · rw [y] at a3
              have s0 := slot_live R.tab.ris a3
              rw [sl] at s0
              cases s0
              rw [hp] at h0
              cases h0
              exact absurd k0 hk
            · omega
      by_cases hl : t.led = true
      · refine wp_if_neg (by simp [hl]) ?_
        try refine wpAny_bind (wpAny_pure ?_)
        exact on
      · refine wp_if_pos (by simp [hl]) (wpAny_bind (unseen hx (fun y hy => ?_) ?_))
        · obtain ⟨e, he, ey⟩ := List.mem_map.mp hy
          have he2 : e ∈ es.toList := by
            have : e ∈ es ∧ e.1 = κ.hash w := by simpa using he
            simpa using this.1
          rw [R.row] at he2
          obtain ⟨p2, hp2, e2⟩ := List.mem_map.mp he2
          exact ⟨p2.1, p2.2, by rw [← ey, ← e2], hL p2 hp2⟩
        · refine wp_if_neg (by decide) ?_
          try refine wpAny_bind (wpAny_pure ?_)
          exact on
    · have pr2 : t.probe (fun i => (es[i]?.map (·.1)).getD 0) (κ.hash w) (st.getD (t.probeStart (κ.hash w))) = some (.empty (way t.mask (κ.hash w) K) none) := by
        have e2 : way t.mask (κ.hash w) K = (nth t.mask (standN t (κ.hash w) c) (K - c)).j := by rw [wy, last]
        rw [hst, e2]
        exact pr
      rw [pr2]
      refine wpAny_pure (hout fun hm => ?_)
      obtain ⟨p0, h0, k0⟩ := List.mem_map.mp hm
      obtain ⟨i0, hi0, e0⟩ := List.getElem_of_mem h0
      have h00 : L[i0]? = some p0 := by rw [List.getElem?_eq_getElem hi0, e0]
      obtain ⟨c', a1, a2, a3⟩ := left i0 p0 h00 k0
      exact none_at_all (c' - c) i0 (by omega) (by rw [wy, show c + (c' - c) = c' by omega]; exact a3) ((hh i0 p0 h00).trans (by rw [k0]))
theorem sn_found (R : SetN w s.heap a L o es ep t) (hL : ∀ p ∈ L, IsN P w s.heap p.1 p.2) {x : Addr} {κ : NK} (hx : IsN P w s.heap κ x) (hu : (nestedKind P w).room A) {Q : SetFound → Shared → Prop} (hin : κ ∈ L.map (·.1) → Q (.there none) s)
    (hout : ∀ K, κ ∉ L.map (·.1) → way t.mask (κ.hash w) K ∉ t.place.toList → (∀ c, c < K → way t.mask (κ.hash w) c ∈ t.place.toList) → Q (.free (way t.mask (κ.hash w) K) false) s) : wpAny (model P w) A (setSearch a (.ref x) (κ.hash w) true) Q E s := by
  have hl : (hashN w L).length = L.length := by unfold hashN; rw [List.length_map]
  have rm := R.room
  obtain ⟨K, K0, K1, K2⟩ := R.tab.first (by omega) (κ.hash w)
  have big : 10 * SetTable.turns t.mask ≤ 1420 := by
    unfold SetTable.turns
    rcases R.tab.mok with e | e | e <;> omega
  unfold setSearch
  refine sn_search R hL hx hu K0 K1 K2 hin (fun hn => hout K hn K1 K2) 100000 0 none rfl (Nat.zero_le _) (by omega) fun i p hp hk => ?_
  have hi : (hashN w L)[i]? = some (κ.hash w) := by
    unfold hashN
    rw [List.getElem?_map, hp, ← hk]
    rfl
  have il : i < t.place.toList.length := by
    rw [Array.length_toList, R.tab.sz, hl]
    exact (List.getElem?_eq_some_iff.mp hp).1
  have hj := List.getElem?_eq_getElem il
  obtain ⟨c, hc, e⟩ := R.tab.before K1 hi hj
  exact ⟨c, Nat.zero_le _, hc, by rw [hj, e]⟩
theorem ins_perm {α : Type} (L : List α) (p : Nat) (x : α) : (L.take p ++ x :: L.drop p).Perm (x :: L) := by
  have := List.perm_middle (a := x) (l₁ := L.take p) (l₂ := L.drop p)
  rwa [List.take_append_drop] at this
/-- the rows in another order -/
theorem rows_moved {order : Array Nat} (hr : es.toList = rowN w L) (hp : order.toList.Perm (List.range L.length)) :
    ∃ L2, (order.filterMap (es[·]?)).toList = rowN w L2 ∧ L2.Perm L ∧ hashN w L2 = order.toList.map fun i => (es.map (·.1)).getD i 0 := by
  have sz := rowN_size hr
  have ent : ∀ i (h : i < L.length), es[i]? = some (L[i].1.hash w, Value.ref L[i].2) := fun i h => by
    rw [← Array.getElem?_toList, hr]
    unfold rowN
    rw [List.getElem?_map, List.getElem?_eq_getElem h]
    rfl
  have key : ∀ l : List Nat, (∀ i ∈ l, i < L.length) → l.filterMap (fun i => es[i]?) = rowN w (l.filterMap fun i => L[i]?) ∧ hashN w (l.filterMap fun i => L[i]?) = l.map fun i => (es.map (·.1)).getD i 0 := fun l => by
    induction l with
    | nil => exact fun _ => ⟨rfl, rfl⟩
    | cons i l ih =>
      intro hl
      have hi := hl i (List.mem_cons_self ..)
      obtain ⟨e1, e2⟩ := ih fun j hj => hl j (List.mem_cons_of_mem _ hj)
      rw [List.filterMap_cons_some (ent i hi), List.filterMap_cons_some (List.getElem?_eq_getElem hi), e1]
      refine ⟨rfl, ?_⟩
      show L[i].1.hash w :: hashN w _ = _
      rw [List.map_cons, e2]
      congr 1
      have : (es.map (·.1))[i]? = some (L[i].1.hash w) := by rw [Array.getElem?_map, ent i hi]; rfl
      simp [Array.getD_eq_getD_getElem?, this]
  obtain ⟨e1, e2⟩ := key order.toList fun i hi => List.mem_range.mp (hp.mem_iff.mp hi)
  refine ⟨_, by simpa using e1, ?_, e2⟩
  have all : ∀ n, n ≤ L.length → (List.range n).filterMap (fun i => L[i]?) = L.take n := fun n => by
    induction n with
    | zero => exact fun _ => rfl
    | succ n ih =>
      intro hn
      rw [List.range_succ, List.filterMap_append, ih (by omega), List.take_succ, List.getElem?_eq_getElem (show n < L.length from hn), List.filterMap_cons_some (List.getElem?_eq_getElem (show n < L.length from hn))]
      rfl
  have := hp.filterMap fun i => L[i]?
  rwa [all _ (Nat.le_refl _), List.take_length] at this
theorem tab_plain {t : SetTable} {hs : List Int} (T : TabOk t hs) (b : Bool) : TabOk { t with plain := b } hs := ⟨T.ris, T.dm, T.sz, T.mok, T.bd, T.reach⟩
/-- the table is laid anew, larger -/
theorem sn_relay (ho : s.heap.get? a = some o) (hx : o.ExactSet) (hd : o.data = .set es ep t) (hr : es.toList = rowN w L) (tb : TabOk t (hashN w L)) (nd : (L.map (·.1)).Nodup) (ld : w.params.followText "set-order" = true ∨ t.led = true) (few : L.length < 64) (fl : L.length ≤ t.mask)
    {wanted M : Nat} (hw : SetTable.sizeAbove wanted - 1 = M) (hM : MaskOk M) (h128 : SetTable.sizeAbove wanted ≤ 128) (hn : L.length * 5 < M * 3) {Q : Unit → Shared → Prop}
    (hQ : ∀ h' L' o' es' ep' t', Heap.SameBut a s.heap h' → SetN w h' a L' o' es' ep' t' → L'.Perm L → Q () { s with heap := h' }) : wpAny (model P w) A (setRelay a wanted) Q E s := by
  have sz := rowN_size hr
  have pz : t.place.size = L.length := by have := tb.sz; unfold hashN at this; rwa [List.length_map] at this
  have ft : t.fits es.size = true := by
    unfold SetTable.fits SetTable.fill
    rw [tb.dm, sz, pz]
    simp
    omega
  obtain ⟨t', order, e, hp, T, em, el, _, _⟩ := relaid_ok t (hs := es.map (·.1)) (wanted := wanted) hw hM (by rw [Array.size_map, sz]; omega)
  rw [Array.size_map, sz] at hp
  obtain ⟨L2, r1, r2, r3⟩ := rows_moved hr hp
  rw [← r3] at T
  have sz2 := rowN_size r1
  rw [r2.length_eq] at sz2
  rw [setRelay_eq]
  refine wpAny_bind (wpAny_setState_of ho hd ft ?_)
  dsimp only
  refine wp_if_neg (by rw [sizeLine_eq]; omega) ?_
  try refine wpAny_bind (wpAny_pure ?_)
  rw [e]
  dsimp only
  refine wpAny_bind (wp_if_neg (by rw [sz2, sz]; simp) ?_)
  try refine wpAny_bind (wpAny_pure ?_)
  refine wpAny_pure ?_
  dsimp only
  have sb := Heap.SameBut.update s.heap a (Obj.putSet (order.filterMap (es[·]?)) t')
  refine wpAny_storeSet_of ho hd (hQ _ L2 _ _ _ t' sb ⟨store_at ho hd, ⟨hx.1, hx.2.1, hx.2.2⟩, rfl, r1, T, (r2.map (·.1)).nodup_iff.mpr nd, by rw [el]; exact ld, by rw [r2.length_eq, em]; exact hn, by rw [r2.length_eq]; exact few⟩ r2) (by rw [sz2, sizeLine_eq]; omega)
/-- a key is added -/
theorem sn_add (R : SetN w s.heap a L o es ep t) (hL : ∀ p ∈ L, IsN P w s.heap p.1 p.2) {x : Addr} {κ : NK} (hx : IsN P w s.heap κ x) (hu : (nestedKind P w).room A) (few : L.length + 1 < 64) {Q : Bool → Shared → Prop}
    (hQ : ∀ b h' L' o' es' ep' t', Heap.SameBut a s.heap h' → SetN w h' a L' o' es' ep' t' → (κ ∈ L.map (·.1) → L' = L) → (κ ∉ L.map (·.1) → L'.Perm ((κ, x) :: L)) → Q b { s with heap := h' }) :
    wpAny (model P w) A (setAddHashed a (.ref x) (κ.hash w)) Q E s := by
  have sz := rowN_size R.row
  have rm := R.room
  unfold setAddHashed
  refine wpAny_holding ?_
  rw [show (100000 : Nat) = 99999 + 1 from rfl, setAddHashedIn_succ]
  refine wpAny_bind (wpAny_setState_of R.ob R.dt R.fits ?_)
  dsimp only
  refine wp_if_neg (by simp [byScan, Value.scannable]) ?_
  try refine wpAny_bind (wpAny_pure ?_)
  refine wpAny_bind (sn_found R hL hx hu (fun hm => ?_) fun K hm K1 K2 => ?_)
  · exact wpAny_pure (hQ false s.heap L o es ep t (Heap.SameBut.refl a s.heap) R (fun _ => rfl) fun z => absurd hm z)
  dsimp only
  refine wpAny_bind (wpAny_setState_of R.ob R.dt R.fits ?_)
  dsimp only
  obtain ⟨q1, q2, q3, q4, q5, _, _, _, q9⟩ := R.tab.put K1 K2
  generalize t.put (way t.mask (κ.hash w) K) = pt at q1 q3 q4 q5 q9 ⊢
  obtain ⟨t1, p⟩ := pt
  dsimp only at q1 q3 q4 q5 q9 ⊢
  subst q1
  generalize SetTable.below t.place (way t.mask (κ.hash w) K) = p at q2 q3 ⊢
  have pm := ins_perm L p (κ, x)
  have row1 : (SetTable.insertAt es p (κ.hash w, Value.ref x)).toList = rowN w (L.take p ++ (κ, x) :: L.drop p) := by
    rw [SetTable.toList_insertAt, R.row]
    unfold rowN
    rw [List.map_append, List.map_cons, List.map_take, List.map_drop]
  have tab1 : TabOk t1 (hashN w (L.take p ++ (κ, x) :: L.drop p)) := by
    have : hashN w (L.take p ++ (κ, x) :: L.drop p) = (hashN w L).take p ++ κ.hash w :: (hashN w L).drop p := by
      unfold hashN
      rw [List.map_append, List.map_cons, List.map_take, List.map_drop]
    rw [this]
    exact q3
  generalize L.take p ++ (κ, x) :: L.drop p = L1 at pm row1 tab1
  have len1 : L1.length = L.length + 1 := pm.length_eq
  have nd1 : (L1.map (·.1)).Nodup := (pm.map (·.1)).nodup_iff.mpr (List.nodup_cons.mpr ⟨hm, R.nd⟩)
  have sz1 := rowN_size row1
  generalize SetTable.insertAt es p (κ.hash w, Value.ref x) = es1 at row1 sz1 ⊢
  -- whatever is asked of the hash
  have rest : ∀ t2 : SetTable, TabOk t2 (hashN w L1) → t2.mask = t.mask → t2.led = t.led → t2.fill = L1.length → wpAny (model P w) A (do
      storeSet a es1 t2
      if (!false && t2.tooFull) = true then setRelay a (SetTable.grown (es.size + 1))
      return true) Q E s := fun t2 T2 m2 l2 f2 => by
    have sb := Heap.SameBut.update s.heap a (Obj.putSet es1 t2)
    have o1 := store_at (es' := es1) (t' := t2) R.ob R.dt
    refine wpAny_bind (wpAny_storeSet_of R.ob R.dt ?_ (by rw [sz1, len1, sizeLine_eq]; omega))
    generalize s.heap.update a (Obj.putSet es1 t2) = h1 at sb o1 ⊢
    have ld : w.params.followText "set-order" = true ∨ t2.led = true := by rw [l2]; exact R.led
    by_cases full : t2.tooFull = true
    · have much : L1.length * 5 ≥ t.mask * 3 := by
        have h := full
        unfold SetTable.tooFull at h
        rw [decide_eq_true_eq, f2, m2] at h
        exact h
      have two : (t.mask = 7 ∧ L.length = 4) ∨ (t.mask = 31 ∧ L.length = 18) := by
        rcases R.tab.mok with e | e | e <;> rw [e] at much rm
        · exact .inl ⟨e, by omega⟩
        · exact .inr ⟨e, by omega⟩
        · omega
      have go : ∀ M, SetTable.sizeAbove (SetTable.grown (es.size + 1)) - 1 = M → MaskOk M → SetTable.sizeAbove (SetTable.grown (es.size + 1)) ≤ 128 → L1.length * 5 < M * 3 →
          wpAny (model P w) A (setRelay a (SetTable.grown (es.size + 1))) (fun _ s' => wpAny (model P w) A (pure true) Q E s') E { s with heap := h1 } := fun M g1 g2 g3 g4 =>
        sn_relay (s := { s with heap := h1 }) o1 ⟨R.xs.1, R.xs.2.1, R.xs.2.2⟩ rfl row1 T2 nd1 ld (by omega) (by rw [m2]; rcases two with ⟨e, e2⟩ | ⟨e, e2⟩ <;> omega) g1 g2 g3 g4
          fun h2 L2 o2 es2 ep2 t2 sb2 R2 p2 => wpAny_pure (hQ true h2 L2 o2 es2 ep2 t2 (sb.trans sb2) R2 (fun z => absurd z hm) fun _ => p2.trans pm)
      first
        | refine wpAny_bind (wp_if_pos (by simp [full]) ?_)
        | refine wp_if_pos (by simp [full]) (wpAny_bind ?_)
      rcases two with ⟨_, e2⟩ | ⟨_, e2⟩
      · exact go 31 (by rw [sz, e2, size_20]) (.inr (.inl rfl)) (by rw [sz, e2, size_20]; decide) (by omega)
      · exact go 127 (by rw [sz, e2, size_76]) (.inr (.inr rfl)) (by rw [sz, e2, size_76]; decide) (by omega)
    · have rm1 : L1.length * 5 < t2.mask * 3 := by
        have h := full
        unfold SetTable.tooFull at h
        rw [decide_eq_true_eq, f2] at h
        omega
      first
        | refine wpAny_bind (wp_if_neg (by simp [full]) (wpAny_pure ?_))
        | refine wp_if_neg (by simp [full]) ?_
      exact wpAny_pure (hQ true h1 L1 _ es1 _ t2 sb ⟨o1, ⟨R.xs.1, R.xs.2.1, R.xs.2.2⟩, rfl, row1, T2, nd1, ld, rm1, by omega⟩ (fun z => absurd z hm) fun _ => pm)
  have f1 : t1.fill = L1.length := by rw [q9, len1]; unfold hashN; rw [List.length_map]
  by_cases pl : t1.plain = true
  · have next : ∀ b : Bool, wpAny (model P w) A (do
        storeSet a es1 (if b = true then t1 else { t1 with plain := false })
        if (!false && (if b = true then t1 else { t1 with plain := false }).tooFull) = true then setRelay a (SetTable.grown (es.size + 1))
        return true) Q E s := fun b => by
      cases b with
      | true => exact rest t1 tab1 q4 q5 f1
      | false => exact rest { t1 with plain := false } (tab_plain tab1 false) q4 q5 f1
    first
      | (refine wpAny_bind ?_; refine wp_if_pos pl ?_; exact byV_key κ _ 8 s hx.1 _ _ _ fun b => next b)
      | refine wp_if_pos pl (wpAny_bind (byV_key κ _ 8 s hx.1 _ _ _ fun b => next b))
  · first
      | (refine wpAny_bind ?_; refine wp_if_neg pl ?_; exact wpAny_pure (rest t1 tab1 q4 q5 f1))
      | refine wp_if_neg pl (wpAny_bind (wpAny_pure (rest t1 tab1 q4 q5 f1)))
end
end Nc

namespace Nc
open PySem PySem.Spec PyProof.Rows L2
/-! ## comprehensions of any kind, any number of fors -/
/-- the clauses, and what is done with an element -/
inductive IsComp : Expr → List Comprehension → (Value → PySem.Env → Sem Unit) → Prop
  | list (elt : Expr) (gens : List Comprehension) (scope : Scope) (pos : Pos) : IsComp (.ListComp elt gens scope pos) gens fun acc env => do let _ ← call (.builtin "list.append") [acc, ← eval elt env]
  | set (elt : Expr) (gens : List Comprehension) (scope : Scope) (pos : Pos) : IsComp (.SetComp elt gens scope pos) gens fun acc env => do let v ← eval elt env; standAt elt.pos; let _ ← call (.builtin "set.add") [acc, v]
  | dict (k v : Expr) (gens : List Comprehension) (scope : Scope) (pos : Pos) : IsComp (.DictComp k v gens scope pos) gens fun acc env => do
      let kv ← eval k env
      let vv ← holding [kv] (eval v env)
      match acc with
      | .ref d => do
        standAt { k.pos with endLine := v.pos.endLine, endCol := v.pos.endCol }
        holding [kv, vv] (dictSet d kv vv)
      | _ => unsupported "internal:dictcomp"
theorem compTurn_at {e : Expr} {gens : List Comprehension} {emit : Value → PySem.Env → Sem Unit} {d : Nat} {tg iter : Expr} {ifs : List Expr} {it acc : Value} {env : PySem.Env} (h : IsComp e gens emit) (hg : gens[d]? = some ⟨tg, iter, ifs, 0⟩) : compTurn e d it acc env = (do
      standAt iter.pos
      match ← pyNext it with
      | none => pure (.done .next)
      | some v =>
        letOwnedTupleGo tg it v
        assign tg env v
        let mut ok := true
        for c in ifs do
          if ok then ok ← isTrue c env (eval c env)
        if ok then
          match gens[d + 1]? with
          | some g' =>
            let x ← eval g'.iter env
            standAt g'.iter.pos
            let x ← if g'.is_async != 0 then foldedIterable g'.iter x else foldedSetIterable g'.iter env x
            let _ ← runOwn (.compStart e (d + 1) (← holding [x] (if g'.is_async != 0 then asyncIter x else pyIter x)) acc env) env
          | none => emit acc env
        again (.compLoop e d it acc env)) := by
  cases h <;> (unfold compTurn; simp only [hg]; rfl)
theorem clauses_at {e : Expr} {gens : List Comprehension} {emit : Value → PySem.Env → Sem Unit} (h : IsComp e gens emit) : clausesOf e = gens := by
  cases h <;> rfl
section
variable {M : Model} {A : Around}
/-- what stands behind a clause's tests: the next clause's loop, or the element -/
def StageC (M : Model) (A : Around) (e : Expr) (gens : List Comprehension) (emit : Value → PySem.Env → Sem Unit) (acc : Value) (env : PySem.Env) (d : Nat) (P : Shared → Prop) (N : Value → Shared → Prop) (s : Shared) : Prop := match gens[d]? with
  | some g => g.is_async = 0 ∧ (∀ x, foldedSetIterable g.iter env x = pure x) ∧ wpAny M A (eval g.iter env) (fun x s1 => wpAny M A (pyIter x) (fun it s2 => codeAny M A (.compStart e d it acc env) (fun r s' => match r with
    | .ok _ => P s'
    | .error _ => False) s2) N s1) N s
  | none => wpAny M A (emit acc env) (fun _ s' => P s') N s
end
section
variable {prog : Program} {w : World} {A : Around} {R : Result → Shared → Prop} {s : Shared} {e tg iter : Expr} {ifs : List Expr} {gens : List Comprehension} {emit : Value → PySem.Env → Sem Unit} {it acc : Value} {env : PySem.Env} {d : Nat}
theorem comp_turns (h : IsComp e gens emit) (hg : gens[d]? = some ⟨tg, iter, ifs, 0⟩) (hl : ∀ it, (Code.compLoop e d it acc env).isFrame = false) (J : Nat → Shared → Prop)
    (turn : ∀ n s, J n s → wpAny (model prog w) A (pyNext it) (fun r s1 => match r with
      | none => R (.ok .next) s1
      | some v => wpAny (model prog w) A (letOwnedTupleGo tg it v) (fun _ s2 => wpAny (model prog w) A (assign tg env v) (fun _ s3 =>
          wpAny (model prog w) A (forIn ifs true fun c r => if r = true then do let ok ← isTrue c env (eval c env); pure (ForInStep.yield ok) else pure (ForInStep.yield r)) (fun ok s4 =>
            if ok = true then StageC (model prog w) A e gens emit acc env (d + 1) (fun s' => ∃ m, m < n ∧ J m s') (notedBy (model prog w) A env fun e s' => R (.error e) s') s4
            else ∃ m, m < n ∧ J m s4) (notedBy (model prog w) A env fun e s' => R (.error e) s') s3) (notedBy (model prog w) A env fun e s' => R (.error e) s') s2) (notedBy (model prog w) A env fun e s' => R (.error e) s') s1) (notedBy (model prog w) A env fun e s' => R (.error e) s') s)
    (n : Nat) (h0 : J n s) : codeAny (model prog w) A (.compLoop e d it acc env) R s := by
  refine codeAny_loop (by cases h <;> rfl) J (fun n s hJ => ?_) n h0
  have hden : wpAny (model prog w) (A.under (.compLoop e d it acc env)) ((compTurn e d it acc env).onRaise (fun x => do noteFrame x env; theTreesLotGoes x)) (fun fin s' => match fin with
      | .done f => R (.ok f) s'
      | .again c' => c' = .compLoop e d it acc env ∧ ∃ m, m < n ∧ J m s') (fun x s' => R (.error x) s') s := by
    have hA : A.under (.compLoop e d it acc env) = A := by cases h <;> rfl
    rw [hA]
    refine wpAny_noted ?_
    rw [compTurn_at h hg]
    refine wpAny_bind (wpAny_standAt (wpAny_bind (wpAny_mono (turn n s hJ) (fun r s1 h1 => ?_) fun _ _ z => z)))
    cases r with
    | none => exact wpAny_pure h1
    | some v =>
      refine wpAny_bind (wpAny_mono h1 (fun _ s2 h2 => ?_) fun _ _ z => z)
      refine wpAny_bind (wpAny_mono h2 (fun _ s3 h3 => wpAny_bind (wpAny_mono h3 (fun ok s4 h4 => ?_) fun _ _ z => z)) fun _ _ z => z)
      cases ok with
      | false => exact wpAny_pure ⟨rfl, h4⟩
      | true =>
        simp only [if_true] at h4 ⊢
        unfold StageC at h4
        cases q : gens[d + 1]? with
        | none =>
          rw [q] at h4
          exact wpAny_bind (wpAny_mono h4 (fun _ s5 h5 => wpAny_pure ⟨rfl, h5⟩) fun _ _ z => z)
        | some g' =>
          rw [q] at h4
          obtain ⟨ha, hf, h5⟩ := h4
          have hb : (g'.is_async != 0) = false := by rw [ha]; rfl
          simp only [hb, Bool.false_eq_true, if_false]
          refine wpAny_bind (wpAny_mono h5 (fun x s5 h6 => ?_) fun _ _ z => z)
          refine wpAny_bind (wpAny_standAt (wpAny_bind (wpAny_of_eq (hf x) (wpAny_bind (wpAny_holding (wpAny_mono h6 (fun it1 s6 h7 => ?_) fun _ _ z => z))))))
          refine wpAny_bind (wpAny_runOwn ?_)
          rw [Around.mark_none]
          refine codeAny_mono h7 fun r s' hr => ?_
          cases r with
          | ok f => first
            | exact wpAny_pure ⟨rfl, hr⟩
            | exact wpAny_bind (wpAny_pure (wpAny_pure ⟨rfl, hr⟩))
          | error x => exact hr.elim
  cases h <;> exact hden
theorem compStart_at (h : IsComp e gens emit) (hg : gens[d]? = some ⟨tg, iter, ifs, 0⟩) (h0 : codeAny (model prog w) A (.compLoop e d it acc env) R s)
    (h1 : wpAny (model prog w) A (pyIter it) (fun it' s' => codeAny (model prog w) A (.compLoop e d it' acc env) R s') (notedBy (model prog w) A env fun x s' => R (.error x) s') s) : codeAny (model prog w) A (.compStart e d it acc env) R s := by
  have hden : wpAny (model prog w) A ((compStart e d it acc env).onRaise (fun x => do noteFrame x env; standAt theWindowsPlace)) (fun fin s' => match fin with
      | .done f => R (.ok f) s'
      | .again c' => c'.quiet = true ∧ codeAny (model prog w) A c' R s') (fun x s' => R (.error x) s') s := by
    refine wpAny_notedAt ?_
    unfold compStart
    rw [clauses_at h, hg]
    have na : ((some (⟨tg, iter, ifs, 0⟩ : Comprehension)).elim false (·.is_async != 0)) = false := rfl
    simp only [na, Bool.false_eq_true, if_false]
    have qt : ∀ x, (Code.compLoop e d x acc env).quiet = true := fun x => by cases h <;> rfl
    try refine wpAny_bind (wpAny_pure ?_)
    refine wpAny_bind (wpAny_askSetting (wpAny_ite ?_))
    split
    · first
        | exact wpAny_bind (wpAny_pure (wpAny_pure (And.intro (qt _) h0)))
        | exact wpAny_pure (And.intro (qt _) h0)
    · refine wpAny_bind (wpAny_rule ?_)
      refine wpAny_bind (wpAny_standAt (wpAny_bind (wpAny_mono h1 (fun it' s' h' => wpAny_pure (And.intro (qt _) h')) fun _ _ x => x)))
  refine codeAny_of_tree ?_
  cases h <;> exact hden
end
/-! ### readings -/
abbrev CBT := L2.St → Hp → (Hp → Prop) → Prop
structure ClX1 where
  wi : TI
  g : TG
  tt : TT
  vs : List Nat
/-- the loop of a clause: W by turn, rest, heap; what stands behind its tests is nx -/
def genLoop (J : It) (g : TG) (tt : TT) (vs : List Nat) (nx : CBT) (σ : L2.St) (H0 : Hp) (N : Hp → Prop) : Prop := ∃ W : Nat → Nat → Hp → Prop, (∃ m, W 0 m H0) ∧ ∀ i m H, W i m H →
  (J.stop i H ∧ N H) ∨ (J.go i H ∧ ∃ Nx : Hp → Prop, (∀ H', Nx H' → ∃ m', m' < m ∧ W (i + 1) m' H') ∧ ∀ x H', J.yld i H x H' → g x (wipe σ vs) H' fun σ2 H2 => wipe σ2 vs = wipe σ vs ∧ tt σ2 H2 fun b H3 => if b = true then nx σ2 H3 Nx else Nx H3)
def tStage : List ClX1 → CBT → CBT
  | [], em => em
  | c :: r, em => fun σ H N => c.wi σ H fun J H1 => genLoop J c.g c.tt c.vs (tStage r em) σ H1 N
def vsOf : List ClX1 → List Nat
  | [] => []
  | c :: _ => c.vs
/-- an element is taken in -/
def EmOk (B : Cx) (emit : Value → PySem.Env → Sem Unit) (acc : Value) (em : CBT) : Prop := ∀ (pins : List (Addr × Obj)) (s : Shared) (σ : L2.St) (H : Hp) (N : Hp → Prop) (P : Shared → Prop) (E : Value → Shared → Prop), L2.Inv B pins σ H s → em σ H N → (∀ H' s', L2.Inv B pins σ H' s' → N H' → P s') → wpAny (model B.prog B.w) B.A (emit acc B.env) (fun _ s' => P s') E s
def StageRun (B : Cx) (e : Expr) (gens : List Comprehension) (emit : Value → PySem.Env → Sem Unit) (acc : Value) (d : Nat) (cl : List ClX1) (em : CBT) : Prop := ∀ (pins : List (Addr × Obj)) (s : Shared) (σ : L2.St) (H : Hp) (N : Hp → Prop) (P : Shared → Prop) (E : Value → Shared → Prop), L2.Inv B pins σ H s → tStage cl em σ H N →
  (∀ H' s', L2.Inv B pins (wipe σ (vsOf cl)) H' s' → N H' → P s') → StageC (model B.prog B.w) B.A e gens emit acc B.env d P E s
section
variable {B : Cx} {e tg iter : Expr} {ifs : List Expr} {gens : List Comprehension} {emit : Value → PySem.Env → Sem Unit} {acc : Value} {d : Nat} {g : TG} {tt : TT} {vs : List Nat} {cl : List ClX1} {em : CBT}
theorem wipe_get {σ : L2.St} : ∀ {vs : List Nat} {j : Nat}, (wipe σ vs)[j]? = if j ∈ vs then σ[j]?.map fun _ => none else σ[j]?
  | [], j => by simp [wipe]
  | v :: vs, j => by
    show ((wipe σ vs).set v none)[j]? = _
    by_cases h : v = j
    · subst h
      rw [if_pos (List.mem_cons_self ..)]
      by_cases hl : v < (wipe σ vs).length
      · rw [List.getElem?_set_self hl]
        rw [wipe_length] at hl
        rw [List.getElem?_eq_getElem hl]
        rfl
      · rw [List.getElem?_eq_none (by rw [List.length_set]; omega)]
        rw [wipe_length] at hl
        rw [List.getElem?_eq_none (by omega)]
        rfl
    · rw [List.getElem?_set_ne h, wipe_get]
      by_cases hm : j ∈ vs
      · rw [if_pos hm, if_pos (List.mem_cons_of_mem _ hm)]
      · rw [if_neg hm, if_neg (by simp [Ne.symm h, hm])]
theorem wipe_sub {σ : L2.St} {us vs : List Nat} (h : ∀ i ∈ us, i ∈ vs) : wipe (wipe σ us) vs = wipe σ vs := by
  refine List.ext_getElem? fun j => ?_
  rw [wipe_get, wipe_get, wipe_get]
  split
  · split
    · cases σ[j]? <;> rfl
    · rfl
  · split
    · exact absurd (h j ‹_›) ‹_›
    · rfl
theorem gen_loop (hcalm : B.calm = true) (hxe : B.xe = fun _ _ => False) (hC : IsComp e gens emit) (hg : gens[d]? = some ⟨tg, iter, ifs, 0⟩) (pg : PG B tg g) (pt : PTs B ifs tt) (nextS : StageRun B e gens emit acc (d + 1) cl em) (hsub : ∀ i ∈ vsOf cl, i ∈ vs)
    {pins : List (Addr × Obj)} {fp : List Addr} {it : Addr} {tn : Nat → Heap → Prop} {J : It} (T : Turn B.prog B.w B.K tg J fp it tn) (stat : ∀ H' : Hp, (∀ b ∈ fp, H' b = none) → ∀ b ∈ fp, FpOk B pins H' b)
    {N : Hp → Prop} {σ : L2.St} {H : Hp} {s : Shared} {R : Result → Shared → Prop} (I : L2.Inv B pins (wipe σ vs) H s) (st : tn 0 s.heap) (nfp : ∀ b ∈ fp, H b = none) (hw : genLoop J g tt vs (tStage cl em) σ H N)
    (fin : ∀ H' s', L2.Inv B pins (wipe σ vs) H' s' → (∀ b ∈ fp, H' b = none) → N H' → R (.ok .next) s') : codeAny (model B.prog B.w) B.A (.compLoop e d (.ref it) acc B.env) R s := by
  obtain ⟨W, ⟨m0, w0⟩, turn⟩ := hw
  refine comp_turns hC hg (fun it => by cases hC <;> rfl) (fun n s' => ∃ i H', L2.Inv B pins (wipe σ vs) H' s' ∧ tn i s'.heap ∧ (∀ b ∈ fp, H' b = none) ∧ W i n H') ?_ m0 ⟨0, H, I, st, nfp, w0⟩
  rintro n s5 ⟨i, H5, I5, st5, n5, w5⟩
  rcases turn i n H5 w5 with ⟨stop, qq⟩ | ⟨go, Nx, hNx, step⟩
  · refine thnF (T.done B rfl rfl rfl hcalm i pins s5 _ H5 (fun _ _ => False) I5 (stat H5 n5) st5 stop) fun r s6 ⟨hr, I6⟩ => ?_
    subst hr
    exact fin H5 s6 I6 n5 qq
  · refine thnF (T.item B rfl rfl rfl hcalm i pins s5 _ H5 (fun _ _ => False) I5 (stat H5 n5) st5 go) fun r s6 ⟨u, hr, h6⟩ => ?_
    subst hr
    refine thnF h6 fun _ s7 ⟨x, H7, I7, r7, y7, st7, n7⟩ => ?_
    have I7' := I7.pinned (stat H7 n7) (T.obj _ _ st7)
    have hpg := pg.run _ s7 _ H7 x u _ I7' r7 (step x H7 y7)
    rw [hxe] at hpg
    refine thnF hpg fun _ s8 ⟨σ8, H8, I8, hw8, q8⟩ => ?_
    have hpt := pt.run _ s8 σ8 H8 _ I8 q8
    rw [hxe] at hpt
    refine thnF hpt fun b s9 ⟨H9, I9, q9⟩ => ?_
    have len8 : (wipe σ vs).length = σ8.length := by rw [← hw8, wipe_length]
    -- the turn's end
    have back : ∀ {us : List Nat} {s' : Shared} {H' : Hp}, (∀ i ∈ us, i ∈ vs) → L2.Inv B (pins ++ pinsAt fp s7.heap) (wipe σ8 us) H' s' → Nx H' → ∃ m, m < n ∧ ∃ i H', L2.Inv B pins (wipe σ vs) H' s' ∧ tn i s'.heap ∧ (∀ b ∈ fp, H' b = none) ∧ W i m H' := fun {us s' H'} hus I' nx => by
      obtain ⟨m', hm, w'⟩ := hNx H' nx
      have held : ∀ b ∈ fp, ∀ o, s7.heap.get? b = some o → s'.heap.get? b = some o ∧ H' b = none := fun b hb o q =>
        let z := I'.pin (b, o) (List.mem_append_right _ (List.mem_append_right _ (mem_pinsAt hb q)))
        ⟨z.1, z.2.1⟩
      refine ⟨m', hm, i + 1, H', I'.unpinned.weak (by rw [len8, wipe_length]) (fun j v q => ?_), T.keep _ _ _ st7 fun b hb o q => (held b hb o q).1, fun b hb => ?_, w'⟩
      · have : wipe (wipe σ8 us) vs = wipe σ vs := by rw [wipe_sub hus, hw8]
        rw [← this] at q
        exact (wipe_some q).1
      · obtain ⟨o, q, _⟩ := T.obj _ _ st7 b hb
        exact (held b hb o q).2
    cases b with
    | false =>
      simp only [Bool.false_eq_true, if_false] at q9 ⊢
      exact back (us := []) (fun _ z => (by cases z)) I9 q9
    | true =>
      simp only [if_true] at q9 ⊢
      exact nextS _ s9 σ8 H9 Nx _ _ I9 q9 fun H' s' I' nx => back hsub I' nx
/-- the clauses behind the first one -/
inductive ClsRun (B : Cx) : List Comprehension → List ClX1 → Prop
  | nil : ClsRun B [] []
  | cons {tg iter : Expr} {ifs : List Expr} {wi : TI} {g : TG} {tt : TT} {vs : List Nat} {cs : List Comprehension} {r : List ClX1} (hi : PI B tg iter wi) (hg : PG B tg g) (ht : PTs B ifs tt) (hs : ∀ x, foldedSetIterable iter B.env x = pure x) (sub : ∀ i ∈ vsOf r, i ∈ vs) (hr : ClsRun B cs r) : ClsRun B (⟨tg, iter, ifs, 0⟩ :: cs) (⟨wi, g, tt, vs⟩ :: r)
theorem stage_run (hcalm : B.calm = true) (hxe : B.xe = fun _ _ => False) (hC : IsComp e gens emit) (he : EmOk B emit acc em) {cs : List Comprehension} {r : List ClX1} (h : ClsRun B cs r) : ∀ d, gens.drop d = cs → StageRun B e gens emit acc d r em := by
  induction h with
  | nil =>
    intro d hd pins s σ H N P E I q k
    have e0 : gens[d]? = none := by rw [List.getElem?_eq_none_iff]; exact List.drop_eq_nil_iff.mp hd
    unfold StageC
    rw [e0]
    exact he pins s σ H N P E I q k
  | @cons tg iter ifs wi g tt vs cs r hi hg ht hs sub hr ih =>
    intro d hd pins s σ H N P E I q k
    have e0 : gens[d]? = some ⟨tg, iter, ifs, 0⟩ := by
      have : (gens.drop d)[0]? = some ⟨tg, iter, ifs, 0⟩ := by rw [hd]; rfl
      rwa [List.getElem?_drop, Nat.add_zero] at this
    have e1 : gens.drop (d + 1) = cs := by
      have : (gens.drop d).drop 1 = cs := by rw [hd]; rfl
      rwa [List.drop_drop] at this
    unfold StageC
    rw [e0]
    refine ⟨rfl, hs, ?_⟩
    have hrun := hi.run pins s σ H _ I q
    rw [hxe] at hrun
    refine thnF hrun fun xv s1 hx => thnF hx fun itv s2 h2 => ?_
    obtain ⟨it, fp, tn, J, H2, ev, I2, T, st2, f2, hw⟩ := h2
    subst ev
    have Iw : L2.Inv B pins (wipe σ vs) H2 s2 := I2.weak (wipe_length _ _) (fun j v e => (wipe_some e).1)
    have loop := gen_loop (R := fun r s' => match r with
      | .ok _ => P s'
      | .error _ => False) hcalm hxe hC e0 hg ht (ih (d + 1) e1) sub T (fun H' hn b hb => ⟨hn b hb, (f2 b hb).2⟩) Iw st2 (fun b hb => (f2 b hb).1) hw fun H' s' I' _ n' => k H' s' I' n'
    exact compStart_at hC e0 loop (T.self B.A 0 _ _ _ st2 loop)
end
/-! ### the whole -/
section
variable {X : Cx} {e tg iter : Expr} {ifs : List Expr} {cs : List Comprehension} {emit : Value → PySem.Env → Sem Unit} {g : TG} {tt : TT} {wi : TI} {r : List ClX1} {em : Addr → CBT} {scope : Scope} {own : List (Str × Nat)} {pos : Pos} {newAcc : Sem Value} {ho : Addr → HO} {ob : Obj}
abbrev AllBlk (X : Cx) (scope : Scope) (p : Cx → Prop) : Prop := ∀ (s : Shared) (H : Hp) (C : Addr) (cl : List (Str × Addr)) (fp : List Addr), p (X.blk s H scope (compEnvC scope cl C X.env) fp)
def tGen (ho : Addr → HO) (wi : TI) (g : TG) (tt : TT) (vs : List Nat) (r : List ClX1) (em : Addr → CBT) : TE := fun σ H Q => wi σ H fun J H1 => ∀ D, H1 D = none → genLoop J g tt vs (tStage r (em D)) σ (upd H1 D (ho D)) fun H' => Q (.ref D) H'
theorem gen_core {pins : List (Addr × Obj)} {s : Shared} {σ : L2.St} {H : Hp} {Q : VK} {use : Option (Value → Sem Unit)} {Qf : Value → Shared → Prop} (hc : X.calm = true) (hN : X.N.Nodup) (hC : IsComp e (⟨tg, iter, ifs, 0⟩ :: cs) emit) (I : L2.Inv X pins σ H s)
    (hnew : ∀ {s : Shared} {Q : Value → Shared → Prop} {E : Value → Shared → Prop}, Q (.ref s.heap.objs.size) { s with heap := s.heap.push ob } → wpAny (model X.prog X.w) X.A newAcc Q E s)
    (hob : ∀ {pins : List (Addr × Obj)} {σ : L2.St} {H : Hp} {s : Shared}, L2.Inv X pins σ H s → ObjOk X.prog X.w (upd H s.heap.objs.size (ho s.heap.objs.size)) (s.heap.push ob) s.heap.objs.size (ho s.heap.objs.size))
    (hi : PI X tg iter wi) (ok : BlkOk X.N X.env.scope scope own) (hg : AllBlk X scope fun B => PG B tg g) (ht : AllBlk X scope fun B => PTs B ifs tt) (hr : AllBlk X scope fun B => ClsRun B cs r) (hsub : ∀ i ∈ vsOf r, i ∈ own.map (·.2)) (he : ∀ D, AllBlk X scope fun B => EmOk B emit (.ref D) (em D))
    (hs : ∀ x, foldedSetIterable iter X.env x = pure x) (h : tGen ho wi g tt (own.map (·.2)) r em σ H Q)
    (hRR : ∀ D C s' m H', L2.Inv X pins σ H' s' → Q (.ref D) H' → s'.heap.Ns C m → FpOk X pins H' C → compPost (model X.prog X.w) X.A X.xe use Qf (.ref D) C (.ok .next) s') :
    wpAny (model X.prog X.w) X.A (comprehension e scope X.env pos newAcc false (eval iter X.env) use) Qf X.xe s := by
  have free : ∀ y ∈ scope.names, y.2 = .free → ∃ c, X.env.cells.lookup y.1 = some c := fun y hy q => I.ok.has _ (ok.free y hy q)
  refine wpAny_comprehension_free (use := use) (clauses_at hC) hs (closure_ok free) ok.kind (fun y hy q => by rw [ok.uniq y hy, q]) (thn (hi.run pins s σ H _ I h) fun xv s1 hx => thn hx fun itv s2 h2 => ?_)
  obtain ⟨it, fp, tn, J, H2, ev, I2, T, st2, f2, q⟩ := h2
  subst ev
  refine hnew (newEnv_comp ?_)
  have ob2 := hob I2
  generalize hD : s2.heap.objs.size = D at ob2 ⊢
  have gl := q D (I2.hok.fresh (Nat.le_of_eq hD))
  generalize hs3 : ({ s2 with heap := s2.heap.push ob } : Shared) = s3
  have h3 : s3.heap = s2.heap.push ob := by rw [← hs3]
  have I3 : L2.Inv X pins σ (upd H2 D (ho D)) s3 := by
    rw [← hs3]
    exact I2.laid (t' := s2.toks) (fun b o e => Heap.get?_push_of_some _ e) (Nat.le_of_eq hD) ob2
  have lt : ∀ b ∈ fp, b < s2.heap.objs.size := fun b hb => by
    obtain ⟨o, e, _⟩ := T.obj _ _ st2 b hb
    exact Heap.lt_size e
  generalize hH3 : upd H2 D (ho D) = H3 at I3 gl
  have f3 : ∀ b ∈ fp, FpOk X pins H3 b ∧ b < s3.heap.objs.size := fun b hb => by
    have hlt := lt b hb
    refine ⟨⟨?_, (f2 b hb).2⟩, by rw [h3, Heap.size_push]; exact Nat.lt_succ_of_lt hlt⟩
    rw [← hH3, upd_ne (by rw [← hD]; exact Nat.ne_of_lt hlt)]
    exact (f2 b hb).1
  have I4 := block_start I3 ok hN f3
  generalize hcl : cellsFrom (s3.heap.objs.size + 1) scope.names (cloFrom X.env.cells scope.names []) = cl at I4
  have pg := hg s3 H3 s3.heap.objs.size cl fp
  have pt := ht s3 H3 s3.heap.objs.size cl fp
  have pr := hr s3 H3 s3.heap.objs.size cl fp
  have pe := he D s3 H3 s3.heap.objs.size cl fp
  show codeAny _ _ (.compStart e 0 (.ref it) (.ref D) (compEnvC scope cl s3.heap.objs.size X.env)) (compPost (model X.prog X.w) X.A X.xe use Qf (.ref D) s3.heap.objs.size) { s3 with heap := pushCells (s3.heap.push { cls := .type "dict", data := .dict #[] }) scope.names }
  generalize hce : compEnvC scope cl s3.heap.objs.size X.env = ce at I4 pg pt pr pe ⊢
  have cL : ce.locals = s3.heap.objs.size := by subst hce; rfl
  generalize hs4 : ({ s3 with heap := pushCells (s3.heap.push { cls := .type "dict", data := .dict #[] }) scope.names } : Shared) = s4 at I4 ⊢
  have st4 : tn 0 s4.heap := T.keep _ _ _ st2 fun b _ o e => by rw [← hs4]; exact pushCells_keeps _ _ _ _ (Heap.get?_push_of_some _ (by rw [h3]; exact Heap.get?_push_of_some _ e))
  have stat : ∀ H' : Hp, (∀ b ∈ fp, H' b = none) → ∀ b ∈ fp, FpOk (X.blk s3 H3 scope ce fp) [] H' b := fun H' hn b hb =>
    ⟨hn b hb, (I4.ok.exf b hb).1, I4.ok.exfs b hb, .inl hb, fun x c e => (I4.ok.exf b hb).2 x c e, fun p hp => absurd (show p ∈ ([] : List (Addr × Obj)) ++ [] from hp) (by simp)⟩
  have loop : codeAny (model X.prog X.w) X.A (.compLoop e 0 (.ref it) (.ref D) ce) (compPost (model X.prog X.w) X.A X.xe use Qf (.ref D) s3.heap.objs.size) s4 := by
    refine gen_loop (B := X.blk s3 H3 scope ce fp) hc rfl hC rfl pg pt (stage_run (B := X.blk s3 H3 scope ce fp) hc rfl hC pe pr 1 rfl) hsub T stat I4 st4 (fun b hb => (f3 b hb).1.1) gl fun H5 s6 I6 n5 qq => ?_
    have I7 : L2.Inv X pins σ H5 s6 := I3.call' (ch := fp) I6.os I6.base I6.hok I6.bare fun b hb => ⟨(f3 b hb).1.2.2.2.1, (f3 b hb).1.2.1, (f3 b hb).1.2.2.2.2.1, (f3 b hb).1.2.2.2.2.2⟩
    have nC : H5 s3.heap.objs.size = none := by
      have z : H5 ce.locals = none := I6.free
      rwa [cL] at z
    obtain ⟨m, hn, _⟩ := I6.loc
    have hn : s6.heap.Ns ce.locals m := hn
    rw [cL] at hn
    exact hRR D s3.heap.objs.size s6 m H5 I7 qq hn (I3.fpOk (Nat.le_refl _) nC)
  exact compStart_at hC rfl loop (T.self X.A 0 _ _ _ st4 loop)
/-- what is made at the start -/
structure Fresh0 (X : Cx) (newAcc : Sem Value) (ob : Obj) (ho : Addr → HO) : Prop where
  new : ∀ {s : Shared} {Q : Value → Shared → Prop} {E : Value → Shared → Prop}, Q (.ref s.heap.objs.size) { s with heap := s.heap.push ob } → wpAny (model X.prog X.w) X.A newAcc Q E s
  ok : ∀ {pins : List (Addr × Obj)} {σ : L2.St} {H : Hp} {s : Shared}, L2.Inv X pins σ H s → ObjOk X.prog X.w (upd H s.heap.objs.size (ho s.heap.objs.size)) (s.heap.push ob) s.heap.objs.size (ho s.heap.objs.size)
/-- as a value -/
theorem pe_gen (F : Fresh0 X newAcc ob ho) (hc : X.calm = true) (hN : X.N.Nodup) (hC : IsComp e (⟨tg, iter, ifs, 0⟩ :: cs) emit) (hev : eval e X.env = comprehension e scope X.env pos newAcc false (eval iter X.env)) (hi : PI X tg iter wi) (ok : BlkOk X.N X.env.scope scope own)
    (hg : AllBlk X scope fun B => PG B tg g) (ht : AllBlk X scope fun B => PTs B ifs tt) (hr : AllBlk X scope fun B => ClsRun B cs r) (hsub : ∀ i ∈ vsOf r, i ∈ own.map (·.2)) (he : ∀ D, AllBlk X scope fun B => EmOk B emit (.ref D) (em D)) (hs : ∀ x, foldedSetIterable iter X.env x = pure x) :
    PE X e (tGen ho wi g tt (own.map (·.2)) r em) := by
  refine ⟨fun pins s σ H Q I h => ?_⟩
  rw [hev]
  refine gen_core hc hN hC I F.new F.ok hi ok hg ht hr hsub he hs h fun D C s' m H' I' q hn f => ⟨m, hn, fun h'' sb => ?_⟩
  obtain ⟨f0, f1, f2, f3, f4, f5⟩ := f
  exact ⟨.ref D, H', I'.turned (t' := s'.toks) (fun b o hb e => (sb.2 b hb).trans e) f0 f1 f3 f4 f5, rfl, q⟩
end
end Nc

namespace Nc
open PySem PySem.Spec PyProof.Rows L2
/-! ## sets of ints or of tuples, growing; comprehensions of lists, sets, dicts with any number of fors -/
def SetEO (w : World) (a : Addr) : HO := .ext fun h => h.get? a = some (set0 w)
def SetNO (w : World) (a : Addr) (l : List (NK × Addr)) : HO := .ext fun h => ∃ L o es ep t, SetN w h a L o es ep t ∧ L.Perm l
def insN (l : List (NK × Addr)) (κ : NK) (b : Addr) : List (NK × Addr) := if κ ∈ l.map (·.1) then l else l ++ [(κ, b)]
theorem setE_new {P : Program} {w : World} {H : Hp} {h : Heap} {a : Addr} (e : h.get? a = some (set0 w)) : ObjOk P w H h a (SetEO w a) := ⟨e, ⟨_, e⟩, fun h1 h2 p k => k _ p⟩
theorem setN_new {P : Program} {w : World} {H : Hp} {h : Heap} {a : Addr} {l L : List (NK × Addr)} {o : Obj} {es : Array (Int × Value)} {ep : Nat} {t : SetTable} (R : SetN w h a L o es ep t) (p : L.Perm l) : ObjOk P w H h a (SetNO w a l) :=
  ⟨⟨L, o, es, ep, t, R, p⟩, ⟨o, R.ob⟩, fun h1 h2 ⟨L, o, es, ep, t, R, p⟩ k => ⟨L, o, es, ep, t, ⟨k _ R.ob, R.xs, R.dt, R.row, R.tab, R.nd, R.led, R.room, R.few⟩, p⟩⟩
theorem setN_fresh {w : World} {h : Heap} {a : Addr} (e : h.get? a = some (set0 w)) : SetN w h a [] (set0 w) #[] 0 (.fresh 0 0 (!w.params.followText "set-order")) where
  ob := e
  xs := ⟨rfl, rfl, rfl⟩
  dt := rfl
  row := rfl
  tab := ⟨List.Pairwise.nil, rfl, rfl, .inl rfl, fun x hx => (by cases hx), fun i h j hi => (by simp [hashN] at hi)⟩
  nd := List.nodup_nil
  led := by
    show _ ∨ (!w.params.followText "set-order") = true
    cases w.params.followText "set-order"
    · exact .inr rfl
    · exact .inl rfl
  room := by show 0 * 5 < 7 * 3; decide
  few := by show 0 < 64; decide
/-- the set of ints at D holds l -/
def IntSet (P : Program) (w : World) (H : Hp) (D : Addr) (l : List Int) : Prop := H D = some (SetXO (intKind P w) D l) ∨ (H D = some (SetEO w D) ∧ l = [])
/-- the set of tuples at D holds l -/
def TupSet (w : World) (H : Hp) (D : Addr) (l : List (NK × Addr)) : Prop := H D = some (SetNO w D l) ∨ (H D = some (SetEO w D) ∧ l = [])
/-- the heap behind D.add(y) -/
def SAdd (P : Program) (w : World) (K : PySem.W.Frag) (H : Hp) (D : Addr) (y : V) (H' : Hp) : Prop :=
  (∃ l k, IntSet P w H D l ∧ y = .int k ∧ l.length + 1 < scanBound ∧ H' = upd H D (SetXO (intKind P w) D (insK l k))) ∨
    (∃ l κ b, TupSet w H D l ∧ y = .ref b ∧ KT8 K H κ b ∧ (∀ p ∈ l, KT8 K H p.1 p.2) ∧ l.length + 1 < 64 ∧ H' = upd H D (SetNO w D (insN l κ b)))
section
variable {X : Cx} {pins : List (Addr × Obj)} {σ : L2.St} {H H' : Hp} {s : Shared} {D : Addr} {A : Around} {E : Value → Shared → Prop}
theorem IntSet.at (I : L2.Inv X pins σ H s) {l : List Int} (h : IntSet X.prog X.w H D l) : SetX (intKind X.prog X.w) s.heap D l := by
  rcases h with h | ⟨h, rfl⟩
  · exact (I.hok D _ h).1
  · exact setX_fresh (I.hok D _ h).1
theorem TupSet.at (I : L2.Inv X pins σ H s) {l : List (NK × Addr)} (h : TupSet X.w H D l) : ∃ L o es ep t, SetN X.w s.heap D L o es ep t ∧ L.Perm l := by
  rcases h with h | ⟨h, rfl⟩
  · exact (I.hok D _ h).1
  · exact ⟨_, _, _, _, _, setN_fresh (I.hok D _ h).1, .refl _⟩
theorem IntSet.mut {l : List Int} {P : Program} {w : World} (h : IntSet P w H D l) : Mut (H D) := by
  rcases h with h | ⟨h, _⟩ <;> (rw [h]; trivial)
theorem TupSet.mut {l : List (NK × Addr)} {w : World} (h : TupSet w H D l) : Mut (H D) := by
  rcases h with h | ⟨h, _⟩ <;> (rw [h]; trivial)
theorem call_add {o : Obj} {key : Value} {Q : Value → Shared → Prop} (ho : s.heap.get? D = some o) (hx : o.ExactSet) (h : ∀ A', A'.units = A.in1.units → wpAny (model X.prog X.w) A' (setAdd D key) (fun _ s' => Q .none s') E s) :
    wpAny (model X.prog X.w) A (call (.builtin "set.add") [.ref D, key]) Q E s := by
  have hT : s.TypeIs (.ref D) "set" := ⟨o, ho, hx.1⟩
  refine wpAny_call_entry F.slot_set_add hT F.entry_set_add ?_ (F.args_set_add_2 _ _)
  unfold Builtin.«set.add» Builtin.Frozenset.oneOther
  simp only [List.isEmpty_nil, bind_assoc]
  unfold Builtin.Frozenset.addrOf
  refine wpAny_bind (wpAny_pure ?_)
  try dsimp only
  refine wpAny_bind (wpAny_pure ?_)
  try dsimp only
  refine wpAny_bind (wpAny_mono (h _ rfl) (fun _ s' q => ?_) fun _ _ z => z)
  show wpAny _ _ (ret Value.none) _ _ _
  exact wpAny_pure ⟨_, rfl, q⟩
/-- D.add(y) -/
theorem x_setAdd {y : V} {u : Value} {Q : Value → Shared → Prop} (hu : A.units + 64 < cLine) (I : L2.Inv X pins σ H s) (g : SAdd X.prog X.w X.K H D y H') (ry : RelV y u) (k : ∀ s', L2.Inv X pins σ H' s' → Q .none s') :
    wpAny (model X.prog X.w) A (call (.builtin "set.add") [.ref D, u]) Q E s := by
  rcases g with ⟨l, i, hs, rfl, room, rfl⟩ | ⟨l, κ, b, hs, rfl, hb, hl, room, rfl⟩
  · have R := hs.at I
    obtain ⟨t, rfl⟩ := ry
    obtain ⟨_, o, _, _, _, _, ho, hx, _⟩ := id R
    refine call_add ho hx fun A' hA => ?_
    have ki : (intKind X.prog X.w).is i (.int i t) = true := by simp [intKind, Value.isInt]
    unfold setAdd
    refine wpAny_holding (wpAny_bind ((intKind X.prog X.w).pyHash ki ?_))
    refine setX_add (s := { s with toks := s.toks + 1 }) seen_int R ki room fun h' sb R' => k _ ?_
    have ⟨_, o', _, _, _, _, ho', _⟩ := R'
    exact d_write (I.tok _) hs.mut sb ⟨o', ho'⟩ (setXO_new R')
  · obtain ⟨L, o, es, ep, t, R, pm⟩ := hs.at I
    cases (show u = Value.ref b from ry)
    refine call_add R.ob R.xs fun A' hA => ?_
    have rm : (nestedKind X.prog X.w).room A' := by
      show A'.units + 8 < cLine
      rw [hA]
      have : A.in1.units ≤ A.units + 1 := by first | exact Nat.le_refl _ | (simp [Around.in1]) 
      omega
    have hx := hb.at I
    have hL : ∀ p ∈ L, IsN X.prog X.w s.heap p.1 p.2 := fun p hp => (hl p (pm.mem_iff.mp hp)).at I
    unfold setAdd
    refine wpAny_holding (wpAny_bind ((nestedKind X.prog X.w).pyHash rm hx ?_))
    refine sn_add (s := { s with toks := s.toks + (nestedKind X.prog X.w).draws κ }) R hL hx rm (by rw [pm.length_eq]; exact room) fun c h' L' o' es' ep' t' sb R' c1 c2 => k _ ?_
    have pm' : L'.Perm (insN l κ b) := by
      unfold insN
      by_cases hm : κ ∈ L.map (·.1)
      · rw [if_pos ((pm.map (·.1)).mem_iff.mp hm), c1 hm]
        exact pm
      · rw [if_neg fun z => hm ((pm.map (·.1)).mem_iff.mpr z)]
        exact (c2 hm).trans ((pm.cons _).trans (List.perm_append_singleton _ _).symm)
    exact d_write (I.tok _) hs.mut sb ⟨o', R'.ob⟩ (setN_new R' pm')
end
/-! ### elements taken in -/
section
variable {B : Cx} {elt : Expr} {te : TE} {D : Addr}
def emSet (P : Program) (w : World) (K : PySem.W.Frag) (te : TE) (D : Addr) : CBT := fun σ H N => te σ H fun y H1 => ∃ H2, SAdd P w K H1 D y H2 ∧ N H2
theorem em_set (hu : B.A.units + 64 < cLine) (hxe : B.xe = fun _ _ => False) (he : PE B elt te) : EmOk B (fun acc env => do let v ← eval elt env; standAt elt.pos; let _ ← call (.builtin "set.add") [acc, v]) (.ref D) (emSet B.prog B.w B.K te D) := fun pins s σ H N P E I q k => by
  have h := he.run pins s σ H _ I q
  rw [hxe] at h
  refine wpAny_bind (thnF h fun v s1 ⟨y, H1, J, r, H2, g, n⟩ => wpAny_bind (wpAny_standAt (wpAny_bind ?_)))
  exact x_setAdd hu J g r fun s2 J2 => wpAny_pure (k _ s2 J2 n)
end
/-! ### the kinds -/
section
variable {X : Cx} {tg iter elt kx vx : Expr} {ifs : List Expr} {cs : List Comprehension} {g : TG} {tt : TT} {wi : TI} {r : List ClX1} {scope : Scope} {own : List (Str × Nat)} {pos : Pos} {te tk tv : TE} {ls : Clos}
theorem fresh_set : Fresh0 X (newSet (.type "set")) (set0 X.w) (SetEO X.w) where
  new := fun q => PpSet.newSet_ok q
  ok := fun I => setE_new (Heap.get?_push_size _ rfl)
theorem pe_scG (hu : X.A.units + 64 < cLine) (hc : X.calm = true) (hN : X.N.Nodup) (hi : PI X tg iter wi) (ok : BlkOk X.N X.env.scope scope own) (hg : AllBlk X scope fun B => PG B tg g) (ht : AllBlk X scope fun B => PTs B ifs tt) (hr : AllBlk X scope fun B => ClsRun B cs r) (hsub : ∀ i ∈ vsOf r, i ∈ own.map (·.2)) (he : AllBlk X scope fun B => PE B elt te)
    (hs : ∀ x, foldedSetIterable iter X.env x = pure x := by intro _; rfl) : PE X (.SetComp elt (⟨tg, iter, ifs, 0⟩ :: cs) scope pos) (tGen (SetEO X.w) wi g tt (own.map (·.2)) r (emSet X.prog X.w X.K te)) :=
  pe_gen fresh_set hc hN (.set _ _ _ _) (by rfl) hi ok hg ht hr hsub (fun D s H C cl fp => em_set (B := X.blk s H scope (compEnvC scope cl C X.env) fp) hu rfl (he s H C cl fp)) hs
variable {i : Nat} {y : Str} {py spos : Pos}
end
/-! ### len, sorted, of sets -/
section
variable {X : Cx}
theorem ints_keyed {P : Program} {w : World} {es : List (Int × Value)} {ks : List Int} (h : Keyed (intKind P w) es ks) : Paired (fun v k => (intKind P w).is k v = true) (es.map (·.2)) ks := by
  induction h with
  | nil => exact .nil
  | cons r _ ih => exact .cons r.1 ih
theorem ints_are {P : Program} {w : World} {vs : List Value} {ks : List Int} (h : Paired (fun v k => (intKind P w).is k v = true) vs ks) : IntsAre vs ks := by
  induction h with
  | nil => exact .nil
  | cons r _ ih =>
    obtain ⟨t, rfl⟩ := Value.isInt_shape r
    exact .cons _ t ih
theorem sorted_setI {P : Program} {w : World} {A : Around} {E : Value → Shared → Prop} {s : Shared} {a : Addr} {l : List Int} {Q : Value → Shared → Prop} (R : SetX (intKind P w) s.heap a l) (calm : A.handled = none) (few : l.length < 64)
    (q : ∀ (s' : Shared) (p : Addr) (out : Array Value) (c : Nat) (ys : List Int), (∀ b o, s.heap.get? b = some o → s'.heap.get? b = some o) → s'.gens = s.gens → s'.os = s.os → s.heap.objs.size ≤ p →
      s'.heap.get? p = some (seqObj "list" out c) → IntsAre out.toList ys → ys.Perm l → ys.Pairwise (· ≤ ·) → Q (.ref p) s') :
    wpAny (model P w) A (call (.builtin "sorted") [.ref a]) Q E s := by
  obtain ⟨nd, o, es, ep, t, ks, ho, hx, hd, ky, pk, hb, hf, hr, hl⟩ := R
  refine Calls.call_function_entry kind_sorted plain_sorted entry_sorted (args_sorted1 _) ?_
  unfold Builtin.«sorted»
  refine wpAny_bind (m := checkCount "sorted" 1 1 _) (wpAny_pure ?_)
  refine wpAny_bind (collect_set (A := A.in1) calm ⟨o, ho, hx.1, hd⟩ hf hb hr hl fun s1 vs k1 le g1 o1 pm => ?_)
  obtain ⟨zs, pz, hz⟩ := paired_perm pm (ints_keyed ky)
  have vz : IntsAre vs zs := ints_are hz
  have plz : zs.Perm l := pz.trans pk
  have few2 : vs.length < 64 := by rw [vz.length, plz.length_eq]; exact few
  refine wpAny_bind (wpAny_newList ?_ (by rw [sizeLine_eq]; omega))
  have hoL : (s1.heap.push (seqObj "list" vs.toArray 0)).get? s1.heap.objs.size = some (seqObj "list" vs.toArray 0) := Heap.get?_push_size _ rfl
  refine wpAny_bind (wpAny_holding (wpAny_call_entry slot_list_sort ⟨_, hoL, rfl⟩ entry_list_sort (list_sort_tree hoL vz few2 fun out ys a1 a2 a3 => ⟨_, rfl, ?_⟩) (args_list_sort _)))
  obtain ⟨c, hc⟩ := sortedHeap_at (vs := vs) (out := out) hoL
  refine wpAny_pure ⟨_, rfl, q _ s1.heap.objs.size out c ys (fun b u e => ?_) g1 o1 le hc a1 (a2.trans plz) a3⟩
  have e1 := k1 b u e
  have lt := Heap.lt_size e1
  show (sortedHeap (s1.heap.push (seqObj "list" vs.toArray 0)) s1.heap.objs.size vs out).get? b = some u
  rw [sortedHeap_old (Nat.ne_of_lt lt) (by rw [size_push']; exact Nat.lt_succ_of_lt lt)]
  exact Heap.get?_push_of_some _ e1
def rSortIS (P : Program) (w : World) : List V → Hp → VK → Prop := fun xs H Q => ∃ (a : Addr) (l : List Int), xs = [.ref a] ∧ IntSet P w H a l ∧ l.length < 64 ∧
  ∀ (ys : List Int) (p : Addr), ys.Perm l → ys.Pairwise (· ≤ ·) → H p = none → Q (.ref p) (upd H p (.lst (ys.map V.int)))
theorem cr_sortIS (hc : X.calm = true) : CallR X (.builtin "sorted") (rSortIS X.prog X.w) := by
  intro pins s σ H vs us Q I r h
  obtain ⟨a, l, rfl, ha, few, q⟩ := h
  rw [Vals.ref1 r]
  refine sorted_setI (ha.at I) (I.ok.hd hc) few fun s' p out c ys k g o hp hg hi pm so => ?_
  have hlen : (ys.map V.int).length ≤ sizeLine := by rw [List.length_map, pm.length_eq, sizeLine_eq]; omega
  have hn : H p = none := I.hok.fresh hp
  have J : L2.Inv X pins σ (upd H p (.lst (ys.map V.int))) { s with heap := s'.heap, gens := s'.gens, drawn := s'.drawn, toks := s'.toks } :=
    I.call (ch := []) (Un.laid k hp hn) (I.hok.laid k hp ⟨hlen, out.toList, c, vals_ints hi, hg⟩) (by rw [g]; exact I.bare) (fun _ z => nomatch z)
  have e : s' = { s with heap := s'.heap, gens := s'.gens, drawn := s'.drawn, toks := s'.toks } := by
    cases s'
    cases s
    cases o
    rfl
  rw [e]
  exact ⟨.ref p, _, J, rfl, q ys p pm so hn⟩
end
end Nc

namespace Nc
open PySem PySem.Spec PyProof.Rows L2
/-! ## set(xs), a tuple; sets of ints or texts, of lists or tuples; len, sorted of any of them -/
section
variable {P : Program} {w : World} {κ : Type} [DecidableEq κ] {knd : KeyKind P w κ} {A : Around} {E : Value → Shared → Prop} {s : Shared} {a : Addr}
set_option maxHeartbeats 3200000 in
/-- set(xs) -/
theorem setX_tup (sn : Seen knd) {l : Addr} {xs : Array Value} {Q : Value → Shared → Prop} (calm : A.handled = none) (hl : s.heap.IsTuple l xs) (key : Nat → κ) (hkey : ∀ i v, xs[i]? = some v → knd.is (key i) v = true) (hb : xs.size + 1 < scanBound)
    (q : ∀ (h' : Heap) (tk : Nat), SetX knd h' s.heap.objs.size (gatherK key xs.size) → (∀ b o, s.heap.get? b = some o → h'.get? b = some o) → Q (.ref s.heap.objs.size) { s with heap := h', toks := tk }) :
    wpAny (model P w) A (call (.type "set") [.ref l]) Q E s := by
  obtain ⟨c, tl, hmro⟩ := F.called_set.mro
  have hmade := F.called_set.made
  have hsub := F.called_set.sub
  have lt : l < s.heap.objs.size := let ⟨_, e, _⟩ := hl; Heap.lt_size e
  refine wpAny_call (codeAny_of_tree ?_)
  show wpAny _ _ (callAny (.type "set") _) _ _ _
  refine wpAny_pure ⟨Code.quiet_builtin _ (by decide +kernel), codeAny_builtin F.entry_type_call ?_⟩
  rw [Around.under_plain (weight_type_call_type "set" [.ref l] []) rfl]
  have h1 := F.called_set.notType
  have h2 := F.called_set.canCreate
  have hct := F.typeCall_set_1 (.ref l)
  repeat (any_goals (first | assumption | wp_step))
  refine codeAny_mono (set_new1 (.ref l) (E := E) (Q := fun obj s₁ => obj = .ref s.heap.objs.size ∧ s₁ = { s with heap := s.heap.push (set0 w) }) ⟨rfl, rfl⟩) fun r s₁ hr => ?_
  cases r with
  | error e => exact hr
  | ok fl =>
    cases fl with
    | ret obj =>
      obtain ⟨rfl, rfl⟩ := hr
      have gS : (s.heap.push (set0 w)).get? s.heap.objs.size = some (set0 w) := Heap.get?_push_size _ rfl
      have hT : Shared.TypeIs { s with heap := s.heap.push (set0 w) } (.ref s.heap.objs.size) "set" := ⟨_, gS, rfl⟩
      have hli := F.called_set.init.lookup
      have hbi := F.called_set.init.bind (.ref s.heap.objs.size)
      repeat (any_goals (first | assumption | wp_step))
      refine codeAny_mono (codeAny_call_builtin (R := wants (fun r s₂ => r = .none ∧ ∃ h' tk, s₂ = { s with heap := h', toks := tk } ∧ SetX knd h' s.heap.objs.size (gatherK key xs.size) ∧ (∀ b o, s.heap.get? b = some o → h'.get? b = some o)) E)
        F.called_set.init.plain F.entry_set_init (check_set_init_1 hT ?_)) fun r₂ s₂ hr₂ => ?_
      · obtain ⟨ol, hol, hcl, nl, hdl⟩ := hl
        obtain ⟨ocls, odict, odata, oslots⟩ := ol
        simp only at hcl hdl
        subst hcl; subst hdl
        have hol' : (s.heap.push (set0 w)).get? l = some { cls := .type "tuple", dict := odict, data := .seq xs nl, slots := oslots } := Heap.get?_push_of_some _ hol
        have hsls := F.sub_tuple_set
        have hslf := F.sub_tuple_frozenset
        have hne : (Value.type "tuple" == Value.type "dict") = false := by decide
        have hl1 : (s.heap.push (set0 w)).IsTuple l xs := ⟨_, hol', rfl, nl, rfl⟩
        unfold Builtin.«set.__init__» noKeywords Builtin.Frozenset.updateFrom
        generalize hPI : pyIter = PI
        wp_walk
        subst hPI
        refine wpAny_pyIter_tuple hl1 (wpAny_bind (wpAny_runValue ?_))
        have calm3 : A.in1.in1.in1.handled = none := by simp [calm]
        have sz : (s.heap.push (set0 w)).objs.size = s.heap.objs.size + 1 := Heap.size_push ..
        have nI : l ≠ (s.heap.push (set0 w)).objs.size := by rw [sz]; exact Nat.ne_of_lt (Nat.lt_succ_of_lt lt)
        have nS : s.heap.objs.size ∉ [(s.heap.push (set0 w)).objs.size, l] := by
          simp only [List.mem_cons, List.not_mem_nil, or_false, not_or]
          rw [sz]
          exact ⟨Nat.ne_of_lt (Nat.lt_succ_self _), Nat.ne_of_gt lt⟩
        refine setX_loop sn ((Walks.tuple calm3 _ l nI xs).toS) nS key hkey hb (xs.size - 0) 0 _ (by omega) (Nat.zero_le _) ⟨⟨_, Heap.get?_push_size _ rfl, rfl, rfl⟩, (hl1.push _)⟩ (setX_fresh (Heap.get?_push_of_some _ gS)) fun s' mv X => ?_
        obtain ⟨h', g', d', tk', os'⟩ := s'
        obtain rfl : g' = s.gens := mv.gens
        obtain rfl : d' = s.drawn := mv.drawn
        obtain rfl : os' = s.os := mv.os
        show wpAny _ _ _ _ _ _
        refine wpAny_pure ?_
        show wpAny _ _ (ret Value.none) _ _ _
        refine wpAny_pure ⟨rfl, h', tk', rfl, X, fun b o e => mv.heap b o ?_ (Heap.get?_push_of_some _ (Heap.get?_push_of_some _ e))⟩
        have lb := Heap.lt_size e
        simp only [List.mem_cons, List.not_mem_nil, or_false, not_or]
        rw [sz]
        exact ⟨Nat.ne_of_lt lb, Nat.ne_of_lt (Nat.lt_succ_of_lt lb)⟩
      · cases r₂ with
        | error e => exact hr₂
        | ok fl₂ =>
          cases fl₂ with
          | ret r =>
            obtain ⟨rfl, h', tk, rfl, X, hk'⟩ := hr₂
            repeat (any_goals (first | assumption | wp_step))
            exact q _ _ X hk'
          | _ => exact hr₂.elim
    | _ => exact hr.elim
end
section
variable {X : Cx}
/-- set(xs), a list or a tuple of ints or of texts -/
def rSetA (K : PySem.W.Frag) (P : Program) (w : World) : List V → Hp → VK → Prop := fun xs H Q => ∃ p : Addr, xs = [.ref p] ∧
  ((∃ zs : List Int, (SqL K H p (zs.map V.int) ∨ SqT K H p (zs.map V.int)) ∧ zs.length + 1 < scanBound ∧ ∀ q, H q = none → Q (.ref q) (upd H q (SetXO (intKind P w) q (foldK zs)))) ∨
    ∃ zs : List Str, (SqL K H p (zs.map V.str) ∨ SqT K H p (zs.map V.str)) ∧ zs.length + 1 < scanBound ∧ ∀ q, H q = none → Q (.ref q) (upd H q (SetXO (strKind P w) q (foldK zs))))
theorem keyI {P : Program} {w : World} {zs : List Int} {its : List Value} (rv : Vals (zs.map V.int) its) : its.length = zs.length ∧ ∀ i v, its.toArray[i]? = some v → (intKind P w).is (zs.getD i default) v = true := by
  have hlen : its.length = zs.length := by have := rv.length; rw [List.length_map] at this; exact this.symm
  refine ⟨hlen, fun i v hv => ?_⟩
  have hv2 : its[i]? = some v := by simpa using hv
  have hi : i < zs.length := by rw [← hlen]; exact (List.getElem?_eq_some_iff.mp hv2).1
  obtain ⟨u, hu, t, ru⟩ := rv.get (i := i) (x := .int zs[i]) (by simp [hi])
  rw [hv2] at hu
  cases hu
  rw [List.getD_eq_getElem?_getD, List.getElem?_eq_getElem hi, ru]
  simp [intKind, Value.isInt]
theorem keyS {P : Program} {w : World} {zs : List Str} {its : List Value} (rv : Vals (zs.map V.str) its) : its.length = zs.length ∧ ∀ i v, its.toArray[i]? = some v → (strKind P w).is (zs.getD i default) v = true := by
  have hlen : its.length = zs.length := by have := rv.length; rw [List.length_map] at this; exact this.symm
  refine ⟨hlen, fun i v hv => ?_⟩
  have hv2 : its[i]? = some v := by simpa using hv
  have hi : i < zs.length := by rw [← hlen]; exact (List.getElem?_eq_some_iff.mp hv2).1
  obtain ⟨u, hu, t, ru⟩ := rv.get (i := i) (x := .str zs[i]) (by simp [hi])
  rw [hv2] at hu
  cases hu
  rw [List.getD_eq_getElem?_getD, List.getElem?_eq_getElem hi, ru]
  exact strKind_is P w _ t
theorem gather_all {κ : Type} [DecidableEq κ] [Inhabited κ] {zs : List κ} {its : List Value} (hlen : its.length = zs.length) : gatherK (fun i => zs.getD i default) its.toArray.size = foldK zs := by
  rw [gather_fold (l := zs) (fun i k e => by rw [List.getD_eq_getElem?_getD, e]; rfl) _ (by rw [List.size_toArray, hlen]; exact Nat.le_refl _), show its.toArray.size = zs.length by rw [List.size_toArray, hlen], List.take_length]
  rfl
theorem cr_setA (hc : X.calm = true) : CallR X (.type "set") (rSetA X.K X.prog X.w) := by
  intro pins s σ H xs us Q I r h
  obtain ⟨p, rfl, h⟩ := h
  rw [Vals.ref1 r]
  rcases h with ⟨zs, hs, hb, q⟩ | ⟨zs, hs, hb, q⟩ <;> rcases hs with hs | hs
  · obtain ⟨its, rv, hl, _⟩ := I.list hs
    obtain ⟨hlen, hk⟩ := keyI (P := X.prog) (w := X.w) rv
    refine setX_list (knd := intKind X.prog X.w) seen_int (I.ok.hd hc) hl.isList _ hk (by rw [List.size_toArray, hlen]; exact hb) fun h' tk R keep => ?_
    rw [gather_all hlen] at R
    exact ⟨.ref _, _, I.laid (t' := tk) keep (Nat.le_refl _) (setXO_new R), rfl, q _ (I.hok.fresh (Nat.le_refl _))⟩
  · obtain ⟨its, rv, hl, _⟩ := I.tuple hs
    obtain ⟨hlen, hk⟩ := keyI (P := X.prog) (w := X.w) rv
    refine setX_tup (knd := intKind X.prog X.w) seen_int (I.ok.hd hc) hl _ hk (by rw [List.size_toArray, hlen]; exact hb) fun h' tk R keep => ?_
    rw [gather_all hlen] at R
    exact ⟨.ref _, _, I.laid (t' := tk) keep (Nat.le_refl _) (setXO_new R), rfl, q _ (I.hok.fresh (Nat.le_refl _))⟩
  · obtain ⟨its, rv, hl, _⟩ := I.list hs
    obtain ⟨hlen, hk⟩ := keyS (P := X.prog) (w := X.w) rv
    refine setX_list (knd := strKind X.prog X.w) seen_str (I.ok.hd hc) hl.isList _ hk (by rw [List.size_toArray, hlen]; exact hb) fun h' tk R keep => ?_
    rw [gather_all hlen] at R
    exact ⟨.ref _, _, I.laid (t' := tk) keep (Nat.le_refl _) (setXO_new R), rfl, q _ (I.hok.fresh (Nat.le_refl _))⟩
  · obtain ⟨its, rv, hl, _⟩ := I.tuple hs
    obtain ⟨hlen, hk⟩ := keyS (P := X.prog) (w := X.w) rv
    refine setX_tup (knd := strKind X.prog X.w) seen_str (I.ok.hd hc) hl _ hk (by rw [List.size_toArray, hlen]; exact hb) fun h' tk R keep => ?_
    rw [gather_all hlen] at R
    exact ⟨.ref _, _, I.laid (t' := tk) keep (Nat.le_refl _) (setXO_new R), rfl, q _ (I.hok.fresh (Nat.le_refl _))⟩
/-- sorted of a set of ints or texts -/
def rSort2 (P : Program) (w : World) : List V → Hp → VK → Prop := fun xs H Q => rSortIS P w xs H Q ∨ rSortX P w xs H Q
theorem cr_sort2 (hc : X.calm = true) : CallR X (.builtin "sorted") (rSort2 X.prog X.w) := by
  intro pins s σ H xs us Q I r h
  rcases h with h | h
  · exact cr_sortIS hc pins s σ H xs us Q I r h
  · exact cr_sortX hc pins s σ H xs us Q I r h
end
end Nc

namespace Nc
open PySem PySem.Spec PyProof.Rows L2 SeqAt
/-! ## sorted(xs) of tuples: whole numbers, texts, tuples of these -/
/-! ### values -/
mutual
/-- the value v is the key, whole numbers alone being numbers -/
inductive KI (h : Heap) : NK → Value → Prop
  | none : KI h .none .none
  | int (i : Int) (t : Tok) : KI h (.num i) (.int i t)
  | text (x : Str) (t : Tok) : KI h (.text x) (.str x t)
  | tup {a : Addr} {o : Obj} {vs : Array Value} {n : Nat} {ks : List NK} : h.get? a = some o → o.cls = .type "tuple" → o.data = .seq vs n → KIs h ks vs.toList → KI h (.tup ks) (.ref a)
inductive KIs (h : Heap) : List NK → List Value → Prop
  | nil : KIs h [] []
  | cons {k : NK} {v : Value} {ks : List NK} {vs : List Value} : KI h k v → KIs h ks vs → KIs h (k :: ks) (v :: vs)
end
mutual
theorem KI.keep {h h' : Heap} (k : ∀ b o, o.cls = .type "tuple" → h.get? b = some o → h'.get? b = some o) : ∀ {κ : NK} {v : Value}, KI h κ v → KI h' κ v
  | _, _, .none => .none
  | _, _, .int i t => .int i t
  | _, _, .text x t => .text x t
  | _, _, .tup h1 h2 h3 h4 => .tup (k _ _ h2 h1) h2 h3 (KIs.keep k h4)
theorem KIs.keep {h h' : Heap} (k : ∀ b o, o.cls = .type "tuple" → h.get? b = some o → h'.get? b = some o) : ∀ {κ : List NK} {v : List Value}, KIs h κ v → KIs h' κ v
  | _, _, .nil => .nil
  | _, _, .cons h1 h2 => .cons (KI.keep k h1) (KIs.keep k h2)
end
theorem KIs.len {h : Heap} : ∀ {ks : List NK} {vs : List Value}, KIs h ks vs → ks.length = vs.length
  | _, _, .nil => rfl
  | _, _, .cons _ t => congrArg Nat.succ (KIs.len t)
theorem KIs.get {h : Heap} : ∀ {ks : List NK} {vs : List Value} {j : Nat} (h1 : j < vs.length) (h2 : j < ks.length), KIs h ks vs → KI h ks[j] vs[j]
  | _, _, _, h1, _, .nil => absurd h1 (Nat.not_lt_zero _)
  | _, _, 0, _, _, .cons h _ => h
  | _, _, j + 1, h1, h2, .cons _ t => KIs.get (Nat.lt_of_succ_lt_succ h1) (Nat.lt_of_succ_lt_succ h2) t
end Nc

namespace Nc
open PySem PySem.Spec PyProof.Rows L2
/-! ## comprehensions whose elements call lambdas of the def that they stand in -/
section
variable {X : Cx} {e tg iter : Expr} {ifs : List Expr} {cs : List Comprehension} {emit : Value → PySem.Env → Sem Unit} {g : TG} {tt : TT} {wi : TI} {r : List ClX1} {em : Addr → CBT} {scope : Scope} {own : List (Str × Nat)} {pos : Pos} {newAcc : Sem Value} {ho : Addr → HO} {ob : Obj}
end
section
variable {X : Cx}
end
section
variable {X : Cx} {e elt tg iter : Expr} {ifs : List Expr} {emit : Value → PySem.Env → Sem Unit} {g : TG} {tt : TT} {wi : TI} {scope : Scope} {own : List (Str × Nat)} {pos : Pos} {newAcc : Sem Value} {ho : Addr → HO} {ob : Obj}
end
end Nc

namespace Nc
open PySem PySem.Spec PyProof.Rows L2
/-! ## the data layer: what a def means, on data and a store of objects that change -/
/-- data -/
inductive D where
  | non | bl (b : Bool) | int (i : Int) | str (z : Str)
  | lst (ds : List D) | tup (ds : List D)
  | pr (ds : List D)
  | dic (ks ds : List D)
  | ins (C : Str) (ns : List Str) (ds : List D)
  | ob (i : Nat)
  | bag
  | raw (v : V)
  | clo (j : Nat)
/-- an object that changes -/
inductive Ob where
  | ins (C : Str) (fs : List (Str × D))
  | lst (ds : List D)
  | dic (ks ds : List D)
abbrev Sto := List Ob
/-- a law's bag: its place, its script's copy; its tables of code objects -/
structure BG where
  bg : Option (Addr × Addr × List Int)
  tb : List (Addr × Str)
/-- no table -/
def Ntb (o : HO) : Prop := ∀ ps, o ≠ .tbl ps
def noT : Option HO → Option HO
  | some (.tbl _) => none
  | x => x
theorem noT_some {x : Option HO} {o : HO} (h : noT x = some o) : x = some o ∧ Ntb o := by
  unfold noT at h
  split at h
  · cases h
  · rename_i q
    exact ⟨h, fun ps z => q ps (by rw [h, z])⟩
theorem noT_get {x : Option HO} {o : HO} (h : x = some o) (n : Ntb o) : noT x = some o := by
  subst h
  unfold noT
  split
  · rename_i q
    cases q
    exact (n _ rfl).elim
  · rfl
def kD : Key → D
  | .inl n => .int n
  | .inr z => .str z
mutual
/-- a datum as a key -/
def D.nk : D → Option NK
  | .non => some .none
  | .bl b => some (.num (if b = true then 1 else 0))
  | .int i => some (.num i)
  | .str z => some (.text z)
  | .tup ds => (D.nks ds).map .tup
  | .lst _ | .pr _ | .dic _ _ | .ins _ _ _ | .ob _ | .bag | .raw _ | .clo _ => none
def D.nks : List D → Option (List NK)
  | [] => some []
  | d :: ds => match d.nk, D.nks ds with
    | some k, some ks => some (k :: ks)
    | _, _ => none
end
open Classical in
/-- the heap but for what is hidden, and the tables -/
noncomputable def hid (A : Addr → Prop) (H : Hp) : Hp := fun a => if A a then none else noT (H a)
section
variable {A B : Addr → Prop} {H H' : Hp} {a : Addr} {o : HO}
theorem hid_get (h : ¬ A a) (e : H a = some o) (n : Ntb o := by intro _ z; cases z) : hid A H a = some o := by unfold hid; rw [if_neg h]; exact noT_get e n
theorem hid_some (h : hid A H a = some o) : ¬ A a ∧ H a = some o := by
  unfold hid at h
  by_cases c : A a
  · rw [if_pos c] at h; cases h
  · rw [if_neg c] at h; exact ⟨c, (noT_some h).1⟩
theorem hid_nt (h : hid A H a = some o) : Ntb o := by
  unfold hid at h
  by_cases c : A a
  · rw [if_pos c] at h; cases h
  · rw [if_neg c] at h; exact (noT_some h).2
theorem hid_same : Same (hid A H) H := fun _ _ h => (hid_some h).2
theorem hid_mono (h : ∀ a, B a → A a) : Same (hid A H) (hid B H) := fun a o e => by
  obtain ⟨h1, h2⟩ := hid_some e
  exact hid_get (fun z => h1 (h a z)) h2 (hid_nt e)
theorem hid_step (h : Same H H') : Same (hid A H) (hid A H') := fun a o e => by
  obtain ⟨h1, h2⟩ := hid_some e
  exact hid_get h1 (h _ _ h2) (hid_nt e)
end
/-- a locked dict with int and text keys -/
def DicK (H : Hp) (a : Addr) (kvs : List (Key × V)) : Prop := ∃ o, H a = some (.frz o (.dK kvs))
theorem DicK.same {H H' : Hp} {a : Addr} {kvs : List (Key × V)} (e : Same H H') (h : DicK H a kvs) : DicK H' a kvs := let ⟨o, h⟩ := h; ⟨o, e _ _ h⟩
/-- a locked dict with tuple keys -/
def DicN (Z : ZP) (H : Hp) (a : Addr) (kvs : DNs) : Prop := ∃ o, H a = some (.frz o (DNO Z.p Z.w a kvs))
theorem DicN.same {Z : ZP} {H H' : Hp} {a : Addr} {kvs : DNs} (e : Same H H') (h : DicN Z H a kvs) : DicN Z H' a kvs := let ⟨o, h⟩ := h; ⟨o, e _ _ h⟩
/-- its texts are not too long -/
def KsL (kvs : List (Key × V)) : Prop := ∀ p ∈ kvs, ∀ z, p.1 = .inr z → z.length ≤ sizeLine
def dnKs (kvs : DNs) : List V := kvs.map fun p => .ref p.2.1
def dnVs (kvs : DNs) : List V := kvs.map fun p => p.2.2
/-- the keys of data are those of the dict -/
def KsOk (kvs : DNs) (ks : List D) : Prop := ks.map D.nk = kvs.map (fun p => some p.1) ∧ ∀ p ∈ kvs, p.1.depth ≤ 8
section
variable (Z : ZP) (K : PySem.W.Frag) (mg : Str → Option Value) (β : BG) (α : List Addr) (H : Hp)
mutual
inductive Rp : V → D → Prop
  | non : Rp .non .non
  | bl (b : Bool) : Rp (.bl b) (.bl b)
  | int (i : Int) : Rp (.int i) (.int i)
  | str {z : Str} : z.length ≤ sizeLine → Rp (.str z) (.str z)
  | lst {a : Addr} {xs : List V} {ds : List D} : H a = some (.lst xs) → xs.length ≤ sizeLine → RpAll xs ds → Rp (.ref a) (.lst ds)
  | tup {a : Addr} {xs : List V} {ds : List D} : SqT K H a xs → NdT K H a → xs.length ≤ sizeLine → RpAll xs ds → Rp (.ref a) (.tup ds)
  | pr {a : Addr} {xs : List V} {ds : List D} : SqT K H a xs → xs.length ≤ sizeLine → RpAll xs ds → Rp (.ref a) (.pr ds)
  | dK {a : Addr} {kvs : List (Key × V)} {ds : List D} : DicK H a kvs → kvs.length ≤ sizeLine → KsL kvs → RpAll (kvs.map (·.2)) ds → Rp (.ref a) (.dic (kvs.map fun p => kD p.1) ds)
  | dN {a : Addr} {kvs : DNs} {ks ds : List D} : DicN Z H a kvs → kvs.length ≤ sizeLine → RpAll (dnKs kvs) ks → KsOk kvs ks → RpAll (dnVs kvs) ds → Rp (.ref a) (.dic ks ds)
  | ins {a C dx : Addr} {c : Str} {fs : List (Str × V)} {ds : List D} : mg c = some (.ref C) → H a = some (.ins C dx fs) → RpAll (fs.map (·.2)) ds → Rp (.ref a) (.ins c (fs.map (·.1)) ds)
  | ob {i : Nat} {a : Addr} : α[i]? = some a → Rp (.ref a) (.ob i)
  | bag {b l : Addr} {ns : List Int} : β.bg = some (b, l, ns) → Rp (.ref b) .bag
  | raw (v : V) : Rp v (.raw v)
  | clo {f c' : Addr} {j : Nat} {t : LT} {q : Str} {cl : List (Str × Addr)} {df : Value} : Z.ls[j]? = some (t, q, cl) → H f = some (LamO f q t cl c' df) → H c' = some (LamX.CodeO c' q) → DfOk H t.dv df → Rp (.ref f) (.clo j)
inductive RpAll : List V → List D → Prop
  | nil : RpAll [] []
  | cons {v : V} {vs : List V} {d : D} {ds : List D} : Rp v d → RpAll vs ds → RpAll (v :: vs) (d :: ds)
end
end
theorem pre_get {α α' : List Addr} (p : α <+: α') {i : Nat} {a : Addr} (h : α[i]? = some a) : α'[i]? = some a := by
  obtain ⟨t, rfl⟩ := p
  rw [List.getElem?_append_left (List.getElem?_eq_some_iff.mp h).1]
  exact h
section
variable {Z : ZP} {K : PySem.W.Frag} {mg : Str → Option Value} {β : BG} {α α' : List Addr} {H H' : Hp}
mutual
theorem Rp.mono (p : α <+: α') (e : Same H H') : ∀ {v : V} {d : D}, Rp Z K mg β α H v d → Rp Z K mg β α' H' v d
  | _, _, .non => .non
  | _, _, .bl b => .bl b
  | _, _, .int i => .int i
  | _, _, .str h => .str h
  | _, _, .lst h n r => .lst (e _ _ h) n (RpAll.mono p e r)
  | _, _, .tup h nd n r => .tup (Same.tup e h) (nd.same e) n (RpAll.mono p e r)
  | _, _, .pr h n r => .pr (Same.tup e h) n (RpAll.mono p e r)
  | _, _, .dK h n l r => .dK (h.same e) n l (RpAll.mono p e r)
  | _, _, .dN h n q z r => .dN (h.same e) n (RpAll.mono p e q) z (RpAll.mono p e r)
  | _, _, .ins c h r => .ins c (e _ _ h) (RpAll.mono p e r)
  | _, _, .ob h => .ob (pre_get p h)
  | _, _, .bag h => .bag h
  | _, _, .raw v => .raw v
  | _, _, .clo h1 h2 h3 h4 => .clo h1 (e _ _ h2) (e _ _ h3) (h4.ext e)
theorem RpAll.mono (p : α <+: α') (e : Same H H') : ∀ {vs : List V} {ds : List D}, RpAll Z K mg β α H vs ds → RpAll Z K mg β α' H' vs ds
  | _, _, .nil => .nil
  | _, _, .cons h r => .cons (Rp.mono p e h) (RpAll.mono p e r)
end
theorem Rp.same (e : Same H H') {v : V} {d : D} (h : Rp Z K mg β α H v d) : Rp Z K mg β α H' v d := h.mono (List.prefix_refl _) e
theorem RpAll.same (e : Same H H') {v : List V} {d : List D} (h : RpAll Z K mg β α H v d) : RpAll Z K mg β α H' v d := h.mono (List.prefix_refl _) e
theorem RpAll.len : ∀ {xs : List V} {ds : List D}, RpAll Z K mg β α H xs ds → xs.length = ds.length
  | _, _, .nil => rfl
  | _, _, .cons _ t => congrArg Nat.succ (RpAll.len t)
theorem RpAll.get : ∀ {xs : List V} {ds : List D} {i : Nat} {x : V}, RpAll Z K mg β α H xs ds → xs[i]? = some x → ∃ d, ds[i]? = some d ∧ Rp Z K mg β α H x d
  | _, _, _, _, .nil, e => by simp at e
  | _, _, 0, _, .cons h _, e => by simp at e; subst e; exact ⟨_, rfl, h⟩
  | _, _, i + 1, x, .cons _ t, e => by
    obtain ⟨d, h1, h2⟩ := RpAll.get (i := i) (x := x) t (by simpa using e)
    exact ⟨d, by simpa using h1, h2⟩
theorem RpAll.get' : ∀ {xs : List V} {ds : List D} {i : Nat} {d : D}, RpAll Z K mg β α H xs ds → ds[i]? = some d → ∃ x, xs[i]? = some x ∧ Rp Z K mg β α H x d
  | _, _, _, _, .nil, e => by simp at e
  | _, _, 0, _, .cons h _, e => by simp at e; subst e; exact ⟨_, rfl, h⟩
  | _, _, i + 1, x, .cons _ t, e => by
    obtain ⟨d, h1, h2⟩ := RpAll.get' (i := i) (d := x) t (by simpa using e)
    exact ⟨d, by simpa using h1, h2⟩
theorem RpAll.append : ∀ {xs ys : List V} {ds es : List D}, RpAll Z K mg β α H xs ds → RpAll Z K mg β α H ys es → RpAll Z K mg β α H (xs ++ ys) (ds ++ es)
  | _, _, _, _, .nil, s => s
  | _, _, _, _, .cons r t, s => .cons r (RpAll.append t s)
theorem RpAll.take : ∀ {xs : List V} {ds : List D} (n : Nat), RpAll Z K mg β α H xs ds → RpAll Z K mg β α H (xs.take n) (ds.take n)
  | _, _, 0, _ => .nil
  | _, _, _ + 1, .nil => .nil
  | _, _, n + 1, .cons r t => .cons r (RpAll.take n t)
theorem RpAll.drop : ∀ {xs : List V} {ds : List D} (n : Nat), RpAll Z K mg β α H xs ds → RpAll Z K mg β α H (xs.drop n) (ds.drop n)
  | _, _, 0, r => r
  | _, _, _ + 1, .nil => .nil
  | _, _, n + 1, .cons _ t => RpAll.drop n t
theorem RpAll.set {v : V} {d : D} (h : Rp Z K mg β α H v d) : ∀ {xs : List V} {ds : List D} (n : Nat), RpAll Z K mg β α H xs ds → RpAll Z K mg β α H (xs.set n v) (ds.set n d)
  | _, _, _, .nil => .nil
  | _, _, 0, .cons _ t => .cons h t
  | _, _, n + 1, .cons r t => .cons r (RpAll.set h n t)
theorem RpAll.ints : ∀ (ns : List Int), RpAll Z K mg β α H (ns.map V.int) (ns.map D.int)
  | [] => .nil
  | n :: ns => .cons (.int n) (RpAll.ints ns)
theorem RpAll.bls : ∀ {xs : List V} {bs : List Bool}, RpAll Z K mg β α H xs (bs.map D.bl) → xs = bs.map V.bl
  | [], [], _ => rfl
  | _, [], h => by cases h; rfl
  | _, b :: bs, h => by
    cases h with
    | cons h t => cases h; rw [RpAll.bls t]; rfl
theorem RpAll.intsI : ∀ {xs : List V} {bs : List Int}, RpAll Z K mg β α H xs (bs.map D.int) → xs = bs.map V.int
  | [], [], _ => rfl
  | _, [], h => by cases h; rfl
  | _, b :: bs, h => by
    cases h with
    | cons h t => cases h; rw [RpAll.intsI t]; rfl
theorem RpAll.strsI : ∀ {xs : List V} {bs : List Str}, RpAll Z K mg β α H xs (bs.map D.str) → xs = bs.map V.str
  | [], [], _ => rfl
  | _, [], h => by cases h; rfl
  | _, b :: bs, h => by
    cases h with
    | cons h t => cases h; rw [RpAll.strsI t]; rfl
theorem RpAll.strs : ∀ {bs : List Str}, (∀ z ∈ bs, z.length ≤ sizeLine) → RpAll Z K mg β α H (bs.map V.str) (bs.map D.str)
  | [], _ => .nil
  | b :: bs, h => .cons (.str (h b (List.mem_cons_self ..))) (RpAll.strs fun z hz => h z (List.mem_cons_of_mem _ hz))
theorem Rp.intI {v : V} {i : Int} (h : Rp Z K mg β α H v (.int i)) : v = .int i := by cases h; rfl
theorem Rp.strI {v : V} {z : Str} (h : Rp Z K mg β α H v (.str z)) : v = .str z ∧ z.length ≤ sizeLine := by cases h; exact ⟨rfl, ‹_›⟩
theorem Rp.blI {v : V} {b : Bool} (h : Rp Z K mg β α H v (.bl b)) : v = .bl b := by cases h; rfl
theorem Rp.nonI {v : V} (h : Rp Z K mg β α H v .non) : v = .non := by cases h; rfl
theorem Rp.rawI {v x : V} (h : Rp Z K mg β α H v (.raw x)) : v = x := by cases h; rfl
theorem Rp.obI {v : V} {i : Nat} (h : Rp Z K mg β α H v (.ob i)) : ∃ a, v = .ref a ∧ α[i]? = some a := by cases h; exact ⟨_, rfl, ‹_›⟩
theorem Rp.tupI {v : V} {ds : List D} (h : Rp Z K mg β α H v (.tup ds)) : ∃ a xs, v = .ref a ∧ SqT K H a xs ∧ xs.length ≤ sizeLine ∧ RpAll Z K mg β α H xs ds := by
  cases h with
  | tup h1 nd h2 h3 => exact ⟨_, _, rfl, h1, h2, h3⟩
theorem Rp.prI {v : V} {ds : List D} (h : Rp Z K mg β α H v (.pr ds)) : ∃ a xs, v = .ref a ∧ SqT K H a xs ∧ xs.length ≤ sizeLine ∧ RpAll Z K mg β α H xs ds := by
  cases h with
  | pr h1 h2 h3 => exact ⟨_, _, rfl, h1, h2, h3⟩
theorem Rp.lstI {v : V} {ds : List D} (h : Rp Z K mg β α H v (.lst ds)) : ∃ a xs, v = .ref a ∧ H a = some (.lst xs) ∧ xs.length ≤ sizeLine ∧ RpAll Z K mg β α H xs ds := by
  cases h with
  | lst h1 h2 h3 => exact ⟨_, _, rfl, h1, h2, h3⟩
/-! objects of which nothing is left -/
mutual
def D.obLt (n : Nat) : D → Bool
  | .ob i => decide (i < n)
  | .lst ds | .tup ds | .pr ds | .ins _ _ ds => D.obsLt n ds
  | .dic ks ds => D.obsLt n ds
  | .non | .bl _ | .int _ | .str _ | .bag | .raw _ | .clo _ => true
def D.obsLt (n : Nat) : List D → Bool
  | [] => true
  | d :: ds => d.obLt n && D.obsLt n ds
end
mutual
theorem Rp.obLt : ∀ {v : V} {d : D}, Rp Z K mg β α H v d → d.obLt α.length = true
  | _, _, .non => by unfold D.obLt; rfl
  | _, _, .bl b => by unfold D.obLt; rfl
  | _, _, .int i => by unfold D.obLt; rfl
  | _, _, .str h => by unfold D.obLt; rfl
  | _, _, .lst h n r => by unfold D.obLt; exact RpAll.obLt r
  | _, _, .tup h nd n r => by unfold D.obLt; exact RpAll.obLt r
  | _, _, .pr h n r => by unfold D.obLt; exact RpAll.obLt r
  | _, _, .dK h n l r => by unfold D.obLt; exact RpAll.obLt r
  | _, _, .dN h n q z r => by unfold D.obLt; exact RpAll.obLt r
  | _, _, .ins c h r => by unfold D.obLt; exact RpAll.obLt r
  | _, _, .ob h => by unfold D.obLt; exact decide_eq_true (List.getElem?_eq_some_iff.mp h).1
  | _, _, .bag h => by unfold D.obLt; rfl
  | _, _, .raw v => by unfold D.obLt; rfl
  | _, _, .clo _ _ _ _ => by unfold D.obLt; rfl
theorem RpAll.obLt : ∀ {vs : List V} {ds : List D}, RpAll Z K mg β α H vs ds → D.obsLt α.length ds = true
  | _, _, .nil => by unfold D.obsLt; rfl
  | _, _, .cons h r => by unfold D.obsLt; rw [Rp.obLt h, RpAll.obLt r]; rfl
end
mutual
theorem D.nk_obLt {n : Nat} : ∀ {d : D} {κ : NK}, d.nk = some κ → d.obLt n = true
  | .non, _, _ => by unfold D.obLt; rfl
  | .bl _, _, _ => by unfold D.obLt; rfl
  | .int _, _, _ => by unfold D.obLt; rfl
  | .str _, _, _ => by unfold D.obLt; rfl
  | .tup ds, κ, h => by
    unfold D.obLt
    unfold D.nk at h
    cases q : D.nks ds with
    | none => rw [q] at h; cases h
    | some ks => exact D.nks_obLt q
  | .lst _, _, h | .pr _, _, h | .dic _ _, _, h | .ins _ _ _, _, h | .ob _, _, h | .bag, _, h | .raw _, _, h | .clo _, _, h => by unfold D.nk at h; cases h
theorem D.nks_obLt {n : Nat} : ∀ {ds : List D} {ks : List NK}, D.nks ds = some ks → D.obsLt n ds = true
  | [], _, _ => by unfold D.obsLt; rfl
  | d :: ds, ks, h => by
    unfold D.nks at h
    unfold D.obsLt
    cases q1 : d.nk with
    | none => rw [q1] at h; cases h
    | some κ =>
      cases q2 : D.nks ds with
      | none => rw [q1, q2] at h; cases h
      | some κs => rw [D.nk_obLt q1, D.nks_obLt q2]; rfl
end
theorem KsOk.obs {n : Nat} : ∀ {kvs : DNs} {ks : List D}, KsOk kvs ks → D.obsLt n ks = true
  | [], [], _ => by unfold D.obsLt; rfl
  | p :: kvs, k :: ks, ⟨h, q⟩ => by
    simp only [List.map_cons, List.cons.injEq] at h
    unfold D.obsLt
    rw [D.nk_obLt h.1, KsOk.obs (kvs := kvs) (ks := ks) ⟨h.2, fun p hp => q p (List.mem_cons_of_mem _ hp)⟩]
    rfl
  | [], _ :: _, ⟨h, _⟩ => by cases h
  | _ :: _, [], ⟨h, _⟩ => by cases h
end
/-- a bag and tables that hold -/
structure BgOk (β : BG) (H : Hp) : Prop where
  bag : ∀ b l ns, β.bg = some (b, l, ns) → BagX l ns H b
  tab : LamX.Tabs β.tb H
def NoBg (β : BG) (a : Addr) : Prop := ∀ b l ns, β.bg = some (b, l, ns) → a ≠ b
/-- what may change from one heap to a later one: the bag, the tables, the objects, and what is new -/
structure Fr (β : BG) (α : List Addr) (H : Hp) (α' : List Addr) (H' : Hp) : Prop where
  b0 : BgOk β H
  pre : α <+: α'
  bag : BgOk β H'
  keep : ∀ a o, NoBg β a → a ∉ α → H a = some o → Ntb o → H' a = some o
  stay : ∀ a, H a ≠ none → H' a ≠ none
  new : ∀ a ∈ α', a ∈ α ∨ H a = none
section
variable {β : BG} {α α' α1 : List Addr} {H H' H1 : Hp}
theorem BgOk.same (b : BgOk β H) (h : Same H H') : BgOk β H' := ⟨fun x l ns e => (b.bag x l ns e).same h, b.tab.ext h⟩
theorem Fr.refl (b : BgOk β H) : Fr β α H α H := ⟨b, List.prefix_refl _, b, fun _ _ _ _ h _ => h, fun _ h => h, fun _ h => .inl h⟩
theorem same_stay (h : Same H H') {a : Addr} (e : H a ≠ none) : H' a ≠ none := fun z => by
  cases q : H a with
  | none => exact e q
  | some o => rw [h _ _ q] at z; cases z
theorem Fr.of (b : BgOk β H) (h : Same H H') : Fr β α H α H' := ⟨b, List.prefix_refl _, b.same h, fun _ _ _ _ e _ => h _ _ e, fun _ e => same_stay h e, fun _ h => .inl h⟩
/-- what stands goes on to stand -/
theorem Fr.keepB (f : Fr β α H α' H') {a : Addr} (h : H a ≠ none) : H' a ≠ none := f.stay a h
theorem Fr.none_ahead (f : Fr β α H α' H') {a : Addr} (h : H' a = none) : H a = none := by
  by_cases q : H a = none
  · exact q
  · exact absurd h (f.keepB q)
theorem Fr.trans (f : Fr β α H α1 H1) (g : Fr β α1 H1 α' H') : Fr β α H α' H' := by
  refine ⟨f.b0, f.pre.trans g.pre, g.bag, fun a o n1 n2 h nt => ?_, fun a h => g.stay a (f.stay a h), fun a m => ?_⟩
  · refine g.keep a o n1 (fun z => ?_) (f.keep a o n1 n2 h nt) nt
    rcases f.new a z with z | z
    · exact n2 z
    · rw [h] at z; cases z
  · rcases g.new a m with m | m
    · exact f.new a m
    · exact .inr (f.none_ahead m)
theorem upd_stay {p : Addr} {o : HO} {a : Addr} (h : H a ≠ none) : upd H p o a ≠ none := by
  by_cases z : a = p
  · rw [z]; rw [upd_same]; simp
  · rw [upd_ne z]; exact h
/-- a new thing is written -/
theorem Fr.mut {p : Addr} {o : HO} (f : Fr β α H α' H') (h : H p = none) (h' : LamX.Tabs β.tb (upd H' p o)) : Fr β α H α' (upd H' p o) := by
  refine ⟨f.b0, f.pre, ⟨fun b l ns e => ?_, h'⟩, fun a u n1 n2 e nt => ?_, fun a e => upd_stay (f.stay a e), f.new⟩
  · have n := (f.b0.bag b l ns e).neB h
    exact (f.bag.bag b l ns e).at (upd_ne n.1.symm) (upd_ne n.2.symm)
  · rw [upd_ne (ne_of_none e h)]; exact f.keep a u n1 n2 e nt
theorem tabs_but {T : List (Addr × Str)} {p : Addr} {o1 : HO} (t : LamX.Tabs T H) (h : H p = some o1) (n : Ntb o1) (nc : ∀ c q, o1 ≠ LamX.CodeO c q) (k : ∀ a o, a ≠ p → H a = some o → H' a = some o) : LamX.Tabs T H' := fun r hr => by
  obtain ⟨ps, h1, h2, h3⟩ := t r hr
  refine ⟨ps, k _ _ (fun z => ?_) h1, h2, fun pos cv hc => ?_⟩
  · rw [z, h] at h1
    exact n ps (Option.some.inj h1)
  · obtain ⟨c, e1, e2⟩ := h3 pos cv hc
    refine ⟨c, e1, k _ _ (fun z => ?_) e2⟩
    rw [z, h] at e2
    exact nc _ _ (Option.some.inj e2)
theorem tabs_wr {T : List (Addr × Str)} {p : Addr} {o o1 : HO} (t : LamX.Tabs T H) (h : H p = some o1) (n : Ntb o1) (nc : ∀ c q, o1 ≠ LamX.CodeO c q) : LamX.Tabs T (upd H p o) :=
  tabs_but t h n nc fun a u z e => by rw [upd_ne z]; exact e
theorem ncLst {xs : List V} : ∀ c q, HO.lst xs ≠ LamX.CodeO c q := fun c q z => by unfold LamX.CodeO at z; cases z
theorem ncDK {xs : List (Key × V)} : ∀ c q, HO.dK xs ≠ LamX.CodeO c q := fun c q z => by unfold LamX.CodeO at z; cases z
theorem ncIns {C dx : Addr} {xs : List (Str × V)} : ∀ c q, HO.ins C dx xs ≠ LamX.CodeO c q := fun c q z => by unfold LamX.CodeO at z; cases z
theorem tabs_lst {T : List (Addr × Str)} {p : Addr} {xs : List V} {o : HO} (t : LamX.Tabs T H) (h : H p = some (.lst xs)) : LamX.Tabs T (upd H p o) := tabs_wr t h (by intro _ z; cases z) ncLst
theorem tabs_dK {T : List (Addr × Str)} {p : Addr} {xs : List (Key × V)} {o : HO} (t : LamX.Tabs T H) (h : H p = some (.dK xs)) : LamX.Tabs T (upd H p o) := tabs_wr t h (by intro _ z; cases z) ncDK
theorem ncSK {P : Program} {w : World} {d : Addr} {S : Key → Bool} {n : Nat} : ∀ c q, SetK P w d S n ≠ LamX.CodeO c q := fun c q z => by
  unfold SetK LamX.CodeO at z
  have e := HO.ext.inj z
  let o : Obj := { cls := .none, data := .fields #[.none, .str q 0] }
  let h0 : Heap := { objs := Array.replicate (c + 1) o }
  have hc : h0.get? c = some o := by
    unfold Heap.get?
    rw [show h0.objs[c]? = some o by simp [h0]]
  have q1 : h0.SetOf (mixKind P w) d S n := Eq.mpr (congrFun e h0) ⟨o, _, 0, hc, rfl, rfl⟩
  obtain ⟨o', es, ep, t, h1, _, h3, _⟩ := q1
  have : o' = o := by
    unfold Heap.get? at h1
    by_cases hd : d < c + 1
    · rw [show h0.objs[d]? = some o by simp [h0, hd]] at h1
      exact (Option.some.inj h1).symm
    · rw [show h0.objs[d]? = none by simp [h0]; exact Nat.not_lt.mp hd] at h1
      cases h1
  rw [this] at h3
  cases h3
theorem ncDN {P : Program} {w : World} {d : Addr} {kvs : DNs} : ∀ c q, DNO P w d kvs ≠ LamX.CodeO c q := fun c q z => by
  unfold DNO LamX.CodeO at z
  have e := HO.ext.inj z
  let o : Obj := { cls := .none, data := .fields #[.none, .str q 0] }
  let h0 : Heap := { objs := Array.replicate (c + 1) o }
  have hc : h0.get? c = some o := by
    unfold Heap.get?
    rw [show h0.objs[c]? = some o by simp [h0]]
  have q1 : dnOk P w d kvs h0 := by rw [e]; exact ⟨o, _, 0, hc, rfl, rfl⟩
  obtain ⟨_, _, _, o', es, ep, h1, _, h3, _⟩ := q1
  have : o' = o := by
    unfold Heap.get? at h1
    by_cases hd : d < c + 1
    · rw [show h0.objs[d]? = some o by simp [h0, hd]] at h1
      exact (Option.some.inj h1).symm
    · rw [show h0.objs[d]? = none by simp [h0]; exact Nat.not_lt.mp hd] at h1
      cases h1
  rw [this] at h3
  cases h3
theorem tabs_dN {T : List (Addr × Str)} {P : Program} {w : World} {p : Addr} {kvs : DNs} {o : HO} (t : LamX.Tabs T H) (h : H p = some (DNO P w p kvs)) : LamX.Tabs T (upd H p o) := tabs_wr t h (by intro _ z; cases z) ncDN
theorem tabs_st {T : List (Addr × Str)} {P : Program} {w : World} {p : Addr} {S : Key → Bool} {n : Nat} {o : HO} (t : LamX.Tabs T H) (h : H p = some (SetK P w p S n)) : LamX.Tabs T (upd H p o) := tabs_wr t h (by intro _ z; cases z) ncSK
/-- an object is written -/
theorem Fr.wr {p : Addr} {o : HO} (f : Fr β α H α' H') (h : p ∈ α) (n : ∀ b l ns, β.bg = some (b, l, ns) → p ≠ b ∧ p ≠ l) (h' : LamX.Tabs β.tb (upd H' p o)) : Fr β α H α' (upd H' p o) := by
  refine ⟨f.b0, f.pre, ⟨fun b l ns e => (f.bag.bag b l ns e).at (upd_ne (n b l ns e).1.symm) (upd_ne (n b l ns e).2.symm), h'⟩, fun a u n1 n2 e nt' => ?_, fun a e => upd_stay (f.stay a e), f.new⟩
  rw [upd_ne fun z => n2 (by rw [z]; exact h)]; exact f.keep a u n1 n2 e nt'
end
/-- an exception: its class's name, its fields, the latest first -/
structure Ex where
  cls : Str
  fs : List (Str × D)
abbrev M (τ : Type) := Sto → (τ → Sto → Prop) → (Ex → Sto → Prop) → Prop
/-- an object that is neither a table nor a code object -/
def Nco (o : HO) : Prop := Ntb o ∧ ∀ c q, o ≠ LamX.CodeO c q
/-- a def's run: what is hidden, the heap and the objects at its start -/
structure Cy (Z : ZP) (K : PySem.W.Frag) (mg : Str → Option Value) (E : XK) where
  β : BG
  A : Addr → Prop
  H0 : Hp
  α0 : List Addr
  b0 : BgOk β H0
  hb : ∀ b l ns, β.bg = some (b, l, ns) → A b
  hA : ∀ a, A a → H0 a ≠ none
  h0 : ∀ a ∈ α0, H0 a ≠ none
  ht : β.tb = tabsOf K
  hc : ∀ a, A a → ∃ o, H0 a = some o ∧ Nco o
/-- what a variable holds: nothing; a datum; an object of the def's own that is still written -/
inductive Sl where
  | un | va (d : D) | ow (d : D)
abbrev Env := List Sl
abbrev OwS := Nat → Option Addr
variable {Z : ZP} {K : PySem.W.Frag} {mg : Str → Option Value} {E : XK}
def Cy.hd (C : Cy Z K mg E) (α : List Addr) (ow : OwS) : Addr → Prop := fun a => C.A a ∨ a ∈ α ∨ ∃ i, ow i = some a
def ow0 : OwS := fun _ => none
/-- a datum that leans on nothing that is written -/
def Rv (C : Cy Z K mg E) (α : List Addr) (ow : OwS) (H : Hp) (v : V) (d : D) : Prop := Rp Z K mg C.β α (hid (C.hd α ow) H) v d
abbrev RvAll (C : Cy Z K mg E) (α : List Addr) (ow : OwS) (H : Hp) (vs : List V) (ds : List D) : Prop := RpAll Z K mg C.β α (hid (C.hd α ow) H) vs ds
/-- an own object, of things that lean on nothing of B -/
inductive OwB (Z : ZP) (K : PySem.W.Frag) (mg : Str → Option Value) (β : BG) (α : List Addr) (B : Addr → Prop) (H : Hp) (a : Addr) : D → Prop
  | lst {xs : List V} {ds : List D} : H a = some (.lst xs) → xs.length ≤ sizeLine → RpAll Z K mg β α (hid B H) xs ds → OwB Z K mg β α B H a (.lst ds)
  | dK {kvs : List (Key × V)} {ds : List D} : H a = some (.dK kvs) → kvs.length ≤ sizeLine → KsL kvs → RpAll Z K mg β α (hid B H) (kvs.map (·.2)) ds → OwB Z K mg β α B H a (.dic (kvs.map fun p => kD p.1) ds)
  | dN {kvs : DNs} {ks ds : List D} : H a = some (DNO Z.p Z.w a kvs) → kvs.length ≤ sizeLine → RpAll Z K mg β α (hid B H) (dnKs kvs) ks → KsOk kvs ks → RpAll Z K mg β α (hid B H) (dnVs kvs) ds → OwB Z K mg β α B H a (.dic ks ds)
  /-- an own set of ints and texts: told as the pair of its things -/
  | st {S : Key → Bool} {n : Nat} {κs : List Key} : H a = some (SetK Z.p Z.w a S n) → (∀ k, S k = κs.any fun k' => decide (k' = k)) → n ≤ κs.length → OwB Z K mg β α B H a (.pr [.lst (κs.map kD)])
def Ow (C : Cy Z K mg E) (α : List Addr) (ow : OwS) (H : Hp) (a : Addr) (d : D) : Prop := OwB Z K mg C.β α (C.hd α ow) H a d
/-- an object that changes -/
inductive ObOk (Z : ZP) (K : PySem.W.Frag) (mg : Str → Option Value) (β : BG) (α : List Addr) (B : Addr → Prop) (H : Hp) (a : Addr) : Ob → Prop
  | lst {xs : List V} {ds : List D} : H a = some (.lst xs) → xs.length ≤ sizeLine → RpAll Z K mg β α (hid B H) xs ds → ObOk Z K mg β α B H a (.lst ds)
  | dK {kvs : List (Key × V)} {ds : List D} : H a = some (.dK kvs) → kvs.length ≤ sizeLine → KsL kvs → RpAll Z K mg β α (hid B H) (kvs.map (·.2)) ds → ObOk Z K mg β α B H a (.dic (kvs.map fun p => kD p.1) ds)
  | dN {kvs : DNs} {ks ds : List D} : H a = some (DNO Z.p Z.w a kvs) → kvs.length ≤ sizeLine → RpAll Z K mg β α (hid B H) (dnKs kvs) ks → KsOk kvs ks → RpAll Z K mg β α (hid B H) (dnVs kvs) ds → ObOk Z K mg β α B H a (.dic ks ds)
  | ins {C dx : Addr} {c : Str} {fs : List (Str × V)} {gs : List (Str × D)} : mg c = some (.ref C) → H a = some (.ins C dx fs) → fs.map (·.1) = gs.map (·.1) → RpAll Z K mg β α (hid B H) (fs.map (·.2)) (gs.map (·.2)) → ObOk Z K mg β α B H a (.ins c gs)
theorem OwB.mono {β : BG} {α α' : List Addr} {B B' : Addr → Prop} {H H' : Hp} {a : Addr} {d : D} (p : α <+: α') (s : Same (hid B H) (hid B' H')) (h : ∀ o, H a = some o → Ntb o → H' a = some o) (r : OwB Z K mg β α B H a d) : OwB Z K mg β α' B' H' a d := by
  cases r with
  | lst h1 h2 h3 => exact .lst (h _ h1 (by intro _ z; cases z)) h2 (h3.mono p s)
  | dK h1 h2 hl h3 => exact .dK (h _ h1 (by intro _ z; cases z)) h2 hl (h3.mono p s)
  | dN h1 h2 h3 h4 h5 => exact .dN (h _ h1 (by intro _ z; cases z)) h2 (h3.mono p s) h4 (h5.mono p s)
  | st h1 h2 h3 => exact .st (h _ h1 (by intro _ z; cases z)) h2 h3
theorem ObOk.mono {β : BG} {α α' : List Addr} {B B' : Addr → Prop} {H H' : Hp} {a : Addr} {o : Ob} (p : α <+: α') (s : Same (hid B H) (hid B' H')) (h : ∀ o, H a = some o → Ntb o → H' a = some o) (r : ObOk Z K mg β α B H a o) : ObOk Z K mg β α' B' H' a o := by
  cases r with
  | lst h1 h2 h3 => exact .lst (h _ h1 (by intro _ z; cases z)) h2 (h3.mono p s)
  | dK h1 h2 hl h3 => exact .dK (h _ h1 (by intro _ z; cases z)) h2 hl (h3.mono p s)
  | dN h1 h2 h3 h4 h5 => exact .dN (h _ h1 (by intro _ z; cases z)) h2 (h3.mono p s) h4 (h5.mono p s)
  | ins c h1 n h3 => exact .ins c (h _ h1 (by intro _ z; cases z)) n (h3.mono p s)
theorem OwB.here {β : BG} {α : List Addr} {B : Addr → Prop} {H : Hp} {a : Addr} {d : D} (r : OwB Z K mg β α B H a d) : H a ≠ none := by
  cases r with
  | lst h _ _ => rw [h]; simp
  | dK h _ _ _ => rw [h]; simp
  | dN h _ _ _ _ => rw [h]; simp
  | st h _ _ => rw [h]; simp
theorem OwB.tabs {β : BG} {α : List Addr} {B : Addr → Prop} {H : Hp} {a : Addr} {d : D} {T : List (Addr × Str)} {o : HO} (r : OwB Z K mg β α B H a d) (t : LamX.Tabs T H) : LamX.Tabs T (upd H a o) := by
  cases r with
  | lst h _ _ => exact tabs_lst t h
  | dK h _ _ _ => exact tabs_dK t h
  | dN h _ _ _ _ => exact tabs_dN t h
  | st h _ _ => exact tabs_st t h
theorem ObOk.tabs {β : BG} {α : List Addr} {B : Addr → Prop} {H : Hp} {a : Addr} {u : Ob} {T : List (Addr × Str)} {o : HO} (r : ObOk Z K mg β α B H a u) (t : LamX.Tabs T H) : LamX.Tabs T (upd H a o) := by
  cases r with
  | lst h _ _ => exact tabs_lst t h
  | dK h _ _ _ => exact tabs_dK t h
  | dN h _ _ _ _ => exact tabs_dN t h
  | ins _ h _ _ => exact tabs_wr t h (by intro _ z; cases z) ncIns
theorem ObOk.here {β : BG} {α : List Addr} {B : Addr → Prop} {H : Hp} {a : Addr} {o : Ob} (r : ObOk Z K mg β α B H a o) : H a ≠ none := by
  cases r with
  | lst h _ _ => rw [h]; simp
  | dK h _ _ _ => rw [h]; simp
  | dN h _ _ _ _ => rw [h]; simp
  | ins _ h _ _ => rw [h]; simp
structure StOk (C : Cy Z K mg E) (α : List Addr) (ow : OwS) (H : Hp) (S : Sto) : Prop where
  len : α.length = S.length
  nd : α.Nodup
  nA : ∀ a ∈ α, ¬ C.A a
  nL : ∀ a ∈ α, ∀ b l ns, C.β.bg = some (b, l, ns) → a ≠ l
  no : ∀ i a, ow i = some a → a ∉ α
  ob : ∀ (i : Nat) (a : Addr) (o : Ob), α[i]? = some a → S[i]? = some o → ObOk Z K mg C.β α (C.hd α ow) H a o
/-- a slot -/
inductive SlOk (C : Cy Z K mg E) (α : List Addr) (ow : OwS) (H : Hp) : Option Addr → Option (Option V) → Option Sl → Prop
  | out : SlOk C α ow H none none none
  | un {s : Option V} : SlOk C α ow H none (some s) (some .un)
  | va {v : V} {d : D} : Rv C α ow H v d → SlOk C α ow H none (some (some v)) (some (.va d))
  | ow {a : Addr} {d : D} : Ow C α ow H a d → SlOk C α ow H (some a) (some (some (.ref a))) (some (.ow d))
structure Ev (C : Cy Z K mg E) (α : List Addr) (ow : OwS) (σ : L2.St) (ρ : Env) (H : Hp) (S : Sto) : Prop where
  sl : ∀ i, SlOk C α ow H (ow i) σ[i]? ρ[i]?
  inj : ∀ i j a, ow i = some a → ow j = some a → i = j
  nA : ∀ i a, ow i = some a → ¬ C.A a
  fr : Fr C.β C.α0 C.H0 α H
  st : StOk C α ow H S
/-- a step: what may change, and the objects behind it -/
structure Go (C : Cy Z K mg E) (ow : OwS) (α : List Addr) (H : Hp) (α' : List Addr) (H' : Hp) (S' : Sto) : Prop where
  fr : Fr C.β α H α' H'
  st : StOk C α' ow H' S'
section
variable {C : Cy Z K mg E} {α α' α1 : List Addr} {ow : OwS} {σ : L2.St} {ρ : Env} {H H' H1 : Hp} {S S' S1 : Sto} {v : V} {d : D}
theorem Cy.noBg (C : Cy Z K mg E) {a : Addr} (h : ¬ C.A a) : NoBg C.β a := fun b l ns q z => h (by rw [z]; exact C.hb b l ns q)
theorem hid_fr (f : Fr C.β α H α' H') : Same (hid (C.hd α ow) H) (hid (C.hd α' ow) H') := fun a o e => by
  obtain ⟨h1, h2⟩ := hid_some e
  refine hid_get ?_ (f.keep a o (C.noBg fun z => h1 (.inl z)) (fun z => h1 (.inr (.inl z))) h2 (hid_nt e)) (hid_nt e)
  · rintro (z | z | z)
    · exact h1 (.inl z)
    · rcases f.new a z with z | z
      · exact h1 (.inr (.inl z))
      · rw [h2] at z; cases z
    · exact h1 (.inr (.inr z))
theorem Rv.fr (f : Fr C.β α H α' H') (h : Rv C α ow H v d) : Rv C α' ow H' v d := Rp.mono f.pre (hid_fr f) h
theorem RvAll.fr {vs : List V} {ds : List D} (f : Fr C.β α H α' H') (h : RvAll C α ow H vs ds) : RvAll C α' ow H' vs ds := RpAll.mono f.pre (hid_fr f) h
theorem Rv.go (f : Go C ow α H α' H' S') (h : Rv C α ow H v d) : Rv C α' ow H' v d := h.fr f.fr
theorem Ev.get (e : Ev C α ow σ ρ H S) (f : Fr C.β α H α' H') {i : Nat} {a : Addr} {o : HO} (hi : ow i = some a) (ho : H a = some o) (nt : Ntb o) : H' a = some o :=
  f.keep a o (C.noBg (e.nA i a hi)) (e.st.no i a hi) ho nt
theorem Ow.fr {a : Addr} {i : Nat} (e : Ev C α ow σ ρ H S) (f : Fr C.β α H α' H') (hi : ow i = some a) (h : Ow C α ow H a d) : Ow C α' ow H' a d :=
  OwB.mono f.pre (hid_fr f) (fun _ ho nt => e.get f hi ho nt) h
theorem Ev.step (e : Ev C α ow σ ρ H S) (g : Go C ow α H α' H' S') : Ev C α' ow σ ρ H' S' := by
  refine ⟨fun i => ?_, e.inj, e.nA, e.fr.trans g.fr, g.st⟩
  have h := e.sl i
  generalize hw : ow i = wi at h ⊢
  generalize σ[i]? = s at h ⊢
  generalize ρ[i]? = r at h ⊢
  cases h with
  | out => exact .out
  | un => exact .un
  | va h => exact .va (h.fr g.fr)
  | ow h => exact .ow (h.fr e g.fr hw)
theorem Ev.bg (e : Ev C α ow σ ρ H S) : BgOk C.β H := e.fr.bag
theorem Ev.owTabs (e : Ev C α ow σ ρ H S) {i : Nat} {a : Addr} {o : HO} (hi : ow i = some a) : LamX.Tabs C.β.tb (upd H a o) := by
  have q := e.sl i
  rw [hi] at q
  generalize σ[i]? = s at q
  generalize ρ[i]? = r at q
  cases q with
  | ow q => exact q.tabs e.bg.tab
theorem Ev.go (e : Ev C α ow σ ρ H S) : Go C ow α H α H S := ⟨Fr.refl e.bg, e.st⟩
theorem Go.trans (f : Go C ow α H α1 H1 S1) (g : Go C ow α1 H1 α' H' S') : Go C ow α H α' H' S' := ⟨f.fr.trans g.fr, g.st⟩
theorem StOk.here (h : StOk C α ow H S) {a : Addr} (m : a ∈ α) : H a ≠ none := by
  obtain ⟨i, hi⟩ := List.mem_iff_getElem?.mp m
  have hl : i < S.length := by rw [← h.len]; exact (List.getElem?_eq_some_iff.mp hi).1
  exact (h.ob i a _ hi (List.getElem?_eq_getElem hl)).here
theorem StOk.same (h : StOk C α ow H S) (s : Same H H') : StOk C α ow H' S := ⟨h.len, h.nd, h.nA, h.nL, h.no, fun i a o h1 h2 => (h.ob i a o h1 h2).mono (List.prefix_refl _) (hid_step s) fun _ q _ => s _ _ q⟩
theorem StOk.obTabs (h : StOk C α ow H S) (t : LamX.Tabs C.β.tb H) {i : Nat} {a : Addr} {o : HO} (hi : α[i]? = some a) : LamX.Tabs C.β.tb (upd H a o) := by
  have hl : i < S.length := by rw [← h.len]; exact (List.getElem?_eq_some_iff.mp hi).1
  exact (h.ob i a _ hi (List.getElem?_eq_getElem hl)).tabs t
/-- nothing that stood has changed -/
theorem Ev.sm (e : Ev C α ow σ ρ H S) (s : Same H H') : Go C ow α H α H' S := ⟨Fr.of e.bg s, e.st.same s⟩
theorem Ev.nw (e : Ev C α ow σ ρ H S) {p : Addr} {o : HO} (h : H p = none) : Go C ow α H α (upd H p o) S := e.sm (same_new h)
/-- what is hidden stands -/
theorem Ev.stands (e : Ev C α ow σ ρ H S) {a : Addr} (h : C.hd α ow a) : H a ≠ none := by
  rcases h with h | h | ⟨i, h⟩
  · exact e.fr.keepB (C.hA a h)
  · exact e.st.here h
  · have q := e.sl i
    rw [h] at q
    generalize σ[i]? = s at q
    generalize ρ[i]? = r at q
    cases q with
    | ow q => exact q.here
theorem nco_lst {xs : List V} : Nco (.lst xs) := ⟨(by intro _ z; cases z), ncLst⟩
theorem nco_dK {xs : List (Key × V)} : Nco (.dK xs) := ⟨(by intro _ z; cases z), ncDK⟩
theorem nco_ins {c dx : Addr} {xs : List (Str × V)} : Nco (.ins c dx xs) := ⟨(by intro _ z; cases z), ncIns⟩
theorem nco_dN {P : Program} {w : World} {a : Addr} {kvs : DNs} : Nco (DNO P w a kvs) := ⟨(by intro _ z; cases z), ncDN⟩
theorem nco_st {P : Program} {w : World} {a : Addr} {S : Key → Bool} {n : Nat} : Nco (SetK P w a S n) := ⟨(by intro _ z; cases z), ncSK⟩
theorem OwB.nc {β : BG} {α : List Addr} {B : Addr → Prop} {H : Hp} {a : Addr} {d : D} (r : OwB Z K mg β α B H a d) : ∃ o, H a = some o ∧ Nco o := by
  cases r with
  | lst h _ _ => exact ⟨_, h, nco_lst⟩
  | dK h _ _ _ => exact ⟨_, h, nco_dK⟩
  | dN h _ _ _ _ => exact ⟨_, h, nco_dN⟩
  | st h _ _ => exact ⟨_, h, nco_st⟩
theorem ObOk.nc {β : BG} {α : List Addr} {B : Addr → Prop} {H : Hp} {a : Addr} {o : Ob} (r : ObOk Z K mg β α B H a o) : ∃ o, H a = some o ∧ Nco o := by
  cases r with
  | lst h _ _ => exact ⟨_, h, nco_lst⟩
  | dK h _ _ _ => exact ⟨_, h, nco_dK⟩
  | dN h _ _ _ _ => exact ⟨_, h, nco_dN⟩
  | ins _ h _ _ => exact ⟨_, h, nco_ins⟩
theorem Ev.nc (e : Ev C α ow σ ρ H S) {a : Addr} (h : C.hd α ow a) : ∃ o, H a = some o ∧ Nco o := by
  rcases h with h | h | ⟨i, h⟩
  · obtain ⟨o, h1, h2⟩ := C.hc a h
    by_cases hb : NoBg C.β a
    · exact ⟨o, e.fr.keep a o hb (fun m => e.st.nA a (e.fr.pre.subset m) h) h1 h2.1, h2⟩
    · have hb : ∃ b l ns, C.β.bg = some (b, l, ns) ∧ a = b := Classical.byContradiction fun z => hb fun b l ns q y => z ⟨b, l, ns, q, y⟩
      obtain ⟨b, l, ns, q, rfl⟩ := hb
      obtain ⟨_, _, _, _, q2, _⟩ := e.fr.bag.bag _ _ _ q
      exact ⟨_, q2, nco_lst⟩
  · obtain ⟨i, hi⟩ := List.mem_iff_getElem?.mp h
    have hl : i < S.length := by rw [← e.st.len]; exact (List.getElem?_eq_some_iff.mp hi).1
    exact (e.st.ob i a _ hi (List.getElem?_eq_getElem hl)).nc
  · have q := e.sl i
    rw [h] at q
    generalize σ[i]? = s at q
    generalize ρ[i]? = r at q
    cases q with
    | ow q => exact q.nc
theorem Ev.seen (e : Ev C α ow σ ρ H S) {p : Addr} (h : H p = none) : ¬ C.hd α ow p := fun z => e.stands z h
/-! read, not kept -/
def Ob.dat : Ob → Option D
  | .lst ds => some (.lst ds)
  | .dic ks ds => some (.dic ks ds)
  | .ins _ _ => none
def Sto.rs (S : Sto) : D → D
  | .ob i => match S[i]? with
    | some (.lst ds) => .lst ds
    | some (.dic ks ds) => .dic ks ds
    | _ => .ob i
  | d => d
/-- a datum, or an own object, or what an object is -/
def Sh (C : Cy Z K mg E) (α : List Addr) (ow : OwS) (H : Hp) (v : V) (d : D) : Prop := Rv C α ow H v d ∨ (∃ i a, ow i = some a ∧ v = .ref a ∧ Ow C α ow H a d) ∨ (∃ a ∈ α, v = .ref a ∧ Ow C α ow H a d)
/-- .. before it is looked up -/
def Su (C : Cy Z K mg E) (α : List Addr) (ow : OwS) (H : Hp) (v : V) (d : D) : Prop := Rv C α ow H v d ∨ (∃ i a, ow i = some a ∧ v = .ref a ∧ Ow C α ow H a d)
theorem ObOk.own {β : BG} {B : Addr → Prop} {a : Addr} {o : Ob} (h : ObOk Z K mg β α B H a o) (e : o.dat = some d) : OwB Z K mg β α B H a d := by
  cases h with
  | lst h1 h2 h3 => cases e; exact .lst h1 h2 h3
  | dK h1 h2 hl h3 => cases e; exact .dK h1 h2 hl h3
  | dN h1 h2 h3 h4 h5 => cases e; exact .dN h1 h2 h3 h4 h5
  | ins _ _ _ _ => cases e
theorem Su.rs (h : Su C α ow H v d) (st : StOk C α ow H S) : Sh C α ow H v (S.rs d) := by
  rcases h with h | ⟨i, a, h1, rfl, h2⟩
  · unfold Sto.rs
    split
    · rename_i i
      obtain ⟨a, rfl, hi⟩ := h.obI
      split
      · exact .inr (.inr ⟨a, List.mem_of_getElem? hi, rfl, (st.ob i a _ hi ‹_›).own rfl⟩)
      · exact .inr (.inr ⟨a, List.mem_of_getElem? hi, rfl, (st.ob i a _ hi ‹_›).own rfl⟩)
      · exact .inl h
    · exact .inl h
  · refine .inr (.inl ⟨i, a, h1, rfl, ?_⟩)
    have : S.rs d = d := by cases h2 <;> rfl
    rw [this]; exact h2
theorem Su.go (e : Ev C α ow σ ρ H S) (g : Go C ow α H α' H' S') (h : Su C α ow H v d) : Su C α' ow H' v d := by
  rcases h with h | ⟨i, a, h1, h2, h3⟩
  · exact .inl (h.go g)
  · exact .inr ⟨i, a, h1, h2, h3.fr e g.fr h1⟩
theorem Sh.intI {i : Int} (h : Sh C α ow H v (.int i)) : v = .int i := by
  rcases h with h | ⟨_, _, _, _, h⟩ | ⟨_, _, _, h⟩
  · exact h.intI
  · cases h
  · cases h
theorem Sh.strI {z : Str} (h : Sh C α ow H v (.str z)) : v = .str z ∧ z.length ≤ sizeLine := by
  rcases h with h | ⟨_, _, _, _, h⟩ | ⟨_, _, _, h⟩
  · exact h.strI
  · cases h
  · cases h
theorem Sh.blI {b : Bool} (h : Sh C α ow H v (.bl b)) : v = .bl b := by
  rcases h with h | ⟨_, _, _, _, h⟩ | ⟨_, _, _, h⟩
  · exact h.blI
  · cases h
  · cases h
theorem Sh.nonI (h : Sh C α ow H v .non) : v = .non := by
  rcases h with h | ⟨_, _, _, _, h⟩ | ⟨_, _, _, h⟩
  · exact h.nonI
  · cases h
  · cases h
theorem Sh.rawI {x : V} (h : Sh C α ow H v (.raw x)) : v = x := by
  rcases h with h | ⟨_, _, _, _, h⟩ | ⟨_, _, _, h⟩
  · exact Rp.rawI h
  · cases h
  · cases h
theorem Sh.tupI' {ds : List D} (h : Sh C α ow H v (.tup ds)) : Rv C α ow H v (.tup ds) := by
  rcases h with h | ⟨_, _, _, _, h⟩ | ⟨_, _, _, h⟩
  · exact h
  · cases h
  · cases h
theorem Sh.tupI {ds : List D} (h : Sh C α ow H v (.tup ds)) : ∃ a xs, v = .ref a ∧ SqT K H a xs ∧ xs.length ≤ sizeLine ∧ RvAll C α ow H xs ds := by
  obtain ⟨a, xs, h1, h2, h3, h4⟩ := h.tupI'.tupI
  exact ⟨a, xs, h1, Same.tup hid_same h2, h3, h4⟩
theorem Sh.lstI {ds : List D} (h : Sh C α ow H v (.lst ds)) : ∃ a xs, v = .ref a ∧ H a = some (.lst xs) ∧ xs.length ≤ sizeLine ∧ RvAll C α ow H xs ds := by
  rcases h with h | ⟨i, a, _, rfl, h⟩ | ⟨a, _, rfl, h⟩
  · obtain ⟨a, xs, h1, h2, h3, h4⟩ := h.lstI
    exact ⟨a, xs, h1, hid_same _ _ h2, h3, h4⟩
  · cases h with
    | lst h1 h2 h3 => exact ⟨a, _, rfl, h1, h2, h3⟩
  · cases h with
    | lst h1 h2 h3 => exact ⟨a, _, rfl, h1, h2, h3⟩
end
end Nc

namespace Nc
open PySem PySem.Spec PyProof.Rows L2
/-! ## expressions, on data -/
abbrev ME := Env → M D
abbrev MA := Env → M (List D)
abbrev MT := Env → M Bool
section
variable {Z : ZP} {K : PySem.W.Frag} {mg : Str → Option Value} {E : XK}
def ExR (C : Cy Z K mg E) (α : List Addr) (e : Ex) (u : Value) (dx : Option Addr) (H : Hp) : Prop :=
  mg e.cls = some u ∧ ∃ d fs, dx = some d ∧ H d = some (.xd fs) ∧ fs.map (·.1) = e.fs.map (·.1) ∧ RvAll C α ow0 H (fs.map (·.2)) (e.fs.map (·.2))
def XOk (C : Cy Z K mg E) (X : Ex → Sto → Prop) : Prop := ∀ e u dx α H S, X e S → Go C ow0 C.α0 C.H0 α H S → ExR C α e u dx H → E u dx H
end
def DE (Z : ZP) (K : PySem.W.Frag) (mg : Str → Option Value) (E : XK) (t : TE) (m : ME) : Prop := ∀ (C : Cy Z K mg E) (α : List Addr) (ow : OwS) (σ : L2.St) (ρ : Env) (H : Hp) (S : Sto) (P : D → Sto → Prop) (X : Ex → Sto → Prop) (Q : VK),
  Ev C α ow σ ρ H S → m ρ S P X → XOk C X → (∀ d v α' H' S', P d S' → Go C ow α H α' H' S' → Rv C α' ow H' v d → Q v H') → t σ H Q
/-- .. whose value is but read -/
def DQ (Z : ZP) (K : PySem.W.Frag) (mg : Str → Option Value) (E : XK) (t : TE) (m : ME) : Prop := ∀ (C : Cy Z K mg E) (α : List Addr) (ow : OwS) (σ : L2.St) (ρ : Env) (H : Hp) (S : Sto) (P : D → Sto → Prop) (X : Ex → Sto → Prop) (Q : VK),
  Ev C α ow σ ρ H S → m ρ S P X → XOk C X → (∀ d v α' H' S', P d S' → Go C ow α H α' H' S' → Su C α' ow H' v d → Q v H') → t σ H Q
def DA (Z : ZP) (K : PySem.W.Frag) (mg : Str → Option Value) (E : XK) (t : TA) (m : MA) : Prop := ∀ (C : Cy Z K mg E) (α : List Addr) (ow : OwS) (σ : L2.St) (ρ : Env) (H : Hp) (S : Sto) (P : List D → Sto → Prop) (X : Ex → Sto → Prop) (Q : List V → Hp → Prop),
  Ev C α ow σ ρ H S → m ρ S P X → XOk C X → (∀ ds vs α' H' S', P ds S' → Go C ow α H α' H' S' → RvAll C α' ow H' vs ds → Q vs H') → t σ H Q
inductive ShAll {Z : ZP} {K : PySem.W.Frag} {mg : Str → Option Value} {E : XK} (C : Cy Z K mg E) (α : List Addr) (ow : OwS) (H : Hp) : List V → List D → Prop
  | nil : ShAll C α ow H [] []
  | cons {v : V} {vs : List V} {d : D} {ds : List D} : Sh C α ow H v d → ShAll C α ow H vs ds → ShAll C α ow H (v :: vs) (d :: ds)
inductive SuAll {Z : ZP} {K : PySem.W.Frag} {mg : Str → Option Value} {E : XK} (C : Cy Z K mg E) (α : List Addr) (ow : OwS) (H : Hp) : List V → List D → Prop
  | nil : SuAll C α ow H [] []
  | cons {v : V} {vs : List V} {d : D} {ds : List D} : Su C α ow H v d → SuAll C α ow H vs ds → SuAll C α ow H (v :: vs) (d :: ds)
def DB (Z : ZP) (K : PySem.W.Frag) (mg : Str → Option Value) (E : XK) (t : TA) (m : MA) : Prop := ∀ (C : Cy Z K mg E) (α : List Addr) (ow : OwS) (σ : L2.St) (ρ : Env) (H : Hp) (S : Sto) (P : List D → Sto → Prop) (X : Ex → Sto → Prop) (Q : List V → Hp → Prop),
  Ev C α ow σ ρ H S → m ρ S P X → XOk C X → (∀ ds vs α' H' S', P ds S' → Go C ow α H α' H' S' → SuAll C α' ow H' vs ds → Q vs H') → t σ H Q
def DT (Z : ZP) (K : PySem.W.Frag) (mg : Str → Option Value) (E : XK) (t : TT) (m : MT) : Prop := ∀ (C : Cy Z K mg E) (α : List Addr) (ow : OwS) (σ : L2.St) (ρ : Env) (H : Hp) (S : Sto) (P : Bool → Sto → Prop) (X : Ex → Sto → Prop) (Q : Bool → Hp → Prop),
  Ev C α ow σ ρ H S → m ρ S P X → XOk C X → (∀ b α' H' S', P b S' → Go C ow α H α' H' S' → Q b H') → t σ H Q
section
variable {Z : ZP} {K : PySem.W.Frag} {mg : Str → Option Value} {E : XK} {C : Cy Z K mg E} {α α' : List Addr} {ow : OwS} {σ : L2.St} {ρ : Env} {H H' : Hp} {S S' : Sto}
theorem SuAll.go {vs : List V} {ds : List D} (e : Ev C α ow σ ρ H S) (g : Go C ow α H α' H' S') (h : SuAll C α ow H vs ds) : SuAll C α' ow H' vs ds := by
  induction h with
  | nil => exact .nil
  | cons h _ ih => exact .cons (h.go e g) ih
theorem SuAll.rs {vs : List V} {ds : List D} (h : SuAll C α ow H vs ds) (st : StOk C α ow H S) : ShAll C α ow H vs (ds.map S.rs) := by
  induction h with
  | nil => exact .nil
  | cons h _ ih => exact .cons (h.rs st) ih
variable {ta tb tc : TE} {ma mb mc : ME} {r : R2}
theorem DE.q (h : DE Z K mg E ta ma) : DQ Z K mg E ta ma := fun C α ow σ ρ H S P X Q e hm hx k => h C α ow σ ρ H S P X Q e hm hx fun d v α' H' S' p g r => k d v α' H' S' p g (.inl r)
/-! constants, variables -/
def mC (d : D) : ME := fun _ S P _ => P d S
theorem de_c {v : V} {d : D} (h : ∀ mg β α H, Rp Z K mg β α H v d) : DE Z K mg E (tC v) (mC d) := fun C α ow σ ρ H S P X Q e hm hx k => k d v α H S hm e.go (h _ _ _ _)
theorem de_int {i : Int} : DE Z K mg E (tC (.int i)) (mC (.int i)) := de_c fun _ _ _ _ => .int i
theorem de_bl {b : Bool} : DE Z K mg E (tC (.bl b)) (mC (.bl b)) := de_c fun _ _ _ _ => .bl b
theorem de_non : DE Z K mg E (tC .non) (mC .non) := de_c fun _ _ _ _ => .non
theorem de_str {z : Str} (h : z.length ≤ sizeLine := by decide +kernel) : DE Z K mg E (tC (.str z)) (mC (.str z)) := de_c fun _ _ _ _ => .str h
theorem de_raw {v : V} : DE Z K mg E (tC v) (mC (.raw v)) := de_c fun _ _ _ _ => .raw v
def mVar (i : Nat) : ME := fun ρ S P _ => match ρ[i]? with
  | some (.va d) => P d S
  | _ => False
def mVarQ (i : Nat) : ME := fun ρ S P _ => match ρ[i]? with
  | some (.va d) => P d S
  | some (.ow d) => P d S
  | _ => False
theorem de_var {i : Nat} : DE Z K mg E (tVar i) (mVar i) := fun C α ow σ ρ H S P X Q e hm hx k => by
  have h := e.sl i
  unfold mVar at hm
  unfold tVar
  generalize ow i = wi at h
  generalize σ[i]? = s at h ⊢
  generalize ρ[i]? = p at h hm
  cases h with
  | va h => exact ⟨_, rfl, k _ _ α H S hm e.go h⟩
  | _ => exact hm.elim
theorem dq_var {i : Nat} : DQ Z K mg E (tVar i) (mVarQ i) := fun C α ow σ ρ H S P X Q e hm hx k => by
  have h := e.sl i
  unfold mVarQ at hm
  unfold tVar
  generalize hw : ow i = wi at h
  generalize σ[i]? = s at h ⊢
  generalize ρ[i]? = p at h hm
  cases h with
  | va h => exact ⟨_, rfl, k _ _ α H S hm e.go (.inl h)⟩
  | ow h => exact ⟨_, rfl, k _ _ α H S hm e.go (.inr ⟨i, _, hw, rfl, h⟩)⟩
  | _ => exact hm.elim
/-! operations -/
def OpD (Z : ZP) (K : PySem.W.Frag) (r : R2) (f : D → D → (D → Prop) → Prop) : Prop := ∀ (mg : Str → Option Value) (E : XK) (C : Cy Z K mg E) (α : List Addr) (ow : OwS) (σ : L2.St) (ρ : Env) (H : Hp) (S : Sto) (x y : V) (a b : D) (P : D → Prop) (Q : VK),
  Ev C α ow σ ρ H S → Sh C α ow H x a → Sh C α ow H y b → f a b P → (∀ d v H', P d → Go C ow α H α H' S → Rv C α ow H' v d → Q v H') → r x y H Q
def mOp (f : D → D → (D → Prop) → Prop) (ma mb : ME) : ME := fun ρ S P X => ma ρ S (fun a S1 => mb ρ S1 (fun b S2 => f (S2.rs a) (S2.rs b) fun d => P d S2) X) X
theorem de_op {f : D → D → (D → Prop) → Prop} (hr : OpD Z K r f) (ha : DQ Z K mg E ta ma) (hb : DQ Z K mg E tb mb) : DE Z K mg E (tOp r ta tb) (mOp f ma mb) := fun C α ow σ ρ H S P X Q e hm hx k =>
  ha C α ow σ ρ H S _ X _ e hm hx fun a x α1 H1 S1 hm1 g1 s1 => hb C α1 ow σ ρ H1 S1 _ X _ (e.step g1) hm1 hx fun b y α2 H2 S2 hm2 g2 s2 =>
    hr mg E C α2 ow σ ρ H2 S2 x y _ _ _ Q ((e.step g1).step g2) ((s1.go (e.step g1) g2).rs g2.st) (s2.rs g2.st) hm2 fun d v H3 p g3 r3 => k d v α2 H3 S2 p ((g1.trans g2).trans g3) r3
theorem OpD.or {r r' : R2} {f g : D → D → (D → Prop) → Prop} (h : OpD Z K r f) (h' : OpD Z K r' g) : OpD Z K (fun x y H Q => r x y H Q ∨ r' x y H Q) (fun a b P => f a b P ∨ g a b P) := fun mg E C α ow σ ρ H S x y a b P Q e sa sb hm k =>
  hm.elim (fun hm => .inl (h mg E C α ow σ ρ H S x y a b P Q e sa sb hm k)) fun hm => .inr (h' mg E C α ow σ ρ H S x y a b P Q e sa sb hm k)
theorem OpD.imp {r : R2} {f g : D → D → (D → Prop) → Prop} (h : OpD Z K r f) (hi : ∀ a b P, g a b P → f a b P) : OpD Z K r g := fun mg E C α ow σ ρ H S x y a b P Q e sa sb hm k => h mg E C α ow σ ρ H S x y a b P Q e sa sb (hi _ _ _ hm) k
def fI (c : Int → Int → Prop) (g : Int → Int → D) : D → D → (D → Prop) → Prop
  | .int i, .int j, P => c i j ∧ P (g i j)
  | _, _, _ => False
theorem od_I {c : Int → Int → Prop} {g : Int → Int → D} {gv : Int → Int → V} (h : ∀ i j mg β α H, Rp Z K mg β α H (gv i j) (g i j)) : OpD Z K (rI c gv) (fI c g) := fun mg E C α ow σ ρ H S x y a b P Q e sa sb hm k => by
  unfold fI at hm
  split at hm
  · exact ⟨_, _, sa.intI, sb.intI, hm.1, k _ _ H hm.2 e.go (h _ _ _ _ _ _)⟩
  · exact hm.elim
def fI0 (g : Int → Int → D) : D → D → (D → Prop) → Prop
  | .int i, .int j, P => P (g i j)
  | _, _, _ => False
theorem od_I0 {g : Int → Int → D} {gv : Int → Int → V} (h : ∀ i j mg β α H, Rp Z K mg β α H (gv i j) (g i j)) : OpD Z K (rI0 gv) (fI0 g) := fun mg E C α ow σ ρ H S x y a b P Q e sa sb hm k => by
  unfold fI0 at hm
  split at hm
  · exact ⟨_, _, sa.intI, sb.intI, k _ _ H hm e.go (h _ _ _ _ _ _)⟩
  · exact hm.elim
/-! new objects -/
theorem rv_tup {vs : List V} {ds : List D} {p : Addr} {o : Obj} (e : Ev C α ow σ ρ H S) (h : H p = none) (hd : o.dict = none) (hz : vs.length ≤ sizeLine) (r : RvAll C α ow H vs ds) : Rv C α ow (upd H p (.frz o (.tup vs))) (.ref p) (.tup ds) := by
  have hp := e.seen h
  have hq : hid (C.hd α ow) (upd H p (.frz o (.tup vs))) p = some (.frz o (.tup vs)) := hid_get hp upd_same
  exact .tup (.inl (.inr ⟨o, hq⟩)) (.inl ⟨o, vs, hq, hd⟩) hz (RpAll.same (hid_step (same_new h)) r)
theorem rv_lst {vs : List V} {ds : List D} {p : Addr} (e : Ev C α ow σ ρ H S) (h : H p = none) (hz : vs.length ≤ sizeLine) (r : RvAll C α ow H vs ds) : Rv C α ow (upd H p (.lst vs)) (.ref p) (.lst ds) := by
  have hp := e.seen h
  exact .lst (hid_get hp upd_same) hz (RpAll.same (hid_step (same_new h)) r)
variable {tr : TA} {mr : MA}
def mNil : MA := fun _ S P _ => P [] S
def mCons (ma : ME) (mr : MA) : MA := fun ρ S P X => ma ρ S (fun d S1 => mr ρ S1 (fun ds S2 => P (d :: ds) S2) X) X
theorem da_nil : DA Z K mg E tNil mNil := fun C α ow σ ρ H S P X Q e hm hx k => k _ _ α H S hm e.go .nil
theorem da_cons (ha : DE Z K mg E ta ma) (hr : DA Z K mg E tr mr) : DA Z K mg E (tCons ta tr) (mCons ma mr) := fun C α ow σ ρ H S P X Q e hm hx k =>
  ha C α ow σ ρ H S _ X _ e hm hx fun a x α1 H1 S1 hm1 g1 s1 => hr C α1 ow σ ρ H1 S1 _ X _ (e.step g1) hm1 hx fun ds vs α2 H2 S2 hm2 g2 s2 => k _ _ α2 H2 S2 hm2 (g1.trans g2) (.cons (s1.go g2) s2)
theorem db_nil : DB Z K mg E tNil mNil := fun C α ow σ ρ H S P X Q e hm hx k => k _ _ α H S hm e.go .nil
theorem db_cons (ha : DQ Z K mg E ta ma) (hr : DB Z K mg E tr mr) : DB Z K mg E (tCons ta tr) (mCons ma mr) := fun C α ow σ ρ H S P X Q e hm hx k =>
  ha C α ow σ ρ H S _ X _ e hm hx fun a x α1 H1 S1 hm1 g1 s1 => hr C α1 ow σ ρ H1 S1 _ X _ (e.step g1) hm1 hx fun ds vs α2 H2 S2 hm2 g2 s2 => k _ _ α2 H2 S2 hm2 (g1.trans g2) (.cons (s1.go (e.step g1) g2) s2)
def mTup (mr : MA) : ME := fun ρ S P X => mr ρ S (fun ds S1 => ds.length ≤ sizeLine ∧ P (.tup ds) S1) X
def mLst (mr : MA) : ME := fun ρ S P X => mr ρ S (fun ds S1 => ds.length ≤ sizeLine ∧ P (.lst ds) S1) X
theorem de_tup (h : DA Z K mg E tr mr) : DE Z K mg E (tTupF tr) (mTup mr) := fun C α ow σ ρ H S P X Q e hm hx k =>
  h C α ow σ ρ H S _ X _ e hm hx fun ds vs α1 H1 S1 hm1 g1 r1 => ⟨by rw [r1.len]; exact hm1.1, fun p o hp hd => k _ _ _ _ _ hm1.2 (g1.trans ((e.step g1).nw hp)) (rv_tup (e.step g1) hp hd (by rw [r1.len]; exact hm1.1) r1)⟩
theorem de_lst (h : DA Z K mg E tr mr) : DE Z K mg E (tLst tr) (mLst mr) := fun C α ow σ ρ H S P X Q e hm hx k =>
  h C α ow σ ρ H S _ X _ e hm hx fun ds vs α1 H1 S1 hm1 g1 r1 => ⟨by rw [r1.len]; exact hm1.1, fun p hp => k _ _ _ _ _ hm1.2 (g1.trans ((e.step g1).nw hp)) (rv_lst (e.step g1) hp (by rw [r1.len]; exact hm1.1) r1)⟩
/-! calls of defs -/
/-- a def means m -/
def spD (Z : ZP) (K : PySem.W.Frag) (mg : Str → Option Value) (m : List D → M D) : Sp := fun vs H Q E => ∃ (C : Cy Z K mg E) (ds : List D) (S : Sto) (P : D → Sto → Prop) (X : Ex → Sto → Prop), C.H0 = H ∧ StOk C C.α0 ow0 H S ∧ RvAll C C.α0 ow0 H vs ds ∧ m ds S P X ∧ XOk C X ∧
  ∀ d v α' H' S', P d S' → Go C ow0 C.α0 H α' H' S' → Rv C α' ow0 H' v d → Q v H'
/-- a new object, leant on by nothing -/
structure Nu (Z : ZP) (K : PySem.W.Frag) (mg : Str → Option Value) (β : BG) (A : Addr → Prop) (α : List Addr) (H : Hp) (S : Sto) (p : Addr) (d : D) : Prop where
  np : p ∉ α
  ob : ∀ B : Addr → Prop, (∀ a, B a → A a ∨ a = p) → OwB Z K mg β α B H p d
  os : ∀ (i : Nat) (a : Addr) (o : Ob), α[i]? = some a → S[i]? = some o → ObOk Z K mg β α (fun a => A a ∨ a = p) H a o
def Ev.sub (e : Ev C α ow σ ρ H S) : Cy Z K mg E := ⟨C.β, fun a => C.A a ∨ ∃ i, ow i = some a, H, α, e.bg, fun b l ns q => .inl (C.hb b l ns q), fun a h => e.stands (h.elim .inl fun h => .inr (.inr h)), fun a h => e.stands (.inr (.inl h)), C.ht, fun a h => e.nc (h.elim .inl fun h => .inr (.inr h))⟩
theorem sub_hd (e : Ev C α ow σ ρ H S) {α' : List Addr} : e.sub.hd α' ow0 = C.hd α' ow := by
  funext a
  refine propext ⟨fun h => ?_, fun h => ?_⟩
  · rcases h with (h | h) | h | ⟨i, h⟩
    · exact .inl h
    · exact .inr (.inr h)
    · exact .inr (.inl h)
    · cases h
  · rcases h with h | h | h
    · exact .inl (.inl h)
    · exact .inr (.inl h)
    · exact .inl (.inr h)
theorem StOk.out (h : StOk C α ow H S) : StOk C α ow0 H S := ⟨h.len, h.nd, h.nA, h.nL, fun i a q => (by cases q), fun i a o h1 h2 => (h.ob i a o h1 h2).mono (List.prefix_refl _) (hid_mono fun a z => by
  rcases z with z | z | ⟨i, z⟩
  · exact .inl z
  · exact .inr (.inl z)
  · cases z) fun _ q _ => q⟩
theorem StOk.sub (e : Ev C α ow σ ρ H S) : StOk e.sub α ow0 H S := ⟨e.st.len, e.st.nd, fun a m z => z.elim (e.st.nA a m) fun ⟨i, z⟩ => e.st.no i a z m, e.st.nL, fun i a q => (by cases q), fun i a o h1 h2 => by rw [sub_hd]; exact e.st.ob i a o h1 h2⟩
theorem StOk.unsub (e : Ev C α ow σ ρ H S) {α' : List Addr} {H' : Hp} {S' : Sto} (h : StOk e.sub α' ow0 H' S') : StOk C α' ow H' S' := ⟨h.len, h.nd, fun a m z => h.nA a m (.inl z), h.nL, fun i a q m => h.nA a m (.inr ⟨i, q⟩), fun i a o h1 h2 => by
  have := h.ob i a o h1 h2
  rw [sub_hd] at this
  exact this⟩
theorem Go.unsub (e : Ev C α ow σ ρ H S) {α' : List Addr} {H' : Hp} {S' : Sto} (g : Go e.sub ow0 α H α' H' S') : Go C ow α H α' H' S' := ⟨g.fr, g.st.unsub e⟩
theorem RvAll.sub (e : Ev C α ow σ ρ H S) {vs : List V} {ds : List D} (r : RvAll C α ow H vs ds) : RvAll e.sub α ow0 H vs ds := by unfold RvAll; rw [sub_hd]; exact r
theorem Rv.unsub (e : Ev C α ow σ ρ H S) {α' : List Addr} {H' : Hp} {v : V} {d : D} (r : Rv e.sub α' ow0 H' v d) : Rv C α' ow H' v d := by unfold Rv at r; rw [sub_hd] at r; exact r
theorem Rv.out {v : V} {d : D} (r : Rv C α ow H v d) : Rv C α ow0 H v d := Rp.same (hid_mono fun a z => by
  rcases z with z | z | ⟨i, z⟩
  · exact .inl z
  · exact .inr (.inl z)
  · cases z) r
theorem RvAll.out {v : List V} {d : List D} (r : RvAll C α ow H v d) : RvAll C α ow0 H v d := RpAll.same (hid_mono fun a z => by
  rcases z with z | z | ⟨i, z⟩
  · exact .inl z
  · exact .inr (.inl z)
  · cases z) r
theorem Go.out (g : Go C ow α H α' H' S') : Go C ow0 α H α' H' S' := ⟨g.fr, g.st.out⟩
theorem Ev.go0 (e : Ev C α ow σ ρ H S) : Go C ow0 C.α0 C.H0 α H S := ⟨e.fr, e.st.out⟩
theorem Ev.subX (e : Ev C α ow σ ρ H S) {X : Ex → Sto → Prop} (hx : XOk C X) : XOk (e.sub) X := fun x u dx α' H' S' h g r => hx x u dx α' H' S' h ⟨e.fr.trans g.fr, (g.st.unsub e).out⟩ (by
  obtain ⟨h1, d, fs, h2, h3, h4, h5⟩ := r
  refine ⟨h1, d, fs, h2, h3, h4, RvAll.out (ow := ow) ?_⟩
  unfold RvAll at h5 ⊢
  rw [sub_hd] at h5
  exact h5)
def mCall (m : List D → M D) (dd : List D) (mr : MA) : ME := fun ρ S P X => mr ρ S (fun ds S1 => m (ds ++ dd) S1 P X) X
theorem de_call {m : List D → M D} {dvs : List V} {dd : List D} (hd : ∀ mg β α H, RpAll Z K mg β α H dvs dd) (h : DA Z K mg E tr mr) : DE Z K mg E (tCall (spD Z K mg m) dvs E tr) (mCall m dd mr) := fun C α ow σ ρ H S P X Q e hm hx k =>
  h C α ow σ ρ H S _ X _ e hm hx fun ds vs α1 H1 S1 hm1 g1 r1 => ⟨(e.step g1).sub, ds ++ dd, S1, P, X, rfl, StOk.sub (e.step g1), RvAll.sub (e.step g1) (r1.append (hd _ _ _ _)), hm1, (e.step g1).subX hx, fun d v α' H' S' p g r => k d v α' H' S' p (g1.trans (g.unsub (e.step g1))) (r.unsub (e.step g1))⟩
/-! calls of built-in functions -/
def CallD (Z : ZP) (K : PySem.W.Frag) (r : List V → Hp → VK → Prop) (f : List D → (D → Prop) → Prop) : Prop := ∀ (mg : Str → Option Value) (E : XK) (C : Cy Z K mg E) (α : List Addr) (ow : OwS) (σ : L2.St) (ρ : Env) (H : Hp) (S : Sto) (vs : List V) (ds : List D) (P : D → Prop) (Q : VK),
  Ev C α ow σ ρ H S → ShAll C α ow H vs ds → f ds P → (∀ d v H', P d → Go C ow α H α H' S → Rv C α ow H' v d → Q v H') → r vs H Q
def mCB (f : List D → (D → Prop) → Prop) (mr : MA) : ME := fun ρ S P X => mr ρ S (fun ds S1 => f (ds.map S1.rs) fun d => P d S1) X
theorem de_CB {r : List V → Hp → VK → Prop} {f : List D → (D → Prop) → Prop} (hr : CallD Z K r f) (h : DB Z K mg E tr mr) : DE Z K mg E (tCB r tr) (mCB f mr) := fun C α ow σ ρ H S P X Q e hm hx k =>
  h C α ow σ ρ H S _ X _ e hm hx fun ds vs α1 H1 S1 hm1 g1 r1 => hr mg E C α1 ow σ ρ H1 S1 vs _ _ Q (e.step g1) (r1.rs g1.st) hm1 fun d v H' p g r => k d v α1 H' S1 p (g1.trans g) r
/-- len -/
def fLen : List D → (D → Prop) → Prop
  | [.lst ds], P => P (.int ds.length)
  | [.tup ds], P => P (.int ds.length)
  | [.str z], P => P (.int z.length)
  | _, _ => False
theorem ShAll.one {v : List V} {d : D} (h : ShAll C α ow H v [d]) : ∃ x, v = [x] ∧ Sh C α ow H x d := by
  cases h with
  | cons h t => cases t; exact ⟨_, rfl, h⟩
theorem ShAll.two {v : List V} {d d' : D} (h : ShAll C α ow H v [d, d']) : ∃ x y, v = [x, y] ∧ Sh C α ow H x d ∧ Sh C α ow H y d' := by
  cases h with
  | cons h t => obtain ⟨y, rfl, h2⟩ := t.one; exact ⟨_, _, rfl, h, h2⟩
theorem cd_len : CallD Z K (rLenA K) fLen := fun mg E C α ow σ ρ H S vs ds P Q e h hm k => by
  unfold fLen at hm
  split at hm
  · obtain ⟨x, rfl, hx⟩ := h.one
    obtain ⟨a, xs, rfl, h1, h2, h3⟩ := hx.lstI
    exact .inl (w_len (SqL.of h1) (by rw [h3.len]; exact k _ _ H hm e.go (.int _)))
  · obtain ⟨x, rfl, hx⟩ := h.one
    obtain ⟨a, xs, rfl, h1, h2, h3⟩ := hx.tupI
    exact .inl (w_lenT h1 (by rw [h3.len]; exact k _ _ H hm e.go (.int _)))
  · obtain ⟨x, rfl, hx⟩ := h.one
    obtain ⟨rfl, hz⟩ := hx.strI
    exact .inr (w_lenStr hz (k _ _ H hm e.go (.int _)))
  · exact hm.elim
/-- all, any, sum of a list -/
def fAll : List D → (D → Prop) → Prop
  | [.lst ds], P => ∃ bs : List Bool, ds = bs.map .bl ∧ P (.bl (bs.all id))
  | _, _ => False
def fAny : List D → (D → Prop) → Prop
  | [.lst ds], P => ∃ bs : List Bool, ds = bs.map .bl ∧ P (.bl (bs.any id))
  | _, _ => False
def fSum : List D → (D → Prop) → Prop
  | [.lst ds], P => ∃ ns : List Int, ds = ns.map .int ∧ P (.int ns.sum)
  | _, _ => False
theorem cd_all : CallD Z K (rAll K) fAll := fun mg E C α ow σ ρ H S vs ds P Q e h hm k => by
  unfold fAll at hm
  split at hm
  · obtain ⟨x, rfl, hx⟩ := h.one
    obtain ⟨bs, rfl, hm⟩ := hm
    obtain ⟨a, xs, rfl, h1, h2, h3⟩ := hx.lstI
    rw [h3.bls] at h1
    exact w_all (SqL.of h1) (k _ _ H hm e.go (.bl _))
  · exact hm.elim
theorem cd_any : CallD Z K (rAny K) fAny := fun mg E C α ow σ ρ H S vs ds P Q e h hm k => by
  unfold fAny at hm
  split at hm
  · obtain ⟨x, rfl, hx⟩ := h.one
    obtain ⟨bs, rfl, hm⟩ := hm
    obtain ⟨a, xs, rfl, h1, h2, h3⟩ := hx.lstI
    rw [h3.bls] at h1
    exact w_any (SqL.of h1) (k _ _ H hm e.go (.bl _))
  · exact hm.elim
/-- list(..) -/
def fListOf : List D → (D → Prop) → Prop
  | [.lst ds], P => P (.lst ds)
  | [.tup ds], P => P (.lst ds)
  | _, _ => False
theorem cd_listOf : CallD Z K (rListOf K) fListOf := fun mg E C α ow σ ρ H S vs ds P Q e h hm k => by
  unfold fListOf at hm
  split at hm
  · obtain ⟨x, rfl, hx⟩ := h.one
    obtain ⟨a, xs, rfl, h1, h2, h3⟩ := hx.lstI
    exact ⟨a, xs, rfl, .inl (SqL.of h1), fun p hp => k _ _ _ hm (e.nw hp) (rv_lst e hp h2 h3)⟩
  · obtain ⟨x, rfl, hx⟩ := h.one
    obtain ⟨a, xs, rfl, h1, h2, h3⟩ := hx.tupI
    exact ⟨a, xs, rfl, .inr h1, fun p hp => k _ _ _ hm (e.nw hp) (rv_lst e hp h2 h3)⟩
  · exact hm.elim
def fListText : List D → (D → Prop) → Prop
  | [.str z], P => P (.lst (z.cps.toList.map fun c => .str ⟨#[c]⟩))
  | _, _ => False
theorem rp_signs {mg : Str → Option Value} {β : BG} {α : List Addr} {H : Hp} (l : List Nat) : RpAll Z K mg β α H (l.map fun c => V.str ⟨#[c]⟩) (l.map fun c => D.str ⟨#[c]⟩) := by
  induction l with
  | nil => exact .nil
  | cons c l ih => exact .cons (.str (by show 1 ≤ sizeLine; decide)) ih
theorem cd_listText : CallD Z K rListText fListText := fun mg E C α ow σ ρ H S vs ds P Q e h hm k => by
  unfold fListText at hm
  split at hm
  · obtain ⟨x, rfl, hx⟩ := h.one
    obtain ⟨rfl, hz⟩ := hx.strI
    exact ⟨_, rfl, hz, fun p hp => k _ _ _ hm (e.nw hp) (rv_lst e hp (by simpa [Str.length] using hz) (rp_signs _))⟩
  · exact hm.elim
/-! places -/
def fIx : D → D → (D → Prop) → Prop
  | .lst ds, .int i, P => match atI ds i with
    | some d => P d
    | none => False
  | .tup ds, .int i, P => match atI ds i with
    | some d => P d
    | none => False
  | .str z, .int i, P => match atI z.cps.toList i with
    | some c => P (.str ⟨#[c]⟩)
    | none => False
  | _, _, _ => False
theorem RpAll.atI {mg : Str → Option Value} {β : BG} {α : List Addr} {H : Hp} {xs : List V} {ds : List D} {i : Int} {d : D} (h : RpAll Z K mg β α H xs ds) (e : L2.atI ds i = some d) : ∃ x, L2.atI xs i = some x ∧ Rp Z K mg β α H x d := by
  unfold L2.atI at e ⊢
  rw [h.len]
  cases q : ixN ds.length i with
  | none => rw [q] at e; cases e
  | some j =>
    rw [q] at e
    exact h.get' (show ds[j]? = some d from e)
theorem od_ix : OpD Z K (rIx K) fIx := fun mg E C α ow σ ρ H S x y a b P Q e sa sb hm k => by
  unfold fIx at hm
  split at hm
  · split at hm
    · obtain ⟨a, xs, rfl, h1, h2, h3⟩ := sa.lstI
      obtain ⟨v, hv, rv⟩ := h3.atI ‹_›
      rw [sb.intI]
      exact .inl ⟨a, xs, _, v, rfl, rfl, SqL.of h1, hv, k _ _ H hm e.go rv⟩
    · exact hm.elim
  · split at hm
    · obtain ⟨a, xs, rfl, h1, h2, h3⟩ := sa.tupI
      obtain ⟨v, hv, rv⟩ := h3.atI ‹_›
      rw [sb.intI]
      exact .inr (.inl ⟨a, xs, _, v, rfl, rfl, h1, hv, k _ _ H hm e.go rv⟩)
    · exact hm.elim
  · split at hm
    · obtain ⟨rfl, hz⟩ := sa.strI
      rw [sb.intI]
      exact .inr (.inr ⟨_, _, _, rfl, rfl, hz, ‹_›, k _ _ H hm e.go (.str (by show 1 ≤ sizeLine; decide))⟩)
    · exact hm.elim
  · exact hm.elim
/-! slices -/
def cutL {α : Type} (xs : List α) (lo hi : Option Int) : List α := (xs.drop (HT.sIx xs.length 0 lo)).take (HT.sIx xs.length xs.length hi - HT.sIx xs.length 0 lo)
theorem RpAll.cutt {mg : Str → Option Value} {β : BG} {α : List Addr} {H : Hp} {xs : List V} {ds : List D} {lo hi : Option Int} (h : RpAll Z K mg β α H xs ds) : RpAll Z K mg β α H (cutV xs lo hi) (cutL ds lo hi) := by
  unfold cutV cutL
  rw [h.len]
  exact (h.drop _).take _
abbrev MO := Env → M (Option Int)
def DO (Z : ZP) (K : PySem.W.Frag) (mg : Str → Option Value) (E : XK) (t : TO) (m : MO) : Prop := ∀ (C : Cy Z K mg E) (α : List Addr) (ow : OwS) (σ : L2.St) (ρ : Env) (H : Hp) (S : Sto) (P : Option Int → Sto → Prop) (X : Ex → Sto → Prop) (Q : Option Int → Hp → Prop),
  Ev C α ow σ ρ H S → m ρ S P X → XOk C X → (∀ b α' H' S', P b S' → Go C ow α H α' H' S' → Q b H') → t σ H Q
def mNo : MO := fun _ S P _ => P none S
def asI (P : Int → Prop) : D → Prop
  | .int i => P i
  | _ => False
def mSome (ma : ME) : MO := fun ρ S P X => ma ρ S (fun d S1 => asI (fun i => P (some i) S1) (S1.rs d)) X
theorem do_no : DO Z K mg E tNoPart mNo := fun C α ow σ ρ H S P X Q e hm hx k => k _ α H S hm e.go
theorem do_some (h : DQ Z K mg E ta ma) : DO Z K mg E (tPart ta) (mSome ma) := fun C α ow σ ρ H S P X Q e hm hx k => h C α ow σ ρ H S _ X _ e hm hx fun d v α1 H1 S1 p g s => by
  have s := s.rs g.st
  unfold asI at p
  split at p
  · rename_i q
    rw [q] at s
    exact ⟨_, s.intI, k _ _ _ _ p g⟩
  · exact p.elim
def SlD (Z : ZP) (K : PySem.W.Frag) (r : V → Option Int → Option Int → Hp → VK → Prop) (f : D → Option Int → Option Int → (D → Prop) → Prop) : Prop := ∀ (mg : Str → Option Value) (E : XK) (C : Cy Z K mg E) (α : List Addr) (ow : OwS) (σ : L2.St) (ρ : Env) (H : Hp) (S : Sto) (x : V) (lo hi : Option Int) (a : D) (P : D → Prop) (Q : VK),
  Ev C α ow σ ρ H S → Sh C α ow H x a → f a lo hi P → (∀ d v H', P d → Go C ow α H α H' S → Rv C α ow H' v d → Q v H') → r x lo hi H Q
def mSl (f : D → Option Int → Option Int → (D → Prop) → Prop) (ma : ME) (ml mh : MO) : ME := fun ρ S P X => ma ρ S (fun a S1 => ml ρ S1 (fun lo S2 => mh ρ S2 (fun hi S3 => f (S3.rs a) lo hi fun d => P d S3) X) X) X
theorem de_sl {r : V → Option Int → Option Int → Hp → VK → Prop} {f : D → Option Int → Option Int → (D → Prop) → Prop} {tl th : TO} {ml mh : MO} (hr : SlD Z K r f) (ha : DQ Z K mg E ta ma) (hl : DO Z K mg E tl ml) (hh : DO Z K mg E th mh) :
    DE Z K mg E (tSl r ta tl th) (mSl f ma ml mh) := fun C α ow σ ρ H S P X Q e hm hx k =>
  ha C α ow σ ρ H S _ X _ e hm hx fun a x α1 H1 S1 hm1 g1 s1 => hl C α1 ow σ ρ H1 S1 _ X _ (e.step g1) hm1 hx fun lo α2 H2 S2 hm2 g2 => hh C α2 ow σ ρ H2 S2 _ X _ ((e.step g1).step g2) hm2 hx fun hi α3 H3 S3 hm3 g3 =>
    hr mg E C α3 ow σ ρ H3 S3 x lo hi _ _ Q (((e.step g1).step g2).step g3) ((s1.go (e.step g1) (g2.trans g3)).rs g3.st) hm3 fun d v H4 p g4 r4 => k d v α3 H4 S3 p ((g1.trans (g2.trans g3)).trans g4) r4
def fSlL : D → Option Int → Option Int → (D → Prop) → Prop
  | .lst ds, lo, hi, P => P (.lst (cutL ds lo hi))
  | _, _, _, _ => False
def fSlT : D → Option Int → Option Int → (D → Prop) → Prop
  | .tup ds, lo, hi, P => P (.tup (cutL ds lo hi))
  | _, _, _, _ => False
def fSlS : D → Option Int → Option Int → (D → Prop) → Prop
  | .str z, lo, hi, P => P (.str (cutS z lo hi))
  | _, _, _, _ => False
theorem sd_list : SlD Z K (rSlL K) fSlL := fun mg E C α ow σ ρ H S x lo hi a P Q e sa hm k => by
  unfold fSlL at hm
  split at hm
  · obtain ⟨a, xs, rfl, h1, h2, h3⟩ := sa.lstI
    exact ⟨a, xs, rfl, SqL.of h1, fun p hp => k _ _ _ hm (e.nw hp) (rv_lst e hp (Nat.le_trans (cutV_length _ _ _) h2) h3.cutt)⟩
  · exact hm.elim
theorem cutS_length {z : Str} {lo hi : Option Int} : (cutS z lo hi).length ≤ z.length := by
  unfold cutS
  simp [Str.length, Array.size_extract] <;> omega
theorem sd_str : SlD Z K rSlS fSlS := fun mg E C α ow σ ρ H S x lo hi a P Q e sa hm k => by
  unfold fSlS at hm
  split at hm
  · obtain ⟨rfl, hz⟩ := sa.strI
    exact ⟨_, rfl, hz, k _ _ H hm e.go (.str (Nat.le_trans cutS_length hz))⟩
  · exact hm.elim
/-! sums, joinings -/
def fAdd : D → D → (D → Prop) → Prop
  | .int i, .int j, P => P (.int (i + j))
  | .str x, .str y, P => x.length + y.length ≤ sizeLine ∧ P (.str (x ++ y))
  | .lst a, .lst b, P => a.length + b.length ≤ sizeLine ∧ P (.lst (a ++ b))
  | .tup a, .tup b, P => a.length + b.length ≤ sizeLine ∧ P (.tup (a ++ b))
  | _, _, _ => False
def rAddX (K : PySem.W.Frag) : R2 := fun x y H Q => (rI0 (fun i j => .int (i + j)) x y H Q ∨ (∃ i j, x = .str i ∧ y = .str j ∧ i.length + j.length ≤ sizeLine ∧ Q (.str (i ++ j)) H)) ∨ (rCat x y H Q ∨ rCatF K x y H Q)
theorem op_addX {X : Cx} : OpR X (binaryOp .Add) (rAddX X.K) := (op_add.or op_add_str).or (op_cat.or op_catF)
theorem str_append_length (x y : Str) : (x ++ y).length = x.length + y.length := by
  show ((x.cps ++ y.cps).size) = _
  rw [Array.size_append]
  rfl
theorem od_add : OpD Z K (rAddX K) fAdd := fun mg E C α ow σ ρ H S x y a b P Q e sa sb hm k => by
  unfold fAdd at hm
  split at hm
  · exact .inl (.inl ⟨_, _, sa.intI, sb.intI, k _ _ H hm e.go (.int _)⟩)
  · obtain ⟨rfl, hz⟩ := sa.strI
    obtain ⟨rfl, hy⟩ := sb.strI
    exact .inl (.inr ⟨_, _, rfl, rfl, hm.1, k _ _ H hm.2 e.go (.str (by rw [str_append_length]; exact hm.1))⟩)
  · obtain ⟨l, xs, rfl, h1, h2, h3⟩ := sa.lstI
    obtain ⟨m, ys, rfl, g1, g2, g3⟩ := sb.lstI
    have hz : xs.length + ys.length ≤ sizeLine := by rw [h3.len, g3.len]; exact hm.1
    exact .inr (.inl ⟨l, m, xs, ys, rfl, rfl, h1, g1, hz, fun p hp => k _ _ _ hm.2 (e.nw hp) (rv_lst e hp (by rw [List.length_append]; exact hz) (h3.append g3))⟩)
  · have sa2 := sa.tupI'
    have sb2 := sb.tupI'
    obtain ⟨l, xs, rfl, h1, h2, h3⟩ := sa.tupI
    obtain ⟨m, ys, rfl, g1, g2, g3⟩ := sb.tupI
    have hz : xs.length + ys.length ≤ sizeLine := by rw [h3.len, g3.len]; exact hm.1
    refine .inr (.inr ⟨l, m, xs, ys, rfl, rfl, h1, g1, hz, fun z => ?_, fun _ z => ?_, fun _ _ p o hp hd => k _ _ _ hm.2 (e.nw hp) (rv_tup e hp hd (by rw [List.length_append]; exact hz) (h3.append g3))⟩)
    · subst z
      cases h3
      exact k _ _ H hm.2 e.go sb2
    · subst z
      cases g3
      have hm2 := hm.2
      rw [List.append_nil] at hm2
      exact k _ _ H hm2 e.go sa2
  · exact hm.elim
/-! data that read as the kit's own -/
mutual
def D.py : D → PyData
  | .non => .none
  | .bl b => .bool b
  | .int i => .int i
  | .str z => .str z
  | .lst ds => .list (D.pys ds)
  | .tup ds => .tuple (D.pys ds)
  | _ => .none
def D.pys : List D → List PyData
  | [] => []
  | d :: ds => d.py :: D.pys ds
def D.isPy : D → Bool
  | .non => true
  | .bl _ => true
  | .int _ => true
  | .str _ => true
  | .lst ds => D.arePy ds
  | .tup ds => D.arePy ds
  | _ => false
def D.arePy : List D → Bool
  | [] => true
  | d :: ds => d.isPy && D.arePy ds
end
mutual
theorem Rp.dp {mg : Str → Option Value} {β : BG} {α : List Addr} {H : Hp} : ∀ {v : V} {d : D}, Rp Z K mg β α H v d → d.isPy = true → Dp K H v d.py
  | _, _, .non, _ => by unfold D.py; exact .non
  | _, _, .bl b, _ => by unfold D.py; exact .bl b
  | _, _, .int i, _ => by unfold D.py; exact .int i
  | _, _, .str h, _ => by unfold D.py; exact .str _
  | _, _, .lst h n r, q => by unfold D.isPy at q; unfold D.py; exact .lst (SqL.of h) (RpAll.dp r q)
  | _, _, .tup h _ n r, q => by unfold D.isPy at q; unfold D.py; exact .tup h (RpAll.dp r q)
  | _, _, .pr _ _ _, q => by unfold D.isPy at q; cases q
  | _, _, .dK _ _ _ _, q => by unfold D.isPy at q; cases q
  | _, _, .dN _ _ _ _ _, q => by unfold D.isPy at q; cases q
  | _, _, .ins _ _ _, q => by unfold D.isPy at q; cases q
  | _, _, .ob _, q => by unfold D.isPy at q; cases q
  | _, _, .bag _, q => by unfold D.isPy at q; cases q
  | _, _, .raw _, q => by unfold D.isPy at q; cases q
theorem RpAll.dp {mg : Str → Option Value} {β : BG} {α : List Addr} {H : Hp} : ∀ {vs : List V} {ds : List D}, RpAll Z K mg β α H vs ds → D.arePy ds = true → DpAll K H vs (D.pys ds)
  | _, _, .nil, _ => by unfold D.pys; exact .nil
  | _, _, .cons h r, q => by
    unfold D.arePy at q
    rw [Bool.and_eq_true_iff] at q
    unfold D.pys
    exact .cons (Rp.dp h q.1) (RpAll.dp r q.2)
end
theorem OwB.dp {β : BG} {B : Addr → Prop} {a : Addr} {d : D} (h : OwB Z K mg β α B H a d) (q : d.isPy = true) : Dp K H (.ref a) d.py := by
  cases h with
  | lst h1 h2 h3 =>
    unfold D.isPy at q
    unfold D.py
    exact .lst (SqL.of h1) (Same.dpAll hid_same (RpAll.dp h3 q))
  | dK _ _ _ _ => unfold D.isPy at q; cases q
  | dN _ _ _ _ _ => unfold D.isPy at q; cases q
  | st _ _ _ => unfold D.isPy at q; cases q
theorem Sh.dp {v : V} {d : D} (h : Sh C α ow H v d) (q : d.isPy = true) : Dp K H v d.py := by
  rcases h with h | ⟨i, a, _, rfl, h⟩ | ⟨a, _, rfl, h⟩
  · exact Same.dp hid_same (Rp.dp h q)
  · exact OwB.dp h q
  · exact OwB.dp h q
/-- a datum that may be held against another: no dicts, not too deep -/
def D.ok (d : D) : Bool := d.isPy && SeqAt.shaped d.py
def D.eqv (a b : D) : Bool := PyData.eqv a.py b.py
def fEq (neg : Bool) : D → D → (D → Prop) → Prop := fun a b P => a.ok = true ∧ b.ok = true ∧ P (.bl (if neg then !a.eqv b else a.eqv b))
theorem od_eq : OpD Z K (rEqD K) (fEq false) := fun mg E C α ow σ ρ H S x y a b P Q e sa sb hm k => by
  obtain ⟨h1, h2, h3⟩ := hm
  unfold D.ok at h1 h2
  rw [Bool.and_eq_true_iff] at h1 h2
  exact ⟨_, _, sa.dp h1.1, sb.dp h2.1, h1.2, h2.2, k _ _ H h3 e.go (.bl _)⟩
theorem od_ne : OpD Z K (rNeD K) (fEq true) := fun mg E C α ow σ ρ H S x y a b P Q e sa sb hm k => by
  obtain ⟨h1, h2, h3⟩ := hm
  unfold D.ok at h1 h2
  rw [Bool.and_eq_true_iff] at h1 h2
  exact ⟨_, _, sa.dp h1.1, sb.dp h2.1, h1.2, h2.2, k _ _ H h3 e.go (.bl _)⟩
/-- == of plain things -/
def D.flat : D → Bool
  | .non => true | .bl _ => true | .int _ => true | .str _ => true
  | _ => false
def D.v : D → V
  | .bl b => .bl b | .int i => .int i | .str z => .str z
  | _ => .non
theorem Rp.flat {mg : Str → Option Value} {β : BG} {α : List Addr} {H : Hp} {v : V} {d : D} (h : Rp Z K mg β α H v d) (f : d.flat = true) : v = d.v := by
  cases h <;> first | rfl | cases f
theorem Sh.flat {v : V} {d : D} (h : Sh C α ow H v d) (f : d.flat = true) : v = d.v := by
  rcases h with h | ⟨_, _, _, _, h⟩ | ⟨_, _, _, h⟩
  · exact Rp.flat h f
  · cases h <;> cases f
  · cases h <;> cases f
theorem flatV_v {d : D} : flatV d.v = true := by cases d <;> rfl
theorem RpAll.flat {mg : Str → Option Value} {β : BG} {α : List Addr} {H : Hp} : ∀ {vs : List V} {ds : List D}, RpAll Z K mg β α H vs ds → (∀ d ∈ ds, d.flat = true) → vs = ds.map D.v
  | _, _, .nil, _ => rfl
  | _, _, .cons h r, f => by rw [Rp.flat h (f _ (List.mem_cons_self ..)), RpAll.flat r fun d q => f d (List.mem_cons_of_mem _ q)]; rfl
/-- is None -/
def D.isN : D → Option Bool
  | .non => some true
  | .raw _ => none
  | _ => some false
def fIs (neg : Bool) : D → D → (D → Prop) → Prop
  | a, .non, P => match a.isN with
    | some b => P (.bl (if neg then !b else b))
    | none => False
  | _, _, _ => False
theorem Rp.isN {mg : Str → Option Value} {β : BG} {α : List Addr} {H : Hp} {v : V} {d : D} {b : Bool} (h : Rp Z K mg β α H v d) (f : d.isN = some b) : decide (v = .non) = b := by
  cases h <;> first | (cases f; rfl) | cases f
theorem Sh.isN {v : V} {d : D} {b : Bool} (h : Sh C α ow H v d) (f : d.isN = some b) : decide (v = .non) = b := by
  rcases h with h | ⟨_, _, _, rfl, h⟩ | ⟨_, _, rfl, h⟩
  · exact Rp.isN h f
  · cases h <;> (cases f; rfl)
  · cases h <;> (cases f; rfl)
theorem od_is : OpD Z K rIsN0 (fIs false) := fun mg E C α ow σ ρ H S x y a b P Q e sa sb hm k => by
  unfold fIs at hm
  split at hm
  · split at hm
    · cases sb.nonI
      refine ⟨rfl, ?_⟩
      rw [sa.isN ‹_›]
      exact k _ _ H hm e.go (.bl _)
    · exact hm.elim
  · exact hm.elim
/-- in -/
def fIn (neg : Bool) : D → D → (D → Prop) → Prop
  | a, .lst ds, P => a.flat = true ∧ (∀ d ∈ ds, d.flat = true) ∧ P (.bl (if neg then !inV a.v (ds.map D.v) else inV a.v (ds.map D.v)))
  | a, .tup ds, P => a.flat = true ∧ (∀ d ∈ ds, d.flat = true) ∧ P (.bl (if neg then !inV a.v (ds.map D.v) else inV a.v (ds.map D.v)))
  | .str x, .str z, P => match x.cps.toList with
    | [c] => P (.bl (if neg then !decide (c ∈ z.cps.toList) else decide (c ∈ z.cps.toList)))
    | _ => False
  | _, _, _ => False
def rInX (K : PySem.W.Frag) : R2 := fun x y H Q => rIn K false x y H Q ∨ rInSign x y H Q
theorem one_sign {x : Str} {c : Nat} (h : x.cps.toList = [c]) : x = ⟨#[c]⟩ := by
  obtain ⟨⟨l⟩⟩ := x
  cases h
  rfl
theorem all_flat {ds : List D} : (ds.map D.v).all flatV = true := by
  rw [List.all_eq_true]
  intro v h
  obtain ⟨d, _, rfl⟩ := List.mem_map.mp h
  exact flatV_v
theorem od_in : OpD Z K (rInX K) (fIn false) := fun mg E C α ow σ ρ H S x y a b P Q e sa sb hm k => by
  unfold fIn at hm
  split at hm
  · obtain ⟨f1, f2, hm⟩ := hm
    obtain ⟨l, xs, rfl, h1, h2, h3⟩ := sb.lstI
    rw [sa.flat f1]
    rw [RpAll.flat h3 f2] at h1
    exact .inl ⟨l, _, rfl, .inl (SqL.of h1), flatV_v, all_flat, k _ _ H hm e.go (.bl _)⟩
  · obtain ⟨f1, f2, hm⟩ := hm
    obtain ⟨l, xs, rfl, h1, h2, h3⟩ := sb.tupI
    rw [sa.flat f1]
    rw [RpAll.flat h3 f2] at h1
    exact .inl ⟨l, _, rfl, .inr h1, flatV_v, all_flat, k _ _ H hm e.go (.bl _)⟩
  · split at hm
    · have e1 := one_sign ‹_›
      subst e1
      exact .inr ⟨_, _, sa.strI.1, sb.strI.1, k _ _ H hm e.go (.bl _)⟩
    · exact hm.elim
  · exact hm.elim
theorem op_inX {X : Cx} : OpR X (compareOp .In) (rInX X.K) := op_in_seq.or op_inSign
/-! truth -/
variable {tt tt' : TT} {mt mt' : MT}
def asB (P : Bool → Prop) : D → Prop
  | .bl b => P b
  | _ => False
def mB (ma : ME) : MT := fun ρ S P X => ma ρ S (fun d S1 => asB (fun b => P b S1) d) X
theorem Su.blI {v : V} {b : Bool} (h : Su C α ow H v (.bl b)) : v = .bl b := by
  rcases h with h | ⟨_, _, _, _, h⟩
  · exact h.blI
  · cases h
theorem dt_b (h : DQ Z K mg E ta ma) : DT Z K mg E (tB ta) (mB ma) := fun C α ow σ ρ H S P X Q e hm hx k => h C α ow σ ρ H S _ X _ e hm hx fun d v α1 H1 S1 p f s => by
  unfold asB at p
  split at p
  · exact ⟨_, s.blI, k _ _ _ _ p f⟩
  · exact p.elim
theorem dt_test (h : DQ Z K mg E ta ma) : DT Z K mg E (tTest ta) (mB ma) := dt_b h
def mNot (mt : MT) : MT := fun ρ S P X => mt ρ S (fun b S1 => P (!b) S1) X
def mAnd (mt mt' : MT) : MT := fun ρ S P X => mt ρ S (fun b S1 => if b = true then mt' ρ S1 P X else P false S1) X
def mOr (mt mt' : MT) : MT := fun ρ S P X => mt ρ S (fun b S1 => if b = true then P true S1 else mt' ρ S1 P X) X
theorem dt_not (h : DT Z K mg E tt mt) : DT Z K mg E (tNot tt) (mNot mt) := fun C α ow σ ρ H S P X Q e hm hx k => h C α ow σ ρ H S _ X _ e hm hx fun b α1 H1 S1 p f => k _ _ _ _ p f
theorem dt_or (h : DT Z K mg E tt mt) (h' : DT Z K mg E tt' mt') : DT Z K mg E (tOr tt tt') (mOr mt mt') := fun C α ow σ ρ H S P X Q e hm hx k => h C α ow σ ρ H S _ X _ e hm hx fun b α1 H1 S1 p f => by
  cases b with
  | false => exact h' C α1 ow σ ρ H1 S1 P X Q (e.step f) p hx fun b α2 H2 S2 p f2 => k b _ _ _ p (f.trans f2)
  | true => exact k _ _ _ _ p f
def mAndV (ma mb : ME) : ME := fun ρ S P X => ma ρ S (fun d S1 => asB (fun b => if b = true then mb ρ S1 P X else P (.bl false) S1) d) X
def mOrV (ma mb : ME) : ME := fun ρ S P X => ma ρ S (fun d S1 => asB (fun b => if b = true then P (.bl true) S1 else mb ρ S1 P X) d) X
def mNotV (ma : ME) : ME := fun ρ S P X => ma ρ S (fun d S1 => asB (fun b => P (.bl (!b)) S1) d) X
theorem de_and (ha : DQ Z K mg E ta ma) (hb : DE Z K mg E tb mb) : DE Z K mg E (tAndV ta tb) (mAndV ma mb) := fun C α ow σ ρ H S P X Q e hm hx k => ha C α ow σ ρ H S _ X _ e hm hx fun d v α1 H1 S1 p f s => by
  unfold asB at p
  split at p
  · refine ⟨_, s.blI, ?_⟩
    split at p
    · rw [if_pos ‹_›]; exact hb C α1 ow σ ρ H1 S1 P X Q (e.step f) p hx fun d v α2 H2 S2 p f2 r => k d v _ _ _ p (f.trans f2) r
    · rw [if_neg ‹_›]; exact k _ _ _ _ _ p f (.bl _)
  · exact p.elim
theorem de_not (ha : DQ Z K mg E ta ma) : DE Z K mg E (tNotV ta) (mNotV ma) := fun C α ow σ ρ H S P X Q e hm hx k => ha C α ow σ ρ H S _ X _ e hm hx fun d v α1 H1 S1 p f s => by
  unfold asB at p
  split at p
  · exact ⟨_, s.blI, k _ _ _ _ _ p f (.bl _)⟩
  · exact p.elim
def mIf (mt : MT) (ma mb : ME) : ME := fun ρ S P X => mt ρ S (fun b S1 => if b = true then ma ρ S1 P X else mb ρ S1 P X) X
theorem de_if (h : DT Z K mg E tt mt) (ha : DE Z K mg E ta ma) (hb : DE Z K mg E tb mb) : DE Z K mg E (tIf tt ta tb) (mIf mt ma mb) := fun C α ow σ ρ H S P X Q e hm hx k => h C α ow σ ρ H S _ X _ e hm hx fun b α1 H1 S1 p f => by
  cases b with
  | true => exact ha C α1 ow σ ρ H1 S1 P X Q (e.step f) p hx fun d v α2 H2 S2 p f2 r => k d v _ _ _ p (f.trans f2) r
  | false => exact hb C α1 ow σ ρ H1 S1 P X Q (e.step f) p hx fun d v α2 H2 S2 p f2 r => k d v _ _ _ p (f.trans f2) r
def mChain (f g : D → D → (D → Prop) → Prop) (ma mb mc : ME) : ME := fun ρ S P X => ma ρ S (fun a S1 => mb ρ S1 (fun b S2 => f (S2.rs a) (S2.rs b) (asB fun t => if t = true then mc ρ S2 (fun c S3 => g (S3.rs b) (S3.rs c) fun d => P d S3) X else P (.bl false) S2)) X) X
theorem de_chain {r r' : R2} {f g : D → D → (D → Prop) → Prop} (hr : OpD Z K r f) (hr' : OpD Z K r' g) (ha : DQ Z K mg E ta ma) (hb : DQ Z K mg E tb mb) (hc : DQ Z K mg E tc mc) : DE Z K mg E (tChain r r' ta tb tc) (mChain f g ma mb mc) := fun C α ow σ ρ H S P X Q e hm hx k =>
  ha C α ow σ ρ H S _ X _ e hm hx fun a x α1 H1 S1 hm1 g1 s1 => hb C α1 ow σ ρ H1 S1 _ X _ (e.step g1) hm1 hx fun b y α2 H2 S2 hm2 g2 s2 =>
    hr mg E C α2 ow σ ρ H2 S2 x y _ _ _ _ ((e.step g1).step g2) ((s1.go (e.step g1) g2).rs g2.st) (s2.rs g2.st) hm2 fun d v H3 p g3 r3 => by
      have e3 := ((e.step g1).step g2).step g3
      have g13 := (g1.trans g2).trans g3
      unfold asB at p
      split at p
      · refine ⟨_, r3.blI, ?_⟩
        split at p
        · rw [if_pos ‹_›]
          exact hc C α2 ow σ ρ H3 S2 _ X _ e3 p hx fun c z α4 H4 S4 p4 g4 s4 => hr' mg E C α4 ow σ ρ H4 S4 y z _ _ _ Q (e3.step g4) ((s2.go ((e.step g1).step g2) (g3.trans g4)).rs g4.st) (s4.rs g4.st) p4 fun d v H5 p5 g5 r5 => k d v _ _ _ p5 ((g13.trans g4).trans g5) r5
        · rw [if_neg ‹_›]
          exact k _ _ _ _ _ p g13 (.bl _)
      · exact p.elim
end
end Nc

namespace Nc
open PySem PySem.Spec PyProof.Rows L2
/-! ## what is walked, targets, statements, on data -/
def ItD (Z : ZP) (K : PySem.W.Frag) (mg : Str → Option Value) (β : BG) (α : List Addr) (A : Addr → Prop) (J : It) (ds : List D) (H1 : Hp) : Prop := ∃ (n : Nat) (G : Hp → Prop) (Y : Nat → Hp → V → Hp → Prop), Walk J n G Y ∧ n = ds.length ∧
  (∀ A' H', Same (hid A H1) (hid A' H') → G H') ∧
  ∀ i x A' H' H'', Same (hid A H1) (hid A' H') → (∀ a, A' a → H' a ≠ none) → i < n → Y i H' x H'' → Same H' H'' ∧ ∀ d, ds[i]? = some d → Rp Z K mg β α (hid A' H'') x d
abbrev MI := Env → M (List D)
def DI (Z : ZP) (K : PySem.W.Frag) (mg : Str → Option Value) (E : XK) (t : TI) (m : MI) : Prop := ∀ (C : Cy Z K mg E) (α : List Addr) (ow : OwS) (σ : L2.St) (ρ : Env) (H : Hp) (S : Sto) (P : List D → Sto → Prop) (X : Ex → Sto → Prop) (R : It → Hp → Prop),
  Ev C α ow σ ρ H S → m ρ S P X → XOk C X → (∀ ds J α1 H1 S1, P ds S1 → Go C ow α H α1 H1 S1 → ItD Z K mg C.β α1 (C.hd α1 ow) J ds H1 → R J H1) → t σ H R
section
variable {Z : ZP} {K : PySem.W.Frag} {mg : Str → Option Value} {E : XK} {C : Cy Z K mg E} {α : List Addr} {ow : OwS} {σ : L2.St} {ρ : Env} {H H' : Hp} {S : Sto}
variable {ta tb tc te : TE} {ma mb mc me : ME} {tr : TA} {mr : MA}
theorem itd_list {β : BG} {α : List Addr} {A : Addr → Prop} {a : Addr} {xs : List V} {ds : List D} (h : hid A H a = some (.lst xs)) (r : RpAll Z K mg β α (hid A H) xs ds) : ItD Z K mg β α A (Itl K a) ds H :=
  ⟨xs.length, _, _, walk_list, r.len, fun A' H' s => SqL.of (hid_same _ _ (s _ _ h)), fun i x A' H' H'' s hA hi y => by
    obtain ⟨rfl, y⟩ := y
    refine ⟨Same.refl _, fun d hd => ?_⟩
    obtain ⟨d', h1, h2⟩ := r.get y
    rw [h1] at hd
    cases hd
    exact h2.same s⟩
def asL (P : List D → Prop) : D → Prop
  | .lst ds => P ds
  | _ => False
def asT (P : List D → Prop) : D → Prop
  | .tup ds => P ds
  | _ => False
def signs (z : Str) : List D := z.cps.toList.map fun c => .str ⟨#[c]⟩
def asS (P : List D → Prop) : D → Prop
  | .str z => P (signs z)
  | _ => False
def mIL (ma : ME) : MI := fun ρ S P X => ma ρ S (fun d S1 => asL (fun ds => P ds S1) d) X
def mIT (ma : ME) : MI := fun ρ S P X => ma ρ S (fun d S1 => asT (fun ds => P ds S1) d) X
def mIS (ma : ME) : MI := fun ρ S P X => ma ρ S (fun d S1 => asS (fun ds => P ds S1) d) X
theorem di_list (h : DE Z K mg E ta ma) : DI Z K mg E (iList K ta) (mIL ma) := fun C α ow σ ρ H S P X R e hm hx k => h C α ow σ ρ H S _ X _ e hm hx fun d v α1 H1 S1 p f r => by
  unfold asL at p
  split at p
  · obtain ⟨a, xs, rfl, h1, h2, h3⟩ := Rp.lstI r
    exact ⟨a, rfl, ⟨xs, SqL.of (hid_same _ _ h1)⟩, k _ _ _ H1 _ p f (itd_list h1 h3)⟩
  · exact p.elim
theorem di_str (h : DE Z K mg E ta ma) : DI Z K mg E (iStr ta) (mIS ma) := fun C α ow σ ρ H S P X R e hm hx k => h C α ow σ ρ H S _ X _ e hm hx fun d v α1 H1 S1 p f r => by
  unfold asS at p
  split at p
  · obtain ⟨rfl, hz⟩ := Rp.strI r
    refine ⟨_, rfl, k _ _ _ H1 _ p f ⟨_, _, _, walk_str, by simp [signs], fun _ _ _ => trivial, fun i x A' H' H'' s hA hi y => ?_⟩⟩
    obtain ⟨rfl, c, h1, rfl⟩ := y
    refine ⟨Same.refl _, fun d hd => ?_⟩
    unfold signs at hd
    rw [List.getElem?_map, Array.getElem?_toList, h1] at hd
    cases hd
    exact .str (by show 1 ≤ sizeLine; decide)
  · exact p.elim
def rngD (lo : Int) (n : Nat) : List D := (List.range n).map fun (i : Nat) => .int (lo + (i : Int))
theorem itd_rng {β : BG} {α : List Addr} {A : Addr → Prop} {lo : Int} {n : Nat} : ItD Z K mg β α A (Itr lo n) (rngD lo n) H :=
  ⟨n, _, _, walk_range, by simp [rngD], fun _ _ _ => trivial, fun i x A' H' H'' s hA hi y => by
    obtain ⟨rfl, rfl⟩ := y
    refine ⟨Same.refl _, fun d hd => ?_⟩
    unfold rngD at hd
    rw [List.getElem?_map, List.getElem?_range hi] at hd
    cases hd
    exact .int _⟩
def asR1 (P : List D → Prop) : List D → Prop
  | [.int j] => -(2 ^ 62) ≤ j ∧ j < 2 ^ 62 ∧ P (rngD 0 j.toNat)
  | _ => False
def asR2 (P : List D → Prop) : List D → Prop
  | [.int i, .int j] => (-(2 ^ 62) ≤ i ∧ i < 2 ^ 62 ∧ -(2 ^ 62) ≤ j ∧ j < 2 ^ 62) ∧ P (rngD i (j - i).toNat)
  | _ => False
def mIR1 (mr : MA) : MI := fun ρ S P X => mr ρ S (fun ds S1 => asR1 (fun es => P es S1) (ds.map S1.rs)) X
def mIR2 (mr : MA) : MI := fun ρ S P X => mr ρ S (fun ds S1 => asR2 (fun es => P es S1) (ds.map S1.rs)) X
theorem di_rng1 (h : DB Z K mg E tr mr) : DI Z K mg E (iRng1 tr) (mIR1 mr) := fun C α ow σ ρ H S P X R e hm hx k => h C α ow σ ρ H S _ X _ e hm hx fun d v α1 H1 S1 p f r => by
  have r := r.rs f.st
  unfold asR1 at p
  split at p
  · rename_i q
    rw [q] at r
    obtain ⟨x, rfl, hx⟩ := r.one
    rw [hx.intI]
    exact ⟨_, rfl, p.1, p.2.1, k _ _ _ H1 _ p.2.2 f itd_rng⟩
  · exact p.elim
theorem rp_pair {β : BG} {α : List Addr} {A : Addr → Prop} {T : Addr} {x y : V} {d d' : D} (hA : ¬ A T) (h1 : Rp Z K mg β α (hid A H) x d) (h2 : Rp Z K mg β α (hid A H) y d') (hT : H T = some (.tup [x, y])) : Rp Z K mg β α (hid A H) (.ref T) (.pr [d, d']) :=
  .pr (SqT.of (hid_get hA hT)) (by show 2 ≤ sizeLine; decide) (.cons h1 (.cons h2 .nil))
def enumD : Nat → List D → List D
  | _, [] => []
  | i, d :: ds => .pr [.int i, d] :: enumD (i + 1) ds
theorem enumD_get : ∀ {ds : List D} {n i : Nat}, (enumD n ds)[i]? = ds[i]?.map fun d => .pr [.int ((n + i : Nat) : Int), d]
  | [], _, _ => rfl
  | d :: ds, n, 0 => rfl
  | d :: ds, n, i + 1 => by
    show (enumD (n + 1) ds)[i]? = _
    rw [enumD_get, show n + 1 + i = n + (i + 1) by omega]
    rfl
theorem enumD_length : ∀ {ds : List D} {n : Nat}, (enumD n ds).length = ds.length
  | [], _ => rfl
  | d :: ds, n => congrArg Nat.succ enumD_length
def asE (P : List D → Prop) : List D → Prop
  | [.lst ds] => P (enumD 0 ds)
  | _ => False
def mIE (mr : MA) : MI := fun ρ S P X => mr ρ S (fun ds S1 => asE (fun es => P es S1) ds) X
theorem di_enum (h : DA Z K mg E tr mr) : DI Z K mg E (iEnum K tr) (mIE mr) := fun C α ow σ ρ H S P X R e hm hx k => h C α ow σ ρ H S _ X _ e hm hx fun d v α1 H1 S1 p f r => by
  unfold asE at p
  split at p
  · cases r with
    | cons r t =>
      cases t
      obtain ⟨a, xs, rfl, h1, h2, h3⟩ := Rp.lstI r
      refine ⟨a, xs, rfl, SqL.of (hid_same _ _ h1), k _ _ _ H1 _ p f ⟨_, _, _, walk_enum, by rw [enumD_length]; exact h3.len, fun A' H' s => SqL.of (hid_same _ _ (s _ _ h1)), fun i x A' H' H'' s hA hi y => ?_⟩⟩
      obtain ⟨T, x1, y1, rfl, hT, rfl, e1, e2⟩ := y
      cases e1
      have sm : Same H' (upd H' T (.tup [.int (i : Nat), y1])) := same_new hT
      refine ⟨sm, fun d hd => ?_⟩
      obtain ⟨d', g1, g2⟩ := h3.get e2
      rw [enumD_get, g1] at hd
      cases hd
      have nT : ¬ A' T := fun z => hA T z hT
      rw [Nat.zero_add]
      exact rp_pair nT (.int _) (g2.same (fun a o q => hid_step sm _ _ (s a o q))) upd_same
  · exact p.elim
end
/-! ### targets -/
def owWipe (ow : OwS) (vs : List Nat) : OwS := fun j => if j ∈ vs then none else ow j
abbrev TgM := D → Env → (Env → Prop) → Prop
abbrev TgMs := List D → Env → (Env → Prop) → Prop
def DG (Z : ZP) (K : PySem.W.Frag) (mg : Str → Option Value) (E : XK) (g : TG) (f : TgM) (us : List Nat) : Prop := ∀ (C : Cy Z K mg E) (α : List Addr) (ow : OwS) (σ : L2.St) (ρ : Env) (H : Hp) (S : Sto) (v : V) (d : D) (P : Env → Prop) (Q : L2.St → Hp → Prop),
  Ev C α ow σ ρ H S → Rv C α ow H v d → f d ρ P → (∀ ow' σ' ρ', P ρ' → Ev C α ow' σ' ρ' H S → ow' = owWipe ow us → σ'.length = σ.length → (∀ j, j ∉ us → σ'[j]? = σ[j]?) → Q σ' H) → g v σ H Q
def DGs (Z : ZP) (K : PySem.W.Frag) (mg : Str → Option Value) (E : XK) (g : TGs) (f : TgMs) (us : List Nat) : Prop := ∀ (C : Cy Z K mg E) (α : List Addr) (ow : OwS) (σ : L2.St) (ρ : Env) (H : Hp) (S : Sto) (vs : List V) (ds : List D) (P : Env → Prop) (Q : L2.St → Hp → Prop),
  Ev C α ow σ ρ H S → RvAll C α ow H vs ds → f ds ρ P → (∀ ow' σ' ρ', P ρ' → Ev C α ow' σ' ρ' H S → ow' = owWipe ow us → σ'.length = σ.length → (∀ j, j ∉ us → σ'[j]? = σ[j]?) → Q σ' H) → g vs σ H Q
section
variable {Z : ZP} {K : PySem.W.Frag} {mg : Str → Option Value} {E : XK} {C : Cy Z K mg E} {α α' : List Addr} {ow ow' : OwS} {σ : L2.St} {ρ : Env} {H H' : Hp} {S S' : Sto}
/-- fewer own objects -/
def OwLe (ow' ow : OwS) : Prop := ∀ i a, ow' i = some a → ow i = some a
theorem OwLe.hd (h : OwLe ow' ow) : ∀ a, C.hd α ow' a → C.hd α ow a := fun a z => by
  rcases z with z | z | ⟨i, z⟩
  · exact .inl z
  · exact .inr (.inl z)
  · exact .inr (.inr ⟨i, h _ _ z⟩)
theorem Rv.le {v : V} {d : D} (h : OwLe ow' ow) (r : Rv C α ow H v d) : Rv C α ow' H v d := Rp.same (hid_mono h.hd) r
theorem RvAll.le {v : List V} {d : List D} (h : OwLe ow' ow) (r : RvAll C α ow H v d) : RvAll C α ow' H v d := RpAll.same (hid_mono h.hd) r
theorem Ow.le {a : Addr} {d : D} (h : OwLe ow' ow) (r : Ow C α ow H a d) : Ow C α ow' H a d := OwB.mono (List.prefix_refl _) (hid_mono h.hd) (fun _ q _ => q) r
theorem StOk.le (h : OwLe ow' ow) (r : StOk C α ow H S) : StOk C α ow' H S := ⟨r.len, r.nd, r.nA, r.nL, fun i a q => r.no i a (h _ _ q), fun i a o h1 h2 => (r.ob i a o h1 h2).mono (List.prefix_refl _) (hid_mono h.hd) fun _ q _ => q⟩
theorem owWipe_le {vs : List Nat} : OwLe (owWipe ow vs) ow := fun j a h => by
  unfold owWipe at h
  split at h
  · cases h
  · exact h
def owDrop (ow : OwS) (i : Nat) : OwS := fun j => if j = i then none else ow j
theorem owDrop_le {i : Nat} : OwLe (owDrop ow i) ow := fun j a h => by
  unfold owDrop at h
  split at h
  · cases h
  · exact h
theorem Ev.le_sl (e : Ev C α ow σ ρ H S) (h : OwLe ow' ow) {j : Nat} (hj : ow' j = ow j) : SlOk C α ow' H (ow' j) σ[j]? ρ[j]? := by
  have q := e.sl j
  rw [hj]
  generalize ow j = w at q
  generalize σ[j]? = s at q
  generalize ρ[j]? = r at q
  cases q with
  | out => exact .out
  | un => exact .un
  | va r => exact .va (r.le h)
  | ow r => exact .ow (r.le h)
theorem SlOk.len {w : Option Addr} {s : Option (Option V)} {r : Option Sl} (h : SlOk C α ow H w s r) : s.isSome = r.isSome := by cases h <;> rfl
theorem Ev.lt (e : Ev C α ow σ ρ H S) {i : Nat} : i < σ.length ↔ i < ρ.length := by
  have h := (e.sl i).len
  constructor
  · intro q
    rw [List.getElem?_eq_getElem q] at h
    cases z : ρ[i]? with
    | none => rw [z] at h; cases h
    | some _ => exact (List.getElem?_eq_some_iff.mp z).1
  · intro q
    rw [List.getElem?_eq_getElem q] at h
    cases z : σ[i]? with
    | none => rw [z] at h; cases h
    | some _ => exact (List.getElem?_eq_some_iff.mp z).1
theorem Ev.set (e : Ev C α ow σ ρ H S) {i : Nat} {v : V} {d : D} (r : Rv C α ow H v d) : Ev C α (owDrop ow i) (σ.set i (some v)) (ρ.set i (.va d)) H S := by
  refine ⟨fun j => ?_, fun j k a h1 h2 => e.inj j k a (owDrop_le _ _ h1) (owDrop_le _ _ h2), fun j a h => e.nA j a (owDrop_le _ _ h), e.fr, e.st.le owDrop_le⟩
  by_cases hj : j = i
  · subst hj
    have ow0 : owDrop ow j j = none := by unfold owDrop; rw [if_pos rfl]
    rw [ow0]
    by_cases hl : j < σ.length
    · rw [List.getElem?_set_self hl, List.getElem?_set_self (e.lt.mp hl)]
      exact .va (r.le owDrop_le)
    · rw [List.getElem?_eq_none (by rw [List.length_set]; omega), List.getElem?_eq_none (by rw [List.length_set]; have := e.lt (i := j); omega)]
      exact .out
  · rw [List.getElem?_set_ne (Ne.symm hj), List.getElem?_set_ne (Ne.symm hj)]
    exact e.le_sl owDrop_le (by unfold owDrop; rw [if_neg hj])
def mName (i : Nat) : TgM := fun d ρ P => P (ρ.set i (.va d))
theorem owDrop_eq {i : Nat} : owDrop ow i = owWipe ow [i] := by
  funext j
  unfold owDrop owWipe
  simp
theorem owWipe_app {us us' : List Nat} : owWipe (owWipe ow us) us' = owWipe ow (us ++ us') := by
  funext j
  unfold owWipe
  by_cases h1 : j ∈ us' <;> by_cases h2 : j ∈ us <;> simp [h1, h2]
theorem dg_name {i : Nat} : DG Z K mg E (gName i) (mName i) [i] := fun C α ow σ ρ H S v d P Q e r hm k =>
  k _ _ _ hm (e.set r) owDrop_eq (by rw [List.length_set]) fun j hj => List.getElem?_set_ne fun z => hj (by rw [z]; exact List.mem_cons_self ..)
def mgNil : TgMs
  | [], ρ, P => P ρ
  | _, _, _ => False
def mgCons (f : TgM) (f' : TgMs) : TgMs
  | d :: ds, ρ, P => f d ρ fun ρ' => f' ds ρ' P
  | _, _, _ => False
def mgTup (f' : TgMs) : TgM
  | .tup ds, ρ, P => f' ds ρ P
  | .pr ds, ρ, P => f' ds ρ P
  | _, _, _ => False
theorem dgs_nil : DGs Z K mg E gNil mgNil [] := fun C α ow σ ρ H S vs ds P Q e r hm k => by
  unfold mgNil at hm
  split at hm
  · cases r
    exact ⟨rfl, k ow σ ρ hm e (by funext j; simp [owWipe]) rfl fun _ _ => rfl⟩
  · exact hm.elim
theorem dgs_cons {g : TG} {f : TgM} {gs : TGs} {f' : TgMs} {us us' : List Nat} (h : DG Z K mg E g f us) (h' : DGs Z K mg E gs f' us') : DGs Z K mg E (gCons g gs) (mgCons f f') (us ++ us') := fun C α ow σ ρ H S vs ds P Q e r hm k => by
  unfold mgCons at hm
  split at hm
  · cases r with
    | cons r t =>
      refine ⟨_, _, rfl, h C α ow σ ρ H S _ _ _ _ e r hm fun ow1 σ1 ρ1 hm1 e1 le1 l1 n1 => ?_⟩
      refine h' C α ow1 σ1 ρ1 H S _ _ _ _ e1 (RvAll.le (by rw [le1]; exact owWipe_le) t) hm1 fun ow2 σ2 ρ2 hm2 e2 le2 l2 n2 => ?_
      exact k ow2 σ2 ρ2 hm2 e2 (by rw [le2, le1, owWipe_app]) (l2.trans l1) fun j hj => (n2 j fun z => hj (List.mem_append_right _ z)).trans (n1 j fun z => hj (List.mem_append_left _ z))
  · exact hm.elim
theorem dg_tup {gs : TGs} {f' : TgMs} {us : List Nat} {n : Nat} (h : DGs Z K mg E gs f' us) (hn : ∀ ds ρ P, f' ds ρ P → ds.length = n) : DG Z K mg E (gTup K n gs) (mgTup f') us := fun C α ow σ ρ H S v d P Q e r hm k => by
  unfold mgTup at hm
  split at hm
  · obtain ⟨a, xs, rfl, h1, h2, h3⟩ := Rp.tupI r
    exact ⟨a, xs, rfl, Same.tup hid_same h1, h3.len.trans (hn _ _ _ hm), h C α ow σ ρ H S _ _ _ _ e h3 hm k⟩
  · obtain ⟨a, xs, rfl, h1, h2, h3⟩ := Rp.prI r
    exact ⟨a, xs, rfl, Same.tup hid_same h1, h3.len.trans (hn _ _ _ hm), h C α ow σ ρ H S _ _ _ _ e h3 hm k⟩
  · exact hm.elim
theorem mgn_nil : ∀ ds ρ P, mgNil ds ρ P → ds.length = 0 := fun ds ρ P h => by
  unfold mgNil at h
  split at h
  · rfl
  · exact h.elim
theorem mgn_cons {f : TgM} {n : Nat} {f' : TgMs} (h : ∀ ds ρ P, f' ds ρ P → ds.length = n) (hf : ∀ d ρ P, f d ρ P → ∃ ρ', P ρ') : ∀ ds ρ P, mgCons f f' ds ρ P → ds.length = n + 1 := fun ds ρ P q => by
  unfold mgCons at q
  split at q
  · obtain ⟨ρ', q⟩ := hf _ _ _ q
    exact congrArg Nat.succ (h _ _ _ q)
  · exact q.elim
theorem mgp_name {i : Nat} : ∀ d ρ P, mName i d ρ P → ∃ ρ', P ρ' := fun _ _ _ h => ⟨_, h⟩
end
/-! ### comprehensions -/
section
variable {Z : ZP} {K : PySem.W.Frag} {mg : Str → Option Value} {E : XK} {C : Cy Z K mg E} {α α' : List Addr} {ow ow' : OwS} {σ : L2.St} {ρ : Env} {H H' : Hp} {S S' : Sto}
variable {te : TE} {me : ME} {tt : TT} {mt : MT} {g : TG} {f : TgM} {us vs : List Nat} {wi : TI} {mi : MI}
def wipeD (ρ : Env) : List Nat → Env
  | [] => ρ
  | v :: vs => (wipeD ρ vs).set v .un
def noX : Ex → Sto → Prop := fun _ _ => False
def lcD (f : TgM) (mt : MT) (me : ME) (ρ : Env) : List D → List D → Sto → (List D → Sto → Prop) → Prop
  | [], acc, S, P => P acc S
  | d :: ds, acc, S, P => f d ρ fun ρ2 => mt ρ2 S (fun b S1 => if b = true then me ρ2 S1 (fun y S2 => lcD f mt me ρ ds (acc ++ [y]) S2 P) noX else lcD f mt me ρ ds acc S1 P) noX
def isOw : Option Sl → Bool
  | some (.ow _) => true
  | _ => false
def mLc (mi : MI) (f : TgM) (mt : MT) (me : ME) (vs : List Nat) : ME := fun ρ S P X => (∀ j ∈ vs, isOw ρ[j]? = false) ∧ mi ρ S (fun ds S1 => ds.length ≤ sizeLine ∧ lcD f mt me (wipeD ρ vs) ds [] S1 fun out S2 => P (.lst out) S2) X
def mYes : MT := fun _ S P _ => P true S
theorem dt_yes : DT Z K mg E tYes mYes := fun C α ow σ ρ H S P X Q e hm hx k => k _ α H S hm e.go
theorem wipeD_length (ρ : Env) : ∀ vs : List Nat, (wipeD ρ vs).length = ρ.length
  | [] => rfl
  | v :: vs => by unfold wipeD; rw [List.length_set, wipeD_length ρ vs]
theorem wipeD_get {ρ : Env} : ∀ {vs : List Nat} {j : Nat}, (wipeD ρ vs)[j]? = if j ∈ vs then ρ[j]?.map fun _ => .un else ρ[j]?
  | [], j => by simp [wipeD]
  | v :: vs, j => by
    show ((wipeD ρ vs).set v .un)[j]? = _
    by_cases h : v = j
    · subst h
      rw [if_pos (List.mem_cons_self ..)]
      by_cases hl : v < (wipeD ρ vs).length
      · rw [List.getElem?_set_self hl]
        rw [wipeD_length] at hl
        rw [List.getElem?_eq_getElem hl]
        rfl
      · rw [List.getElem?_eq_none (by rw [List.length_set]; omega)]
        rw [wipeD_length] at hl
        rw [List.getElem?_eq_none (by omega)]
        rfl
    · rw [List.getElem?_set_ne h, wipeD_get]
      by_cases hm : j ∈ vs
      · rw [if_pos hm, if_pos (List.mem_cons_of_mem _ hm)]
      · rw [if_neg hm, if_neg (by simp [Ne.symm h, hm])]
theorem Ev.wipe (e : Ev C α ow σ ρ H S) (vs : List Nat) : Ev C α (owWipe ow vs) (L2.wipe σ vs) (wipeD ρ vs) H S := by
  refine ⟨fun j => ?_, fun j k a h1 h2 => e.inj j k a (owWipe_le _ _ h1) (owWipe_le _ _ h2), fun j a h => e.nA j a (owWipe_le _ _ h), e.fr, e.st.le owWipe_le⟩
  by_cases hj : j ∈ vs
  · have ow0 : owWipe ow vs j = none := by unfold owWipe; rw [if_pos hj]
    rw [ow0, wipe_get, wipeD_get, if_pos hj, if_pos hj]
    have q := (e.sl j).len
    cases hs : σ[j]? with
    | none =>
      rw [hs] at q
      cases hr : ρ[j]? with
      | none => exact .out
      | some _ => rw [hr] at q; cases q
    | some s =>
      rw [hs] at q
      cases hr : ρ[j]? with
      | none => rw [hr] at q; cases q
      | some _ => exact .un
  · rw [wipe_get, wipeD_get, if_neg hj, if_neg hj]
    exact e.le_sl owWipe_le (by unfold owWipe; rw [if_neg hj])
theorem wipe_eq {σ σ2 : L2.St} {vs us : List Nat} (hu : ∀ i ∈ us, i ∈ vs) (hl : σ2.length = (wipe σ vs).length) (h : ∀ j, j ∉ us → σ2[j]? = (wipe σ vs)[j]?) : wipe σ2 vs = wipe σ vs := by
  refine List.ext_getElem? fun j => ?_
  rw [wipe_get]
  by_cases hj : j ∈ vs
  · rw [if_pos hj]
    rw [wipe_length] at hl
    rw [wipe_get, if_pos hj]
    by_cases hlt : j < σ.length
    · rw [List.getElem?_eq_getElem hlt, List.getElem?_eq_getElem (by omega)]; rfl
    · rw [List.getElem?_eq_none (by omega), List.getElem?_eq_none (by omega)]
  · rw [if_neg hj, h j fun z => hj (hu j z)]
end
section
variable {Z : ZP} {K : PySem.W.Frag} {mg : Str → Option Value} {E E' : XK} {C : Cy Z K mg E} {α α' : List Addr} {ow ow' : OwS} {σ : L2.St} {ρ : Env} {H H' : Hp} {S S' : Sto}
variable {te : TE} {me : ME} {tt : TT} {mt : MT} {g : TG} {f : TgM} {us vs : List Nat} {wi : TI} {mi : MI}
theorem Ev.noOw (e : Ev C α ow σ ρ H S) (h : ∀ j ∈ vs, isOw ρ[j]? = false) : owWipe ow vs = ow := by
  funext j
  unfold owWipe
  split
  · have q := e.sl j
    have h1 := h j ‹_›
    generalize ow j = w at q ⊢
    generalize σ[j]? = s at q
    generalize ρ[j]? = r at q h1
    cases q <;> first | rfl | cases h1
  · rfl
/-- a new thing, hidden too -/
theorem enterS {C : Cy Z K mg E} {p : Addr} {H1 : Hp} {α1 : List Addr} (hp : H p = none) (f : Fr C.β α H α1 H1) : Same (hid (C.hd α ow) H) (hid (fun a => C.hd α1 ow a ∨ a = p) H1) := fun a o q => by
  have h := hid_fr (C := C) (ow := ow) f a o q
  obtain ⟨h1, h2⟩ := hid_some h
  refine hid_get ?_ h2 (hid_nt h)
  · rintro (z | z)
    · exact h1 z
    · obtain ⟨_, q2⟩ := hid_some q
      rw [z, hp] at q2
      cases q2
theorem inLc_hd {C1 : Cy Z K mg E'} {p : Addr} (hA : C1.A = fun a => C.A a ∨ a = p) {α1 : List Addr} : C1.hd α1 ow = fun a => C.hd α1 ow a ∨ a = p := by
  funext a
  unfold Cy.hd
  rw [hA]
  refine propext ⟨?_, ?_⟩
  · rintro ((h | h) | h | h)
    · exact .inl (.inl h)
    · exact .inr h
    · exact .inl (.inr (.inl h))
    · exact .inl (.inr (.inr h))
  · rintro ((h | h | h) | h)
    · exact .inl (.inl h)
    · exact .inr (.inl h)
    · exact .inr (.inr h)
    · exact .inl (.inr h)
theorem lc_run (hi : DI Z K mg E wi mi) (hg : DG Z K mg E' g f us) (hu : ∀ i ∈ us, i ∈ vs) (ht : DT Z K mg E' tt mt) (he : DE Z K mg E' te me) (C : Cy Z K mg E) (α : List Addr) (ow : OwS) (σ : L2.St) (ρ : Env) (H : Hp) (S : Sto) (P : D → Sto → Prop) (X : Ex → Sto → Prop) (Q : VK)
    (e : Ev C α ow σ ρ H S) (hm : mLc mi f mt me vs ρ S P X) (hx : XOk C X)
    (k : ∀ dacc acc p α' H' S', P (.lst dacc) S' → Go C ow α H α' H' S' → H p = none → p ∉ α' → H' p = some (.lst acc) → acc.length ≤ sizeLine → RpAll Z K mg C.β α' (hid (fun a => C.hd α' ow a ∨ a = p) H') acc dacc → (∀ (i : Nat) (a : Addr) (o : Ob), α'[i]? = some a → S'[i]? = some o → ObOk Z K mg C.β α' (fun a => C.hd α' ow a ∨ a = p) H' a o) → Q (.ref p) H') : tLc wi g tt te vs σ H Q := by
  obtain ⟨hn, hm⟩ := hm
  refine hi C α ow σ ρ H S _ X _ e hm hx fun ds J α1 H1 S1 hm1 f1 it p hp => ?_
  obtain ⟨hz, hm1⟩ := hm1
  have e1 := e.step f1
  obtain ⟨n, G, Y, wk, hnl, hG, hY⟩ := it
  have wp : owWipe ow vs = ow := e1.noOw hn
  have ew : Ev C α1 ow (wipe σ vs) (wipeD ρ vs) H1 S1 := by have := e1.wipe vs; rwa [wp] at this
  have g0 : Go C ow α1 H1 α1 (upd H1 p (.lst [])) S1 := e1.nw hp
  have np1 : p ∉ α1 := fun z => e1.stands (.inr (.inl z)) hp
  refine ⟨fun i m H' => m = n - i ∧ i ≤ n ∧ ∃ acc dacc α' S', H' p = some (.lst acc) ∧ acc.length ≤ i ∧ p ∉ α' ∧ RpAll Z K mg C.β α' (hid (fun a => C.hd α' ow a ∨ a = p) H') acc dacc ∧ Fr C.β α1 H1 α' H' ∧ StOk C α' ow H' S' ∧ (∀ (i : Nat) (a : Addr) (o : Ob), α'[i]? = some a → S'[i]? = some o → ObOk Z K mg C.β α' (fun a => C.hd α' ow a ∨ a = p) H' a o) ∧ lcD f mt me (wipeD ρ vs) (ds.drop i) dacc S' fun out S2 => P (.lst out) S2, ⟨n, by simp, Nat.zero_le _, [], [], α1, S1, upd_same, Nat.zero_le _, np1, .nil, g0.fr, g0.st, fun i a o h1 h2 => (e1.st.ob i a o h1 h2).mono (List.prefix_refl _) (enterS hp g0.fr) fun o q _ => by rw [upd_ne (fun z => by rw [z, hp] at q; cases q)]; exact q, hm1⟩, ?_⟩
  rintro i m H' ⟨rfl, hi, acc, dacc, α', S', hacc, hal, np', hr, fr, sto, obs, hl⟩
  have hst : H' p ≠ none := by rw [hacc]; simp
  have sm : Same (hid (C.hd α1 ow) H1) (hid (fun a => C.hd α' ow a ∨ a = p) H') := enterS hp fr
  by_cases hlt : i < n
  · refine .inr ⟨wk.goes i H' hlt (hG _ _ sm), fun H4 => ∃ acc dacc α' S', H4 p = some (.lst acc) ∧ acc.length ≤ i + 1 ∧ p ∉ α' ∧ RpAll Z K mg C.β α' (hid (fun a => C.hd α' ow a ∨ a = p) H4) acc dacc ∧ Fr C.β α1 H1 α' H4 ∧ StOk C α' ow H4 S' ∧ (∀ (i : Nat) (a : Addr) (o : Ob), α'[i]? = some a → S'[i]? = some o → ObOk Z K mg C.β α' (fun a => C.hd α' ow a ∨ a = p) H4 a o) ∧ lcD f mt me (wipeD ρ vs) (ds.drop (i + 1)) dacc S' fun out S2 => P (.lst out) S2, fun H4 p4 => ⟨n - (i + 1), by omega, rfl, hlt, p4⟩, fun x H2 y => ?_⟩
    have eM : Ev C α' ow (wipe σ vs) (wipeD ρ vs) H' S' := ew.step ⟨fr, sto⟩
    let C1 : Cy Z K mg E' := ⟨C.β, fun a => C.A a ∨ a = p, H', α', eM.bg, fun b l ns q => .inl (C.hb b l ns q), fun a z => z.elim (fun z => eM.stands (.inl z)) fun z => by rw [z]; exact hst, fun a m => eM.stands (.inr (.inl m)), C.ht, fun a z => z.elim (fun z => eM.nc (.inl z)) fun z => by rw [z]; exact ⟨_, hacc, nco_lst⟩⟩
    have hA1 : ∀ α2, C1.hd α2 ow = fun a => C.hd α2 ow a ∨ a = p := fun α2 => inLc_hd (C := C) rfl
    have e2 : Ev C1 α' ow (wipe σ vs) (wipeD ρ vs) H' S' := by
      refine ⟨fun j => ?_, ew.inj, fun j a h z => ?_, Fr.refl eM.bg, ⟨sto.len, sto.nd, fun a m z => z.elim (sto.nA a m) fun z => np' (by rw [← z]; exact m), sto.nL, sto.no, fun j a o h1 h2 => by rw [hA1]; exact obs j a o h1 h2⟩⟩
      · have q := ew.sl j
        generalize hw : ow j = w at q ⊢
        generalize (wipe σ vs)[j]? = s at q ⊢
        generalize (wipeD ρ vs)[j]? = r at q ⊢
        cases q with
        | out => exact .out
        | un => exact .un
        | va r => exact .va (by unfold Rv; rw [hA1]; exact Rp.mono fr.pre sm r)
        | ow r => exact .ow (by unfold Ow; rw [hA1]; exact OwB.mono fr.pre sm (fun _ ho nt => ew.get fr hw ho nt) r)
      · rcases z with z | z
        · exact eM.nA j a h z
        · rw [z] at h; exact ew.stands (.inr (.inr ⟨j, h⟩)) hp
    have yy := wk.yields i H' x H2 hlt (hG _ _ sm) y
    have hdi : i < ds.length := by omega
    obtain ⟨s2, rx⟩ := hY i x (C1.hd α' ow) H' H2 (by rw [hA1]; exact sm) (fun a z => e2.stands z) hlt yy
    have rx := Rp.mono fr.pre (Same.refl _) (rx _ (List.getElem?_eq_getElem hdi))
    rw [List.drop_eq_getElem_cons hdi] at hl
    have g2 := e2.sm s2
    have e3 := e2.step g2
    refine hg C1 α' ow _ _ H2 S' x _ _ _ e3 rx hl fun ow2 σ2 ρ2 hm2 ev2 how hlen hsl => ⟨wipe_eq hu hlen hsl, ?_⟩
    have how2 : ow2 = ow := by
      rw [how]
      exact ew.noOw (vs := us) fun j hj => by
        rw [wipeD_get, if_pos (hu j hj)]
        cases ρ[j]? <;> rfl
    subst how2
    have nbp : NoBg C.β p := fun b l ns q z => by
      obtain ⟨_, w⟩ := (e1.bg.bag b l ns q).here
      rw [← z, hp] at w; cases w
    have keepD : ∀ {αa αb : List Addr} {Ha Hb : Hp}, p ∉ αa → Fr C.β αa Ha αb Hb → Ha p = some (.lst acc) → Hb p = some (.lst acc) := fun n f h => f.keep p _ nbp n h (by intro _ z; cases z)
    have hD2 : H2 p = some (.lst acc) := s2 _ _ hacc
    refine ht C1 α' ow2 σ2 ρ2 H2 S' _ noX _ ev2 hm2 (fun _ _ _ _ _ _ z => z.elim) fun b α3 H3 S3 hm3 g3 => ?_
    have np3 : p ∉ α3 := fun z => (g3.st.nA p z) (.inr rfl)
    have hD3 := keepD np' g3.fr hD2
    have g13 := g2.trans g3
    have accAt : ∀ {αb : List Addr} {Hb : Hp}, Fr C.β α' H' αb Hb → RpAll Z K mg C.β αb (hid (fun a => C.hd αb ow2 a ∨ a = p) Hb) acc dacc := fun f => by
      have := hid_fr (C := C1) (ow := ow2) f
      rw [hA1, hA1] at this
      exact RpAll.mono f.pre this hr
    have unst : ∀ {αb : List Addr} {Hb : Hp} {Sb : Sto}, StOk C1 αb ow2 Hb Sb → StOk C αb ow2 Hb Sb ∧ (∀ (i : Nat) (a : Addr) (o : Ob), αb[i]? = some a → Sb[i]? = some o → ObOk Z K mg C.β αb (fun a => C.hd αb ow2 a ∨ a = p) Hb a o) := fun {αb Hb Sb} h => by
      have ho : ∀ (i : Nat) (a : Addr) (o : Ob), αb[i]? = some a → Sb[i]? = some o → ObOk Z K mg C.β αb (fun a => C.hd αb ow2 a ∨ a = p) Hb a o := fun i a o h1 h2 => by have := h.ob i a o h1 h2; rw [hA1] at this; exact this
      exact ⟨⟨h.len, h.nd, fun a m z => h.nA a m (.inl z), h.nL, h.no, fun i a o h1 h2 => (ho i a o h1 h2).mono (List.prefix_refl _) (hid_mono fun a z => .inl z) fun _ q _ => q⟩, ho⟩
    cases b with
    | false =>
      rw [if_neg Bool.false_ne_true] at hm3 ⊢
      obtain ⟨st3, ob3⟩ := unst g3.st
      exact ⟨acc, dacc, α3, S3, hD3, by omega, np3, accAt g13.fr, fr.trans g13.fr, st3, ob3, hm3⟩
    | true =>
      rw [if_pos rfl] at hm3 ⊢
      refine he C1 α3 ow2 σ2 ρ2 H3 S3 _ noX _ (ev2.step g3) hm3 (fun _ _ _ _ _ _ z => z.elim) fun yd yv α4 H4 S4 hm4 g4 r4 => ?_
      have np4 : p ∉ α4 := fun z => (g4.st.nA p z) (.inr rfl)
      have hD4 := keepD np3 g4.fr hD3
      have gA := g13.trans g4
      obtain ⟨st4, ob4⟩ := unst g4.st
      have hsame : Same (hid (fun a => C.hd α4 ow2 a ∨ a = p) H4) (hid (fun a => C.hd α4 ow2 a ∨ a = p) (upd H4 p (.lst (acc ++ [yv])))) := fun a o q => by
        obtain ⟨q1, q2⟩ := hid_some q
        exact hid_get q1 (by rw [upd_ne fun z => q1 (.inr z)]; exact q2) (hid_nt q)
      have r4' : Rp Z K mg C.β α4 (hid (fun a => C.hd α4 ow2 a ∨ a = p) H4) yv yd := by
        unfold Rv at r4
        rw [hA1] at r4
        exact r4
      have obn : ∀ (i : Nat) (a : Addr) (o : Ob), α4[i]? = some a → S4[i]? = some o → ObOk Z K mg C.β α4 (fun a => C.hd α4 ow2 a ∨ a = p) (upd H4 p (.lst (acc ++ [yv]))) a o := fun i a o h1 h2 => (ob4 i a o h1 h2).mono (List.prefix_refl _) hsame fun o q _ => by
        rw [upd_ne (fun z => np4 (by rw [← z]; exact List.mem_of_getElem? h1))]; exact q
      refine ⟨acc, hD4, by omega, acc ++ [yv], dacc ++ [yd], α4, S4, upd_same, by rw [List.length_append]; exact Nat.succ_le_succ hal, np4, ?_, (fr.trans gA.fr).mut hp (tabs_lst gA.fr.bag.tab hD4), ⟨st4.len, st4.nd, st4.nA, st4.nL, st4.no, fun i a o h1 h2 => (obn i a o h1 h2).mono (List.prefix_refl _) (hid_mono fun a z => .inl z) fun _ q _ => q⟩, obn, hm4⟩
      exact (RpAll.same hsame (accAt gA.fr)).append (.cons (Rp.same hsame r4') .nil)
  · have hin : i = n := by omega
    subst hin
    refine .inl ⟨wk.stops H' (hG _ _ sm), ?_⟩
    rw [List.drop_of_length_le (by omega)] at hl
    exact k _ _ _ _ _ _ hl (f1.trans ⟨fr, sto⟩) (f1.fr.none_ahead hp) np' hacc (by omega) hr obs
theorem de_lc (hi : DI Z K mg E wi mi) (hg : DG Z K mg E' g f us) (hu : ∀ i ∈ us, i ∈ vs) (ht : DT Z K mg E' tt mt) (he : DE Z K mg E' te me) : DE Z K mg E (tLc wi g tt te vs) (mLc mi f mt me vs) := fun C α ow σ ρ H S P X Q e hm hx k =>
  lc_run hi hg hu ht he C α ow σ ρ H S P X Q e hm hx fun dacc acc p α' H' S' pd g hp np hacc hz r _ => k _ _ _ _ _ pd g (.lst (hid_get (fun z => (z.elim (fun z => e.stands (.inl z) hp) fun z => z.elim np fun ⟨i, z⟩ => e.stands (.inr (.inr ⟨i, z⟩)) hp)) hacc) hz (RpAll.same (hid_mono fun a z => .inl z) r))
end
end Nc

namespace Nc
open PySem PySem.Spec PyProof.Rows L2
/-! ## statements, on data -/
structure Pn where
  nx : Env → Sto → Prop
  rt : D → Sto → Prop
  bk : Env → Sto → Prop
  ct : Env → Sto → Prop
  ex : Ex → Sto → Prop
section
variable {Z : ZP} {K : PySem.W.Frag} {mg : Str → Option Value} {E : XK}
/-- own objects are new -/
def Nw (C : Cy Z K mg E) (ow : OwS) : Prop := ∀ i a, ow i = some a → C.H0 a = none
/-- what stood for a datum goes on to do so -/
structure Aft (C : Cy Z K mg E) (α : List Addr) (ow : OwS) (H : Hp) (α' : List Addr) (ow' : OwS) (H' : Hp) : Prop where
  pre : α <+: α'
  sm : Same (hid (C.hd α ow) H) (hid (C.hd α' ow') H')
structure EndOk (F : Bool) (C : Cy Z K mg E) (α : List Addr) (ow : OwS) (H : Hp) (e : Pn) (Dn : Ends) : Prop where
  nx : ∀ α' ow' σ' ρ' H' S', e.nx ρ' S' → Ev C α' ow' σ' ρ' H' S' → Nw C ow' → Aft C α ow H α' ow' H' → Dn.nx σ' H'
  bk : ∀ α' ow' σ' ρ' H' S', e.bk ρ' S' → Ev C α' ow' σ' ρ' H' S' → Nw C ow' → Aft C α ow H α' ow' H' → Dn.bk σ' H'
  ct : ∀ α' ow' σ' ρ' H' S', e.ct ρ' S' → Ev C α' ow' σ' ρ' H' S' → Nw C ow' → Aft C α ow H α' ow' H' → Dn.ct σ' H'
  rt : F = false → ∀ d v α' H' S', e.rt d S' → Go C ow0 C.α0 C.H0 α' H' S' → Rv C α' ow0 H' v d → Dn.rt v H'
  rf : F = true → ∀ d p α' H' S', e.rt d S' → Go C ow0 C.α0 C.H0 α' H' S' → C.H0 p = none → Nu Z K mg C.β (C.hd α' ow0) α' H' S' p d → Dn.rt (.ref p) H'
  ex : XOk C e.ex
end
abbrev MS := Env → Sto → Pn → Prop
def DS (Z : ZP) (K : PySem.W.Frag) (mg : Str → Option Value) (E : XK) (F : Bool) (t : TS) (m : MS) : Prop := ∀ (C : Cy Z K mg E) (α : List Addr) (ow : OwS) (σ : L2.St) (ρ : Env) (H : Hp) (S : Sto) (e : Pn) (Dn : Ends),
  Ev C α ow σ ρ H S → Nw C ow → m ρ S e → EndOk F C α ow H e Dn → t Dn σ H
section
variable {Z : ZP} {K : PySem.W.Frag} {mg : Str → Option Value} {E : XK} {C : Cy Z K mg E} {α α' α1 : List Addr} {ow ow' ow1 : OwS} {σ : L2.St} {ρ : Env} {H H' H1 : Hp} {S S' S1 : Sto} {e : Pn} {Dn : Ends} {F : Bool}
variable {te : TE} {me : ME} {tt : TT} {mt : MT} {g : TG} {f : TgM} {us vs : List Nat} {wi : TI} {mi : MI} {t u : TS} {m m' : MS}
theorem Aft.refl : Aft C α ow H α ow H := ⟨List.prefix_refl _, Same.refl _⟩
theorem Aft.trans (a : Aft C α ow H α1 ow1 H1) (b : Aft C α1 ow1 H1 α' ow' H') : Aft C α ow H α' ow' H' := ⟨a.pre.trans b.pre, a.sm.trans b.sm⟩
theorem Go.aft (g : Go C ow α H α' H' S') : Aft C α ow H α' ow H' := ⟨g.fr.pre, hid_fr g.fr⟩
theorem OwLe.aft (h : OwLe ow' ow) : Aft C α ow H α ow' H := ⟨List.prefix_refl _, hid_mono h.hd⟩
theorem EndOk.later (k : EndOk F C α ow H e Dn) (s : Aft C α ow H α' ow' H') : EndOk F C α' ow' H' e Dn :=
  ⟨fun a b c d f g x y z w => k.nx a b c d f g x y z (s.trans w), fun a b c d f g x y z w => k.bk a b c d f g x y z (s.trans w), fun a b c d f g x y z w => k.ct a b c d f g x y z (s.trans w), k.rt, k.rf, k.ex⟩
def kSeq (m m' : MS) : MS := fun ρ S e => m ρ S { e with nx := fun ρ' S' => m' ρ' S' e }
theorem ds_seq (h : DS Z K mg E F t m) (h' : DS Z K mg E F u m') : DS Z K mg E F (tSeq t u) (kSeq m m') := fun C α ow σ ρ H S e Dn ev nw hm k =>
  h C α ow σ ρ H S _ _ ev nw hm ⟨fun α' ow' σ' ρ' H' S' p ev' nw' s => h' C α' ow' σ' ρ' H' S' e Dn ev' nw' p (k.later s), k.bk, k.ct, k.rt, k.rf, k.ex⟩
def kNext : MS := fun ρ S e => e.nx ρ S
theorem ds_next : DS Z K mg E F tNext kNext := fun C α ow σ ρ H S e Dn ev nw hm k => k.nx α ow σ ρ H S hm ev nw Aft.refl
def kBreak : MS := fun ρ S e => e.bk ρ S
def kCont : MS := fun ρ S e => e.ct ρ S
def kNever : MS := fun _ _ _ => False
def kAsg (me : ME) (f : TgM) : MS := fun ρ S e => me ρ S (fun d S1 => f d ρ fun ρ' => e.nx ρ' S1) e.ex
theorem ds_asg (h : DE Z K mg E te me) (hg : DG Z K mg E g f us) : DS Z K mg E F (tAsg te g) (kAsg me f) := fun C α ow σ ρ H S e Dn ev nw hm k =>
  h C α ow σ ρ H S _ _ _ ev hm k.ex fun d v α1 H1 S1 p fr r => hg C α1 ow σ ρ H1 S1 v d _ _ (ev.step fr) r p fun ow' σ' ρ' p' ev' how _ _ =>
    k.nx α1 ow' σ' ρ' H1 S1 p' ev' (fun i a q => nw i a (by rw [how] at q; exact owWipe_le _ _ q)) (fr.aft.trans (OwLe.aft (by rw [how]; exact owWipe_le)))
def kRet (me : ME) : MS := fun ρ S e => me ρ S e.rt e.ex
theorem ds_ret (h : DE Z K mg E te me) : DS Z K mg E false (tRet te) (kRet me) := fun C α ow σ ρ H S e Dn ev nw hm k =>
  h C α ow σ ρ H S _ _ _ ev hm k.ex fun d v α1 H1 S1 p fr r => k.rt rfl d v α1 H1 S1 p ((ev.step fr).go0) r.out
def kRetN : MS := fun _ S e => e.rt .non S
def kDrop (me : ME) : MS := fun ρ S e => me ρ S (fun _ S1 => e.nx ρ S1) e.ex
theorem ds_drop (h : DE Z K mg E te me) : DS Z K mg E F (tDrop te) (kDrop me) := fun C α ow σ ρ H S e Dn ev nw hm k =>
  h C α ow σ ρ H S _ _ _ ev hm k.ex fun d v α1 H1 S1 p fr r => k.nx α1 ow σ ρ H1 S1 p (ev.step fr) nw fr.aft
def kIf (mt : MT) (m m' : MS) : MS := fun ρ S e => mt ρ S (fun b S1 => if b = true then m ρ S1 e else m' ρ S1 e) e.ex
theorem ds_if (ht : DT Z K mg E tt mt) (h : DS Z K mg E F t m) (h' : DS Z K mg E F u m') : DS Z K mg E F (tIfS tt t u) (kIf mt m m') := fun C α ow σ ρ H S e Dn ev nw hm k =>
  ht C α ow σ ρ H S _ _ _ ev hm k.ex fun b α1 H1 S1 p fr => by
    cases b with
    | true => rw [if_pos rfl] at p ⊢; exact h C α1 ow σ ρ H1 S1 e Dn (ev.step fr) nw p (k.later fr.aft)
    | false => rw [if_neg Bool.false_ne_true] at p ⊢; exact h' C α1 ow σ ρ H1 S1 e Dn (ev.step fr) nw p (k.later fr.aft)
/-! own objects -/
/-- a new object, leant on by nothing -/
def DF (Z : ZP) (K : PySem.W.Frag) (mg : Str → Option Value) (E : XK) (t : TE) (m : ME) : Prop := ∀ (C : Cy Z K mg E) (α : List Addr) (ow : OwS) (σ : L2.St) (ρ : Env) (H : Hp) (S : Sto) (P : D → Sto → Prop) (X : Ex → Sto → Prop) (Q : VK),
  Ev C α ow σ ρ H S → m ρ S P X → XOk C X → (∀ d p α' H' S', P d S' → Go C ow α H α' H' S' → H p = none → Nu Z K mg C.β (C.hd α' ow) α' H' S' p d → Q (.ref p) H') → t σ H Q
theorem rvAll_beside {vs : List V} {ds : List D} {p : Addr} {o : HO} (h : H p = none) (r : RvAll C α ow H vs ds) {B : Addr → Prop} (hw : ∀ a, B a → C.hd α ow a ∨ a = p) : RpAll Z K mg C.β α (hid B (upd H p o)) vs ds := RpAll.same (fun a o' q => by
  obtain ⟨q1, q2⟩ := hid_some q
  have hne : a ≠ p := fun z => by rw [z, h] at q2; cases q2
  exact hid_get (fun z => (hw a z).elim q1 hne) (by rw [upd_ne hne]; exact q2) (hid_nt q)) r
theorem Ev.os (ev : Ev C α ow σ ρ H S) {p : Addr} {o : HO} (h : H p = none) : ∀ (i : Nat) (a : Addr) (u : Ob), α[i]? = some a → S[i]? = some u → ObOk Z K mg C.β α (fun a => C.hd α ow a ∨ a = p) (upd H p o) a u := fun i a u h1 h2 =>
  (ev.st.ob i a u h1 h2).mono (List.prefix_refl _) (enterS h (ev.nw h).fr) fun o q _ => by rw [upd_ne (fun z => by rw [z, h] at q; cases q)]; exact q
theorem Ev.npα (ev : Ev C α ow σ ρ H S) {p : Addr} (h : H p = none) : p ∉ α := fun z => ev.stands (.inr (.inl z)) h
theorem df_dnew : DF Z K mg E tDNewK (mC (.dic [] [])) := fun C α ow σ ρ H S P X Q e hm hx k p hp => k _ p _ _ _ hm (e.nw hp) hp ⟨e.npα hp, fun B hw => .dK (kvs := []) upd_same (Nat.zero_le _) (fun _ q => nomatch q) .nil, e.os hp⟩
def owSet (ow : OwS) (i : Nat) (p : Addr) : OwS := fun j => if j = i then some p else ow j
def kOwn (i : Nat) (me : ME) : MS := fun ρ S e => i < ρ.length ∧ me ρ S (fun d S1 => e.nx (ρ.set i (.ow d)) S1) e.ex
theorem owSet_hd {i : Nat} {p a : Addr} (z : C.hd α (owSet ow i p) a) : C.hd α ow a ∨ a = p := by
  rcases z with z | z | ⟨j, z⟩
  · exact .inl (.inl z)
  · exact .inl (.inr (.inl z))
  · unfold owSet at z
    split at z
    · cases z; exact .inr rfl
    · exact .inl (.inr (.inr ⟨j, z⟩))
theorem Ev.setOw (ev : Ev C α ow σ ρ H S) {i : Nat} {p : Addr} {d : D} (hi : i < ρ.length) (hp : H p = none) (fr : Go C ow α H α' H' S') (hb : Nu Z K mg C.β (C.hd α' ow) α' H' S' p d) : Ev C α' (owSet ow i p) (σ.set i (some (.ref p))) (ρ.set i (.ow d)) H' S' := by
  have sm : Same (hid (C.hd α ow) H) (hid (C.hd α' (owSet ow i p)) H') := (enterS hp fr.fr).trans (hid_mono fun a z => owSet_hd z)
  refine ⟨fun j => ?_, fun j k a h1 h2 => ?_, fun j a h => ?_, ev.fr.trans fr.fr, ⟨fr.st.len, fr.st.nd, fr.st.nA, fr.st.nL, fun j a h => ?_, fun j a o h1 h2 => (hb.os j a o h1 h2).mono (List.prefix_refl _) (hid_mono fun a z => owSet_hd z) fun _ q _ => q⟩⟩
  · by_cases hj : j = i
    · subst hj
      rw [List.getElem?_set_self (ev.lt.mpr hi), List.getElem?_set_self hi, show owSet ow j p j = some p by unfold owSet; rw [if_pos rfl]]
      exact .ow (hb.ob _ fun a z => owSet_hd z)
    · rw [List.getElem?_set_ne (Ne.symm hj), List.getElem?_set_ne (Ne.symm hj), show owSet ow i p j = ow j by unfold owSet; rw [if_neg hj]]
      have q := ev.sl j
      generalize hw : ow j = w at q ⊢
      generalize σ[j]? = s at q ⊢
      generalize ρ[j]? = r at q ⊢
      cases q with
      | out => exact .out
      | un => exact .un
      | va r => exact .va (Rp.mono fr.fr.pre sm r)
      | ow r => exact .ow (OwB.mono fr.fr.pre sm (fun _ ho => ev.get fr.fr hw ho) r)
  · unfold owSet at h1 h2
    split at h1 <;> split at h2
    · omega
    · cases h1; exact absurd hp (ev.stands (.inr (.inr ⟨k, h2⟩)))
    · cases h2; exact absurd hp (ev.stands (.inr (.inr ⟨j, h1⟩)))
    · exact ev.inj j k a h1 h2
  · unfold owSet at h
    split at h
    · cases h
      exact fun z => ev.stands (.inl z) hp
    · exact ev.nA j a h
  · unfold owSet at h
    split at h
    · cases h; exact hb.np
    · exact fr.st.no j a h
theorem ds_own {i : Nat} (h : DF Z K mg E te me) : DS Z K mg E F (tAsg te (gName i)) (kOwn i me) := fun C α ow σ ρ H S e Dn ev nw hm k => by
  obtain ⟨hi, hm⟩ := hm
  refine h C α ow σ ρ H S _ _ _ ev hm k.ex fun d p α1 H1 S1 pd fr hp hb => ?_
  have ev2 := ev.setOw (i := i) hi hp fr hb
  refine k.nx α1 (owSet ow i p) _ _ _ S1 pd ev2 (fun j a q => ?_) ⟨fr.fr.pre, (enterS hp fr.fr).trans (hid_mono fun a z => owSet_hd z)⟩
  unfold owSet at q
  split at q
  · cases q
    exact ev.fr.none_ahead hp
  · exact nw j a q
/-- no longer written -/
def frz (i : Nat) (ρ : Env) : Env := match ρ[i]? with
  | some (.ow (.lst ds)) => ρ.set i (.va (.lst ds))
  | _ => ρ
theorem OwB.rv {β : BG} {B : Addr → Prop} {a : Addr} {ds : List D} (hA : ¬ B a) (h : OwB Z K mg β α B H a (.lst ds)) : Rp Z K mg β α (hid B H) (.ref a) (.lst ds) := by
  cases h with
  | lst h1 h2 h3 => exact .lst (hid_get hA h1) h2 h3
theorem Ow.rv {i : Nat} {a : Addr} {ds : List D} (ev : Ev C α ow σ ρ H S) (hi : ow i = some a) (h : Ow C α ow H a (.lst ds)) : Rv C α (owDrop ow i) H (.ref a) (.lst ds) := by
  have hA : ¬ C.hd α (owDrop ow i) a := by
    rintro (z | z | ⟨j, z⟩)
    · exact ev.nA i a hi z
    · exact ev.st.no i a hi z
    · have := ev.inj j i a (owDrop_le _ _ z) hi
      rw [this] at z
      unfold owDrop at z
      rw [if_pos rfl] at z
      cases z
  exact OwB.rv hA (Ow.le owDrop_le h)
theorem Ev.frz (ev : Ev C α ow σ ρ H S) (i : Nat) : ∃ ow', OwLe ow' ow ∧ Ev C α ow' σ (Nc.frz i ρ) H S := by
  unfold Nc.frz
  split
  · have h := ev.sl i
    rename_i d hd
    rw [hd] at h
    have hil : i < ρ.length := (List.getElem?_eq_some_iff.mp hd).1
    generalize hw : ow i = w at h
    generalize hs : σ[i]? = s at h
    cases h with
    | ow h =>
      have r := Ow.rv ev hw h
      refine ⟨owDrop ow i, owDrop_le, fun j => ?_, fun j k a h1 h2 => ev.inj j k a (owDrop_le _ _ h1) (owDrop_le _ _ h2), fun j a h => ev.nA j a (owDrop_le _ _ h), ev.fr, ev.st.le owDrop_le⟩
      by_cases hj : j = i
      · subst hj
        rw [List.getElem?_set_self hil, hs, show owDrop ow j j = none by unfold owDrop; rw [if_pos rfl]]
        exact .va r
      · rw [List.getElem?_set_ne (Ne.symm hj)]
        exact ev.le_sl owDrop_le (by unfold owDrop; rw [if_neg hj])
  · exact ⟨ow, fun _ _ h => h, ev⟩
def kFrz (i : Nat) (m : MS) : MS := fun ρ S e => m (frz i ρ) S e
/-- return x, an own object -/
def kRetOw (i : Nat) : MS := fun ρ S e => match ρ[i]? with
  | some (.ow (.lst ds)) => e.rt (.lst ds) S
  | _ => False
/-- .. a dict, the answer being new -/
def kRetOwD (i : Nat) : MS := fun ρ S e => match ρ[i]? with
  | some (.ow (.dic ks ds)) => e.rt (.dic ks ds) S
  | _ => False
theorem Nu.out {p : Addr} {d : D} (h : Nu Z K mg C.β (C.hd α ow) α H S p d) : Nu Z K mg C.β (C.hd α ow0) α H S p d := by
  have le : ∀ a, C.hd α ow0 a → C.hd α ow a := fun a z => by
    rcases z with z | z | ⟨_, z⟩
    · exact .inl z
    · exact .inr (.inl z)
    · cases z
  exact ⟨h.np, fun B hB => h.ob B fun a z => (hB a z).elim (fun z => .inl (le a z)) .inr, fun i a o h1 h2 => (h.os i a o h1 h2).mono (List.prefix_refl _) (hid_mono fun a z => z.elim (fun z => .inl (le a z)) .inr) fun _ q _ => q⟩
/-- an own object is written -/
theorem same_write {i : Nat} {a : Addr} {o : HO} (hi : ow i = some a) : Same (hid (C.hd α ow) H) (hid (C.hd α ow) (upd H a o)) := fun b o' q => by
  obtain ⟨q1, q2⟩ := hid_some q
  have hne : b ≠ a := fun z => q1 (.inr (.inr ⟨i, by rw [z]; exact hi⟩))
  exact hid_get q1 (by rw [upd_ne hne]; exact q2) (hid_nt q)
theorem Ev.write (ev : Ev C α ow σ ρ H S) {i : Nat} {a : Addr} {d : D} {o : HO} (hi : ow i = some a) (hn : C.H0 a = none) (hb : Ow C α ow (upd H a o) a d) : Ev C α ow σ (ρ.set i (.ow d)) (upd H a o) S := by
  have sm : Same (hid (C.hd α ow) H) (hid (C.hd α ow) (upd H a o)) := same_write hi
  refine ⟨fun j => ?_, ev.inj, ev.nA, ev.fr.mut hn (ev.owTabs hi), ⟨ev.st.len, ev.st.nd, ev.st.nA, ev.st.nL, ev.st.no, fun j b u h1 h2 => (ev.st.ob j b u h1 h2).mono (List.prefix_refl _) sm fun w q _ => by rw [upd_ne fun z => ev.st.no i a hi (by rw [← z]; exact List.mem_of_getElem? h1)]; exact q⟩⟩
  have q := ev.sl j
  by_cases hj : j = i
  · subst hj
    rw [hi] at q ⊢
    generalize hs : σ[j]? = s at q
    generalize hr : ρ[j]? = r at q
    cases q with
    | ow q =>
      have hil : j < ρ.length := (List.getElem?_eq_some_iff.mp hr).1
      rw [List.getElem?_set_self hil]
      exact .ow hb
  · rw [List.getElem?_set_ne (Ne.symm hj)]
    generalize hw : ow j = w at q ⊢
    generalize σ[j]? = s at q ⊢
    generalize ρ[j]? = r at q ⊢
    cases q with
    | out => exact .out
    | un => exact .un
    | va r => exact .va (Rp.same sm r)
    | @ow b _ r =>
      have hne : b ≠ a := fun z => hj (ev.inj j i a (by rw [hw, z]) hi)
      exact .ow (OwB.mono (List.prefix_refl _) sm (fun w q _ => by rw [upd_ne hne]; exact q) r)
theorem aft_write {i : Nat} {a : Addr} {o : HO} (hi : ow i = some a) : Aft C α ow H α ow (upd H a o) := ⟨List.prefix_refl _, same_write hi⟩
/-- x.append(e) -/
def kApp (i : Nat) (me : ME) : MS := fun ρ S e => match ρ[i]? with
  | some (.ow (.lst ds)) => me ρ S (fun d S1 => ds.length < sizeLine ∧ e.nx (ρ.set i (.ow (.lst (ds ++ [d])))) S1) e.ex
  | _ => False
/-- x.extend(e) -/
def kExt (i : Nat) (me : ME) : MS := fun ρ S e => match ρ[i]? with
  | some (.ow (.lst ds)) => me ρ S (fun d S1 => asL (fun es => ds.length + es.length ≤ sizeLine ∧ e.nx (ρ.set i (.ow (.lst (ds ++ es)))) S1) d) e.ex
  | _ => False
/-! loops -/
def forD (f : TgM) (m : MS) : List D → MS
  | [], ρ, S, e => e.nx ρ S
  | d :: ds, ρ, S, e => f d ρ fun ρ1 => m ρ1 S { e with nx := fun ρ2 S2 => forD f m ds ρ2 S2 e, ct := fun ρ2 S2 => forD f m ds ρ2 S2 e, bk := e.nx }
def kFor (mi : MI) (f : TgM) (m : MS) : MS := fun ρ S e => mi ρ S (fun ds S1 => forD f m ds ρ S1 e) e.ex
theorem ds_for {us : List Nat} (hi : DI Z K mg E wi mi) (hg : DG Z K mg E g f us) (h : DS Z K mg E F t m) : DS Z K mg E F (tFor wi g t) (kFor mi f m) := fun C α ow σ ρ H S e Dn ev nw hm k => by
  refine hi C α ow σ ρ H S _ _ _ ev hm k.ex fun ds J α1 H1 S1 hm1 f1 it => ?_
  obtain ⟨n, G, Y, wk, hnl, hG, hY⟩ := it
  have s1 := f1.aft
  refine for_inv wk (fun i σ' H' => ∃ α' ow' ρ' S', Ev C α' ow' σ' ρ' H' S' ∧ Nw C ow' ∧ Aft C α1 ow H1 α' ow' H' ∧ forD f m (ds.drop i) ρ' S' e) ⟨α1, ow, ρ, S1, ev.step f1, nw, Aft.refl, hm1⟩
    (fun i σ' H' hi ⟨α', ow', ρ', S', ev', nw', sm, _⟩ => hG _ _ sm.sm) ?_ ?_
  · rintro i x σ' H' H2 hlt ⟨α', ow', ρ', S', ev', nw', sm, hl⟩ y
    have hdi : i < ds.length := by omega
    obtain ⟨s2, rx⟩ := hY i x (C.hd α' ow') H' H2 sm.sm (fun a z => ev'.stands z) hlt y
    have rx := Rp.mono sm.pre (Same.refl _) (rx _ (List.getElem?_eq_getElem hdi))
    rw [List.drop_eq_getElem_cons hdi] at hl
    have g2 := ev'.sm s2
    refine hg C α' ow' σ' ρ' H2 S' x _ _ _ (ev'.step g2) rx hl fun ow2 σ2 ρ2 hm2 ev2 how _ _ => ?_
    have nw2 : Nw C ow2 := fun j a q => nw' j a (by rw [how] at q; exact owWipe_le _ _ q)
    have sm2 : Aft C α1 ow H1 α' ow2 H2 := (sm.trans g2.aft).trans (OwLe.aft (by rw [how]; exact owWipe_le))
    refine h C α' ow2 σ2 ρ2 H2 S' _ _ ev2 nw2 hm2 ⟨fun α3 ow3 σ3 ρ3 H3 S3 p3 ev3 nw3 s3 => ⟨α3, ow3, ρ3, S3, ev3, nw3, sm2.trans s3, p3⟩, fun α3 ow3 σ3 ρ3 H3 S3 p3 ev3 nw3 s3 => k.nx α3 ow3 σ3 ρ3 H3 S3 p3 ev3 nw3 ((s1.trans sm2).trans s3),
      fun α3 ow3 σ3 ρ3 H3 S3 p3 ev3 nw3 s3 => ⟨α3, ow3, ρ3, S3, ev3, nw3, sm2.trans s3, p3⟩, k.rt, k.rf, k.ex⟩
  · rintro σ' H' ⟨α', ow', ρ', S', ev', nw', sm, hl⟩
    rw [List.drop_of_length_le (by omega)] at hl
    exact k.nx α' ow' σ' ρ' H' S' hl ev' nw' (s1.trans sm)
def kWhile (mt : MT) (m : MS) : MS := fun ρ S e => ∃ W : Nat → Env → Sto → Prop, (∃ j, W j ρ S) ∧ ∀ j ρ S, W j ρ S → mt ρ S (fun b S1 => if b = true then m ρ S1 { e with nx := fun ρ' S' => ∃ j', j' < j ∧ W j' ρ' S', ct := fun ρ' S' => ∃ j', j' < j ∧ W j' ρ' S', bk := e.nx } else e.nx ρ S1) e.ex
/-! a def's run -/
def stEnv (ds : List D) (n : Nat) : Env := ds.map Sl.va ++ List.replicate n .un
def runM (np n : Nat) (m : MS) : List D → M D := fun ds S P X => ds.length = np ∧ m (stEnv ds n) S ⟨fun _ S' => P .non S', P, fun _ _ => False, fun _ _ => False, X⟩
theorem ev_start {C : Cy Z K mg E} {vs : List V} {ds : List D} {n : Nat} (st : StOk C C.α0 ow0 C.H0 S) (r : RvAll C C.α0 ow0 C.H0 vs ds) : Ev C C.α0 ow0 (vs.map some ++ List.replicate n none) (stEnv ds n) C.H0 S := by
  refine ⟨fun i => ?_, fun _ _ _ h => (by cases h), fun _ _ h => (by cases h), Fr.refl C.b0, st⟩
  have hl := r.len
  unfold stEnv
  by_cases hi : i < vs.length
  · rw [List.getElem?_append_left (by rw [List.length_map]; exact hi), List.getElem?_append_left (by rw [List.length_map]; omega), List.getElem?_map, List.getElem?_map, List.getElem?_eq_getElem hi]
    obtain ⟨d, h1, h2⟩ := r.get (List.getElem?_eq_getElem hi)
    rw [h1]
    exact .va h2
  · rw [List.getElem?_append_right (by rw [List.length_map]; omega), List.getElem?_append_right (by rw [List.length_map]; omega), List.length_map, List.length_map, hl]
    by_cases hi2 : i - ds.length < n
    · rw [List.getElem?_replicate, List.getElem?_replicate, if_pos hi2, if_pos hi2]
      exact .un
    · rw [List.getElem?_replicate, List.getElem?_replicate, if_neg hi2, if_neg hi2]
      exact .out
theorem start_eq {N : List Str} {np n : Nat} {vs : List V} (hn : N.length = np + n) (hl : vs.length = np) : L2.start N vs = vs.map some ++ List.replicate n none := by
  unfold L2.start
  rw [show N.length - vs.length = n by omega]
theorem spD_len {np n : Nat} {m : MS} {vs : List V} {Q : VK} (h : spD Z K mg (runM np n m) vs H Q E) : vs.length = np := by
  obtain ⟨C, ds, S, P, X, _, _, r, hm, _⟩ := h
  exact r.len.trans hm.1
theorem spD_run {np n : Nat} {m : MS} {N : List Str} {t : TS} {vs : List V} {Q : VK} (hn : N.length = np + n) (h : DS Z K mg E false t m) (s : spD Z K mg (runM np n m) vs H Q E) : t { nx := fun _ H' => Q .non H', rt := Q } (L2.start N vs) H := by
  rw [start_eq hn (spD_len s)]
  obtain ⟨C, ds, S, P, X, hH, st, r, hm, hx, k⟩ := s
  subst hH
  exact h C _ _ _ _ _ S _ _ (ev_start st r) (fun _ _ h => (by cases h)) hm.2 ⟨fun α' ow' σ' ρ' H' S' p ev' _ _ => k .non .non α' H' S' p ev'.go0 .non, fun _ _ _ _ _ _ p => p.elim, fun _ _ _ _ _ _ p => p.elim, fun _ d v α' H' S' p g r => k d v α' H' S' p g r, fun z => (by cases z), hx⟩
/-- a def that always says return -/
def runF (np n : Nat) (m : MS) : List D → M D := fun ds S P X => ds.length = np ∧ m (stEnv ds n) S ⟨fun _ _ => False, P, fun _ _ => False, fun _ _ => False, X⟩
end
end Nc

namespace Nc
open PySem PySem.Spec PyProof.Rows L2
/-! ## more, on data -/
section
variable {Z : ZP} {K : PySem.W.Frag} {mg : Str → Option Value} {E : XK} {C : Cy Z K mg E} {α α' : List Addr} {ow ow' : OwS} {σ : L2.St} {ρ : Env} {H H' : Hp} {S S' : Sto} {F : Bool}
variable {ta tb tc te : TE} {ma mb mc me : ME} {tr : TA} {mr : MA}
/-! isinstance -/
def D.ty : D → Option String
  | .non => some "NoneType" | .bl _ => some "bool" | .int _ => some "int" | .str _ => some "str" | .lst _ => some "list" | .tup _ => some "tuple"
  | _ => none
theorem Rp.ty {β : BG} {α : List Addr} {v : V} {d : D} {s : String} (h : Rp Z K mg β α H v d) (e : d.ty = some s) : TyX K H v (.type s) := by
  cases h with
  | non => cases e; exact .base .non
  | bl b => cases e; exact .base (.bl b)
  | int i => cases e; exact .base (.int i)
  | str x => cases e; exact .base (.str _)
  | lst h _ _ => cases e; exact .base (.lst h)
  | tup h _ _ _ =>
    cases e
    rcases h with (h | ⟨o, h⟩) | ⟨o, its, n, h1, h2, _⟩
    · exact .base (.tup h)
    · exact .fTuple h
    · exact .kTuple h1 h2
  | pr _ _ _ => cases e
  | dK _ _ _ _ => cases e
  | dN _ _ _ _ _ => cases e
  | ins _ _ _ => cases e
  | ob _ => cases e
  | bag _ => cases e
  | raw _ => cases e
  | clo _ _ _ => cases e
theorem Sh.ty {v : V} {d : D} {s : String} (h : Sh C α ow H v d) (e : d.ty = some s) : TyX K H v (.type s) := by
  rcases h with h | ⟨i, a, _, rfl, h⟩ | ⟨a, _, rfl, h⟩
  · exact Rp.ty (Rp.same hid_same h) e
  · cases h with
    | lst h1 _ _ => cases e; exact .base (.lst h1)
    | dK _ _ _ _ => cases e
    | dN _ _ _ _ _ => cases e
    | st _ _ _ => cases e
  · cases h with
    | lst h1 _ _ => cases e; exact .base (.lst h1)
    | dK _ _ _ _ => cases e
    | dN _ _ _ _ _ => cases e
    | st _ _ _ => cases e
theorem ty_mem {d : D} {s : String} (e : d.ty = some s) : s ∈ ["NoneType", "bool", "int", "str", "list", "tuple", "dict"] := by cases d <;> cases e <;> simp
def fIsi : List D → (D → Prop) → Prop
  | [d, .raw (.ty T)], P => T ∈ ["int", "bool", "str", "tuple", "list"] ∧ match d.ty with
    | some s => P (.bl (isT s T))
    | none => False
  | _, _ => False
theorem cd_isi : CallD Z K (rIsi K) fIsi := fun mg E C α ow σ ρ H S vs ds P Q e h hm k => by
  unfold fIsi at hm
  split at hm
  · obtain ⟨x, y, rfl, hx, hy⟩ := h.two
    have := Sh.rawI hy
    subst this
    obtain ⟨hT, hm⟩ := hm
    split at hm
    · exact ⟨x, _, _, _, _, rfl, .ty _, hx.ty ‹_›, kit_ty (kit_all _ (ty_mem ‹_›) _ hT), k _ _ H hm e.go (.bl _)⟩
    · exact hm.elim
  · exact hm.elim
/-- isinstance(e, (T1, T2)) -/
def mIsi2 (t1 t2 : String) (ma : ME) : ME := fun ρ S P X => ma ρ S (fun d S1 => match (S1.rs d).ty with
  | some s => P (.bl (isT s t1 || isT s t2)) S1
  | none => False) X
theorem de_isi2 {t1 t2 : String} (h1 : t1 ∈ ["int", "bool", "str", "tuple", "list"] := by decide) (h2 : t2 ∈ ["int", "bool", "str", "tuple", "list"] := by decide) (ha : DQ Z K mg E ta ma) :
    DE Z K mg E (tCB (rIsiT K) (tCons ta (tCons (tTup (tCons (tC (.ty t1)) (tCons (tC (.ty t2)) tNil))) tNil))) (mIsi2 t1 t2 ma) := fun C α ow σ ρ H S P X Q e hm hx k =>
  ha C α ow σ ρ H S _ X _ e hm hx fun d v α1 H1 S1 hm1 f1 s1 => by
    split at hm1
    · rename_i s hs
      refine ⟨by show 2 ≤ sizeLine; decide, fun p hp => ?_⟩
      have sm := same_new (o := .tup [V.ty t1, V.ty t2]) hp
      refine ⟨v, p, [.ty t1, .ty t2], _, [.type t1, .type t2], _, rfl, upd_same, .cons (.ty t1) (.cons (.ty t2) .nil), ((s1.go (e.step f1) ((e.step f1).sm sm)).rs ((e.step f1).sm sm).st).ty hs, ?_, k _ _ _ _ _ hm1 (f1.trans ((e.step f1).sm sm)) (.bl _)⟩
      have q1 := kit_ty (K := K) (kit_all _ (ty_mem hs) _ h1)
      have q2 := kit_ty (K := K) (kit_all _ (ty_mem hs) _ h2)
      refine kitAny_cons q1 (fun e => ?_) fun e => by rw [e, Bool.true_or]
      rw [e, Bool.false_or]
      refine kitAny_cons q2 (fun e2 => ?_) fun e2 => e2
      rw [e2]
      exact kitAny_nil
    · exact hm1.elim
/-! sorted -/
theorem RpAll.perm {β : BG} {α : List Addr} {xs ys : List V} {ds : List D} (h : ys.Perm xs) : RpAll Z K mg β α H xs ds → ∃ es, es.Perm ds ∧ RpAll Z K mg β α H ys es := by
  induction h generalizing ds with
  | nil => exact fun r => ⟨ds, List.Perm.refl _, r⟩
  | cons x _ ih =>
    intro r
    cases r with
    | cons r t =>
      obtain ⟨es, p, q⟩ := ih t
      exact ⟨_ :: es, p.cons _, .cons r q⟩
  | swap x y l =>
    intro r
    cases r with
    | cons r t =>
      cases t with
      | cons r2 t => exact ⟨_, List.Perm.swap _ _ _, .cons r2 (.cons r t)⟩
  | trans _ _ ih1 ih2 =>
    intro r
    obtain ⟨es, p, q⟩ := ih2 r
    obtain ⟨es2, p2, q2⟩ := ih1 q
    exact ⟨es2, p2.trans p, q2⟩
def fSortS : List D → (D → Prop) → Prop
  | [.lst ds], P => ∃ xs : List Str, ds = xs.map .str ∧ xs.length < 64 ∧ ∀ ys : List Str, ys.Perm xs → sortedS ys = true → P (.lst (ys.map .str))
  | _, _ => False
def fSortI : List D → (D → Prop) → Prop
  | [.lst ds], P => ∃ xs : List Int, ds = xs.map .int ∧ ∀ ys : List Int, ys.Perm xs → ys.Pairwise (· ≤ ·) → P (.lst (ys.map .int))
  | _, _ => False
theorem RpAll.strLen {β : BG} {α : List Addr} : ∀ {vs : List V} {xs : List Str}, RpAll Z K mg β α H vs (xs.map D.str) → ∀ z ∈ xs, z.length ≤ sizeLine
  | _, [], _, z, h => by cases h
  | _, x :: xs, r, z, h => by
    cases r with
    | cons r t =>
      rcases List.mem_cons.mp h with h | h
      · rw [h]; exact r.strI.2
      · exact RpAll.strLen t z h
theorem cd_sortS : CallD Z K (rSortedS K) fSortS := fun mg E C α ow σ ρ H S vs ds P Q e h hm k => by
  unfold fSortS at hm
  split at hm
  · obtain ⟨x, rfl, hx⟩ := h.one
    obtain ⟨xs, rfl, hl, hm⟩ := hm
    obtain ⟨a, vs, rfl, h1, h2, h3⟩ := hx.lstI
    have e1 := RpAll.strsI h3
    subst e1
    have hz := RpAll.strLen h3
    refine ⟨a, xs, rfl, SqL.of h1, hl, fun ys p hp hs hn => k _ _ _ (hm ys hp hs) (e.nw hn) (rv_lst e hn ?_ (RpAll.strs fun z hzz => hz z (hp.mem_iff.mp hzz)))⟩
    rw [List.length_map, hp.length_eq]
    rw [List.length_map] at h2
    exact h2
  · exact hm.elim
/-! join -/
theorem len_join (a : Str) : ∀ ys : List Str, (Str.join a ys).length ≤ (ys.map (·.length)).sum + ys.length * a.length
  | [] => Nat.zero_le _
  | [x] => by
    show x.length ≤ _
    simp
  | x :: y :: r => by
    have ih := len_join a (y :: r)
    show ((x ++ a) ++ Str.join a (y :: r)).length ≤ _
    rw [str_append_length, str_append_length]
    simp only [List.map_cons, List.sum_cons, List.length_cons, Nat.add_mul] at ih ⊢
    omega
def asStr (P : Str → Prop) : D → Prop
  | .str z => P z
  | _ => False
def mJoin (ma mb : ME) : ME := fun ρ S P X => ma ρ S (fun d S1 => asStr (fun z => mb ρ S1 (fun d2 S2 => asL (fun ds => ∃ ys : List Str, ds = ys.map .str ∧ (ys.map (·.length)).sum + ys.length * z.length ≤ 16777216 ∧ P (.str (Str.join z ys)) S2) (S2.rs d2)) X) d) X
theorem Su.strI {v : V} {z : Str} (h : Su C α ow H v (.str z)) : v = .str z ∧ z.length ≤ sizeLine := by
  rcases h with h | ⟨_, _, _, _, h⟩
  · exact h.strI
  · cases h
theorem Su.intI {v : V} {z : Int} (h : Su C α ow H v (.int z)) : v = .int z := by
  rcases h with h | ⟨_, _, _, _, h⟩
  · exact h.intI
  · cases h
theorem de_join (ha : DQ Z K mg E ta ma) (hb : DQ Z K mg E tb mb) : DE Z K mg E (tM1 (rJoin K) ta tb) (mJoin ma mb) := fun C α ow σ ρ H S P X Q e hm hx k =>
  ha C α ow σ ρ H S _ X _ e hm hx fun a x α1 H1 S1 hm1 f1 s1 => by
    unfold asStr at hm1
    split at hm1
    · refine ⟨⟨_, s1.strI.1⟩, hb C α1 ow σ ρ H1 S1 _ X _ (e.step f1) hm1 hx fun b y α2 H2 S2 hm2 f2 s2 => ?_⟩
      have s2 := s2.rs f2.st
      unfold asL at hm2
      split at hm2
      · rename_i q
        rw [q] at s2
        obtain ⟨ys, rfl, hz, hm2⟩ := hm2
        obtain ⟨l, vs, rfl, h1, h2, h3⟩ := s2.lstI
        have e1 := RpAll.strsI h3
        subst e1
        refine ⟨_, l, ys, s1.strI.1, rfl, .inl (SqL.of h1), hz, ?_⟩
        rw [show Txt.join _ ys = Str.join _ ys from StrLaws.glued_eq_join _ _]
        exact k _ _ _ _ _ hm2 (f1.trans f2) (.str (Nat.le_trans (len_join _ _) (by rw [sizeLine_eq]; exact hz)))
      · exact hm2.elim
    · exact hm1.elim
/-! more statements -/
def kPar (i j : Nat) (mr : MA) : MS := fun ρ S e => mr ρ S (fun ds S1 => match ds with
  | [a, b] => e.nx ((ρ.set i (.va a)).set j (.va b)) S1
  | _ => False) e.ex
def kAug (i : Nat) (f : D → D → (D → Prop) → Prop) (me : ME) : MS := fun ρ S e => match ρ[i]? with
  | some (.va a) => me ρ S (fun b S1 => f (S1.rs a) (S1.rs b) fun d => e.nx (ρ.set i (.va d)) S1) e.ex
  | _ => False
def fMax2 : List D → (D → Prop) → Prop
  | [.int i, .int j], P => P (.int (if j > i then j else i))
  | _, _ => False
def fMin2 : List D → (D → Prop) → Prop
  | [.int i, .int j], P => P (.int (if j < i then j else i))
  | _, _ => False
def fInt1 : List D → (D → Prop) → Prop
  | [.int i], P => P (.int i)
  | [.bl b], P => P (.int (if b then 1 else 0))
  | _, _ => False
def fTupleOf : List D → (D → Prop) → Prop
  | [.lst ds], P => P (.tup ds)
  | [.tup ds], P => P (.tup ds)
  | _, _ => False
/-! the drawing -/
/-- a draw: any number below the second -/
def mPick : List D → M D := fun ds S P _ => match ds with
  | [.bag, .int top] => 1 ≤ top ∧ top.natAbs.log2 < 9000 ∧ ∀ d : Int, 0 ≤ d → d < top → P (.int d) S
  | _ => False
/-- the bag alone has changed -/
theorem Cy.bagGo {C : Cy Z K mg E} {b l : Addr} {ns : List Int} {H' : Hp} (st : StOk C C.α0 ow0 C.H0 S) (hb : C.β.bg = some (b, l, ns)) (hB : BagX l ns H' b) (sm : Same (del C.H0 b) (del H' b)) : Go C ow0 C.α0 C.H0 C.α0 H' S := by
  have keep : ∀ a o, a ≠ b → C.H0 a = some o → H' a = some o := fun a o n e => by
    have := sm a o (by rw [del_ne n]; exact e)
    rwa [del_ne n] at this
  have ab : C.A b := C.hb b l ns hb
  obtain ⟨xb, hxb⟩ := (C.b0.bag b l ns hb).isLst
  refine ⟨⟨C.b0, List.prefix_refl _, ⟨fun b' l' ns' q => by rw [hb] at q; cases q; exact hB, tabs_but C.b0.tab hxb (by intro _ z; cases z) ncLst keep⟩, fun a o n1 n2 e _ => keep a o (n1 b l ns hb) e, fun a m => ?_, fun a m => .inl m⟩, ⟨st.len, st.nd, st.nA, st.nL, st.no, fun i a o h1 h2 => ?_⟩⟩
  · by_cases z : a = b
    · rw [z]
      obtain ⟨_, q⟩ := hB.here
      rw [q]; simp
    · cases q : C.H0 a with
      | none => exact absurd q m
      | some o => rw [keep a o z q]; simp
  · have n : a ≠ b := fun z => st.nA a (List.mem_of_getElem? h1) (by rw [z]; exact ab)
    refine (st.ob i a o h1 h2).mono (List.prefix_refl _) (fun c u e => ?_) fun u e _ => keep a u n e
    obtain ⟨q1, q2⟩ := hid_some e
    exact hid_get q1 (keep c u (fun z => q1 (.inl (by rw [z]; exact ab))) q2) (hid_nt e)
theorem sp_pick_of {vs : List V} {Q : VK} (h : spD Z K mg mPick vs H Q E) : sp_pick vs H Q E := by
  obtain ⟨C, ds, S, P, X, rfl, st, r, hm, hx, k⟩ := h
  unfold mPick at hm
  split at hm
  · cases r with
    | cons r1 t => cases t with
      | cons r2 t =>
        cases t
        cases r1 with
        | bag hb =>
          rename_i b l ns
          refine ⟨b, _, l, ns, by rw [r2.intI], C.b0.bag b l ns hb, hm.1, hm.2.1, fun d H' d0 d1 hB e => ?_⟩
          exact k (.int d) (.int d) C.α0 H' S (hm.2.2 d d0 d1) (C.bagGo st hb hB (same_of_del e)) (.int d)
  · exact hm.elim
/-- in some order -/
def mShuffled : List D → M D := fun ds S P _ => match ds with
  | [.bag, .lst xs] => xs.length ≤ 1000 ∧ ∀ ys : List D, ys.Perm xs → P (.lst ys) S
  | _ => False
/-! word, *rest = a tuple -/
def kAsgS (n : Nat) (me : ME) (f : TgMs) : MS := fun ρ S e => me ρ S (fun d S1 => asT (fun ds => n ≤ ds.length ∧ ds.length ≤ 16384 ∧ f (ds.take n ++ [.lst (ds.drop n)]) ρ fun ρ' => e.nx ρ' S1) d) e.ex
/-! max(xs, default=n) -/
def mMaxDef (mr : MA) (d : Int) : ME := fun ρ S P X => mr ρ S (fun ds S1 => match ds.map S1.rs with
  | [.lst xs] => ∃ ns : List Int, xs = ns.map .int ∧ P (.int (mxD d ns)) S1
  | _ => False) X
/-- max of a list of ints, not empty -/
def fMaxL : List D → (D → Prop) → Prop
  | [.lst ds], P => ∃ ns : List Int, ds = ns.map .int ∧ 0 < ns.length ∧ ∀ m, m ∈ ns → (∀ y, y ∈ ns → y ≤ m) → P (.int m)
  | _, _ => False
end
end Nc

namespace Nc
open PySem PySem.Spec PyProof.Rows L2
/-! ## raising, on data -/
section
variable {Z : ZP} {K : PySem.W.Frag} {mg : Str → Option Value} {E : XK} {F : Bool}
def kRaise1 (cls nm f : Str) (mr : MA) : MS := fun ρ S e => mr ρ S (fun ds S1 => match ds with
  | [x] => e.ex ⟨cls, [(f, x), ("called", .str nm)]⟩ S1
  | _ => False) e.ex
def kRaise0 (cls nm : Str) : MS := fun _ S e => e.ex ⟨cls, [("called", .str nm)]⟩ S
theorem ds_raise1 {C : Addr} {cls nm f : Str} {tr : TA} {mr : MA} (T : OexC K C) (f1 : fldOk K C "called") (f2 : fldOk K C f) (hm : mg cls = some (.ref C)) (hn : nm.length ≤ sizeLine) (h : DA Z K mg E tr mr) :
    DS Z K mg E F (fun _ σ H => tMkO C (sp_init1 nm f K) [] tr σ H fun c d H' => E c d H') (kRaise1 cls nm f mr) := fun Cy α ow σ ρ H S e Dn ev nw hm' k =>
  h Cy α ow σ ρ H S _ _ _ ev hm' k.ex fun ds vs α1 H1 S1 p fr r => by
    split at p
    · cases r with
      | cons r1 t =>
        cases t
        rename_i x v
        refine ⟨by simp, fun a ha => ⟨a, C, v, rfl, T, f1, f2, upd_same, fun d hd hne => ⟨rfl, d, [(f, v), ("called", .str nm)], upd_same, ?_, ?_, ?_⟩⟩⟩
        · rw [upd_ne hne]; exact upd_same
        · rw [upd_ne hne] at hd; exact hd
        · rw [upd_ne hne] at hd
          have e1 : upd (L2.del (upd (upd (upd H1 a (exo a C none)) d (exd d [(f, v), ("called", .str nm)])) a (exo a C (some d))) a) d (.xd [(f, v), ("called", .str nm)]) = upd H1 d (.xd [(f, v), ("called", .str nm)]) := by
            rw [upd_comm (Ne.symm hne) (H := H1), upd_upd]
            exact del_upd_new ha hne
          rw [e1]
          have ev1 := ev.step fr
          have g2 := ev1.nw (o := .xd [(f, v), ("called", .str nm)]) hd
          refine k.ex _ _ _ _ _ _ p ((ev1.step g2).go0) ⟨hm, d, _, rfl, upd_same, rfl, .cons ?_ (.cons (.str hn) .nil)⟩
          exact (Rv.go g2 r1).out
    · exact p.elim
/-! ## dicts of the top -/
variable {ta : TE} {ma : ME}
def vD : V → D
  | .int i => .int i | .str z => .str z
  | _ => .non
def mInTbl (kvs : List (Str × V)) (ma : ME) : ME := fun ρ S P X => ma ρ S (fun d S1 => asStr (fun z => P (.bl (kvs.lookup z).isSome) S1) d) X
def mIxTbl (kvs : List (Str × V)) (ma : ME) : ME := fun ρ S P X => ma ρ S (fun d S1 => asStr (fun z => match kvs.lookup z with
  | some v => P (vD v) S1
  | none => False) d) X
/-! {'a': 1, ..}.get(e, v) -/
def mDispGet (kvs : List (Str × V)) (v0 : V) (ma : ME) : ME := fun ρ S P X => ma ρ S (fun d S1 => asStr (fun z => P (vD ((kvs.lookup z).getD v0)) S1) d) X
end
end Nc

namespace Nc
open PySem PySem.Spec PyProof.Rows L2
/-! ## sorted(set(..)), on data -/
theorem mem_insK {κ : Type} [DecidableEq κ] {l : List κ} {k x : κ} : x ∈ insK l k ↔ x ∈ l ∨ x = k := by
  unfold insK
  split
  · rename_i h
    exact ⟨.inl, fun z => z.elim id fun z => z ▸ h⟩
  · simp
theorem mem_foldK {κ : Type} [DecidableEq κ] {xs : List κ} {x : κ} : x ∈ foldK xs ↔ x ∈ xs := by
  unfold foldK
  have g : ∀ (xs acc : List κ), x ∈ xs.foldl insK acc ↔ x ∈ acc ∨ x ∈ xs := fun xs => by
    induction xs with
    | nil => intro acc; simp
    | cons y r ih => intro acc; rw [List.foldl_cons, ih, mem_insK, List.mem_cons, or_assoc]
  rw [g]
  simp
section
variable {Z : ZP} {K : PySem.W.Frag} {mg : Str → Option Value} {E : XK} {ta : TE} {ma : ME} {Pg : Program} {w : World}
def mSortSet (ma : ME) : ME := fun ρ S P X => ma ρ S (fun d S1 => asL (fun ds => ∃ xs : List Str, ds = xs.map .str ∧ (foldK xs).length < 64 ∧ xs.length + 1 < scanBound ∧ ∀ ys : List Str, ys.Perm (foldK xs) → sortedS ys = true → P (.lst (ys.map .str)) S1) (S1.rs d)) X
end
end Nc

namespace Nc
open PySem PySem.Spec PyProof.Rows L2
/-! ## a law's start -/
def sp_law (K : PySem.W.Frag) (T : List (Addr × Str)) : Sp := fun vs H Q _ => ∃ (a : Addr) (ns : List Int), vs = [.ref a] ∧ SqL K H a (ns.map V.int) ∧ ns.length ≤ 63 ∧ LamX.Tabs T H ∧ ∀ H', Q (.bl true) H'
section
variable {Z : ZP} {K : PySem.W.Frag} {mg : Str → Option Value} {E : XK}
def okEnds : Pn := ⟨fun _ _ => False, fun d _ => d = .bl true, fun _ _ => False, fun _ _ => False, fun _ _ => False⟩
/-- a law's bag is made, then it runs on -/
theorem law_start {n : Nat} {N : List Str} {u : TS} {m : MS} {vs : List V} {H : Hp} {Q : VK} (hN : N.length = n + 2) (h : DS Z K mg E false u m) (hm : m ([.un, .va .bag] ++ List.replicate n .un) [] okEnds) (s : sp_law K (tabsOf K) vs H Q E) :
    tSeq (tAsg (tCall (sp_bag K) [] E (tCons (tVar 0) tNil)) (gName 1)) u { nx := fun _ H' => Q .non H', rt := Q } (L2.start N vs) H := by
  obtain ⟨a, ns, rfl, hS, hl, hT, k⟩ := s
  have es : L2.start N [V.ref a] = some (.ref a) :: none :: List.replicate n none := by
    unfold L2.start
    rw [hN]
    rfl
  rw [es]
  refine ⟨_, rfl, a, ns, rfl, hS, hl, fun b l H1 s1 hb hB => ?_⟩
  show u _ (some (.ref a) :: some (.ref b) :: List.replicate n none) H1
  let C : Cy Z K mg E := ⟨⟨some (b, l, ns), tabsOf K⟩, fun a => a = b, H1, [], ⟨fun b' l' ns' q => (by cases q; exact hB), hT.ext s1⟩, fun b' l' ns' q => (by cases q; rfl), fun a z => (by obtain ⟨_, q⟩ := hB.here; rw [z, q]; simp), fun a z => (by cases z), rfl, fun a z => (by obtain ⟨_, _, _, _, q, _⟩ := id hB; exact ⟨_, by rw [z]; exact q, nco_lst⟩)⟩
  have ev : Ev C [] ow0 (some (.ref a) :: some (.ref b) :: List.replicate n none) ([.un, .va .bag] ++ List.replicate n .un) H1 [] := by
    refine ⟨fun i => ?_, fun _ _ _ h => (by cases h), fun _ _ h => (by cases h), Fr.refl C.b0, ⟨rfl, List.nodup_nil, fun a z => (by cases z), fun a z => (by cases z), fun i a z => (by cases z), fun i a o z => (by simp at z)⟩⟩
    match i with
    | 0 => exact .un
    | 1 => exact .va (.bag rfl)
    | i + 2 =>
      show SlOk C [] ow0 H1 none (List.replicate n none)[i]? (List.replicate n Sl.un)[i]?
      rw [List.getElem?_replicate, List.getElem?_replicate]
      split
      · exact .un
      · exact .out
  exact h C [] _ _ _ _ [] okEnds _ ev (fun _ _ h => (by cases h)) hm ⟨fun _ _ _ _ _ _ p => p.elim, fun _ _ _ _ _ _ p => p.elim, fun _ _ _ _ _ _ p => p.elim, fun _ d v α' H' S' p f r => (by cases p; rw [Rp.blI r]; exact k H'), fun z => (by cases z), fun _ _ _ _ _ _ p => p.elim⟩
end
end Nc

namespace Nc
open PySem PySem.Spec PyProof.Rows L2
/-! ## objects, on data -/
section
variable {Z : ZP} {K : PySem.W.Frag} {mg : Str → Option Value} {E : XK} {C : Cy Z K mg E} {α α' α1 : List Addr} {ow : OwS} {σ : L2.St} {ρ : Env} {H H' : Hp} {S S' : Sto} {F : Bool}
variable {ta tv te : TE} {ma mv me : ME} {tr : TA} {mr : MA}
/-- an object is written -/
theorem same_ob {i : Nat} {a : Addr} {o : HO} (hi : α[i]? = some a) : Same (hid (C.hd α ow) H) (hid (C.hd α ow) (upd H a o)) := fun b o' q => by
  obtain ⟨q1, q2⟩ := hid_some q
  have hne : b ≠ a := fun z => q1 (.inr (.inl (by rw [z]; exact List.mem_of_getElem? hi)))
  exact hid_get q1 (by rw [upd_ne hne]; exact q2) (hid_nt q)
theorem Ev.wrOb (e : Ev C α ow σ ρ H S) {i : Nat} {a : Addr} {o : HO} {u : Ob} (hi : α[i]? = some a) (hb : ObOk Z K mg C.β α (C.hd α ow) (upd H a o) a u) : Go C ow α H α (upd H a o) (S.set i u) := by
  have hm := List.mem_of_getElem? hi
  refine ⟨(Fr.refl e.bg).wr hm (fun b l ns q => ⟨fun z => e.st.nA a hm (by rw [z]; exact C.hb b l ns q), fun z => e.st.nL a hm b l ns q z⟩) (e.st.obTabs e.bg.tab hi), ⟨by rw [List.length_set]; exact e.st.len, e.st.nd, e.st.nA, e.st.nL, e.st.no, fun j b v h1 h2 => ?_⟩⟩
  by_cases hj : j = i
  · subst hj
    rw [hi] at h1
    cases h1
    have hl : j < S.length := by rw [← e.st.len]; exact (List.getElem?_eq_some_iff.mp hi).1
    rw [List.getElem?_set_self hl] at h2
    cases h2
    exact hb
  · rw [List.getElem?_set_ne (Ne.symm hj)] at h2
    have hne : b ≠ a := fun z => by
      rw [z] at h1
      have l1 := (List.getElem?_eq_some_iff.mp h1)
      have l2 := (List.getElem?_eq_some_iff.mp hi)
      exact hj ((List.getElem_inj e.st.nd).mp (l1.2.trans l2.2.symm))
    exact (e.st.ob j b v h1 h2).mono (List.prefix_refl _) (same_ob hi) fun w q _ => by rw [upd_ne hne]; exact q
theorem fld_look {β : BG} {fs : List (Str × V)} {gs : List (Str × D)} {f : Str} {x : D} : fs.map (·.1) = gs.map (·.1) → RpAll Z K mg β α H (fs.map (·.2)) (gs.map (·.2)) → gs.lookup f = some x → ∃ v, fs.lookup f = some v ∧ Rp Z K mg β α H v x := by
  induction fs generalizing gs with
  | nil =>
    intro h _ e
    cases gs with
    | nil => cases e
    | cons _ _ => cases h
  | cons p fs ih =>
    intro h r e
    cases gs with
    | nil => cases h
    | cons q gs =>
      obtain ⟨p1, p2⟩ := p
      obtain ⟨q1, q2⟩ := q
      injection h with h1 h2
      cases r with
      | cons r t =>
        simp only at h1
        subst h1
        rw [List.lookup_cons] at e ⊢
        split at e
        · cases e
          exact ⟨_, rfl, r⟩
        · exact ih h2 t e
/-- what an instance of c holds -/
def Sto.fields (S : Sto) (c : Str) : D → Option (List (Str × D))
  | .ob i => match S[i]? with
    | some (.ins c' gs) => if c' = c then some gs else none
    | _ => none
  | .ins c' ns ds => if c' = c ∧ ns.length = ds.length then some (ns.zip ds) else none
  | _ => none
/-- o.f -/
def mFld (c f : Str) (ma : ME) : ME := fun ρ S P X => ma ρ S (fun d S1 => match (S1.fields c d).bind (·.lookup f) with
  | some x => P x S1
  | none => False) X
/-! a new object of the store -/
theorem Ev.newOb (e : Ev C α ow σ ρ H S) (g : Fr C.β α H α' H') (st : StOk C α' ow H' S') {p : Addr} {o : Ob} (hp : H p = none) (np : p ∉ α')
    (os : ∀ (i : Nat) (a : Addr) (u : Ob), α'[i]? = some a → S'[i]? = some u → ObOk Z K mg C.β α' (fun a => C.hd α' ow a ∨ a = p) H' a u)
    (ob : ObOk Z K mg C.β (α' ++ [p]) (C.hd (α' ++ [p]) ow) H' p o) : Go C ow α H (α' ++ [p]) H' (S' ++ [o]) := by
  have hd2 : ∀ a, C.hd (α' ++ [p]) ow a → C.hd α' ow a ∨ a = p := fun a z => by
    rcases z with z | z | z
    · exact .inl (.inl z)
    · rcases List.mem_append.mp z with z | z
      · exact .inl (.inr (.inl z))
      · exact .inr (List.mem_singleton.mp z)
    · exact .inl (.inr (.inr z))
  refine ⟨⟨g.b0, g.pre.trans (List.prefix_append _ _), g.bag, g.keep, g.stay, fun a z => ?_⟩, ⟨?_, ?_, fun a z => ?_, fun a z => ?_, fun i a h z => ?_, fun i a u h1 h2 => ?_⟩⟩
  · rcases List.mem_append.mp z with z | z
    · exact g.new a z
    · rw [List.mem_singleton.mp z]; exact .inr hp
  · rw [List.length_append, List.length_append, st.len]; rfl
  · rw [List.nodup_append]
    exact ⟨st.nd, by simp, fun a ha b hb q => np (by rw [← List.mem_singleton.mp hb, ← q]; exact ha)⟩
  · rcases List.mem_append.mp z with z | z
    · exact st.nA a z
    · rw [List.mem_singleton.mp z]; exact fun z => e.stands (.inl z) hp
  · rcases List.mem_append.mp z with z | z
    · exact st.nL a z
    · rw [List.mem_singleton.mp z]
      exact fun b l ns q w => by
        have := (e.bg.bag b l ns q).someL
        rw [← w, hp] at this
        cases this
  · rcases List.mem_append.mp z with z | z
    · exact st.no i a h z
    · rw [List.mem_singleton.mp z] at h
      exact e.stands (.inr (.inr ⟨i, h⟩)) hp
  · by_cases hi : i < α'.length
    · rw [List.getElem?_append_left hi] at h1
      rw [List.getElem?_append_left (by rw [← st.len]; exact hi)] at h2
      exact (os i a u h1 h2).mono (List.prefix_append _ _) (hid_mono fun a z => hd2 a z) fun _ q _ => q
    · rw [List.getElem?_append_right (by omega)] at h1
      rw [List.getElem?_append_right (by rw [← st.len]; omega), ← st.len] at h2
      cases hn : i - α'.length with
      | zero =>
        rw [hn] at h1 h2
        cases h1
        cases h2
        exact ob
      | succ n => rw [hn] at h1; cases h1
def Ob.of : D → Option Ob
  | .lst ds => some (.lst ds)
  | .dic ks ds => some (.dic ks ds)
  | _ => none
theorem OwB.obOk {β : BG} {B : Addr → Prop} {a : Addr} {d : D} {o : Ob} (h : OwB Z K mg β α B H a d) (e : Ob.of d = some o) : ObOk Z K mg β α B H a o := by
  cases h with
  | lst h1 h2 h3 => cases e; exact .lst h1 h2 h3
  | dK h1 h2 hl h3 => cases e; exact .dK h1 h2 hl h3
  | dN h1 h2 h3 h4 h5 => cases e; exact .dN h1 h2 h3 h4 h5
  | st _ _ _ => cases e
/-- a new list or dict, kept as an object that changes -/
def mNew (m : ME) : ME := fun ρ S P X => m ρ S (fun d S1 => match Ob.of d with
  | some o => P (.ob S1.length) (S1 ++ [o])
  | none => False) X
theorem de_new {t : TE} {m : ME} (h : DF Z K mg E t m) : DE Z K mg E t (mNew m) := fun C α ow σ ρ H S P X Q e hm hx k =>
  h C α ow σ ρ H S _ X _ e hm hx fun d p α1 H1 S1 pd g hp nu => by
    split at pd
    · rename_i o ho
      have hB : ∀ a, C.hd (α1 ++ [p]) ow a → C.hd α1 ow a ∨ a = p := fun a z => by
        rcases z with z | z | z
        · exact .inl (.inl z)
        · rcases List.mem_append.mp z with z | z
          · exact .inl (.inr (.inl z))
          · exact .inr (List.mem_singleton.mp z)
        · exact .inl (.inr (.inr z))
      have g2 := e.newOb g.fr g.st (o := o) hp nu.np nu.os ((OwB.mono (List.prefix_append _ _) (Same.refl _) (fun _ q _ => q) (nu.ob _ hB)).obOk ho)
      refine k _ _ _ _ _ pd g2 (.ob ?_)
      rw [← g.st.len, List.getElem?_append_right (Nat.le_refl _), Nat.sub_self]
      rfl
    · exact pd.elim
/-! o.f = e -/
def putD (f : Str) (d : D) : List (Str × D) → List (Str × D)
  | [] => [(f, d)]
  | (g, x) :: r => if g = f then (g, d) :: r else (g, x) :: putD f d r
def kFSet (c f : Str) (mv mo : ME) : MS := fun ρ S e => mv ρ S (fun x S1 => mo ρ S1 (fun d S2 => match d with
  | .ob i => match S2[i]? with
    | some (.ins c' gs) => c' = c ∧ gs.length < 1000 ∧ e.nx ρ (S2.set i (.ins c (putD f x gs)))
    | _ => False
  | _ => False) e.ex) e.ex
/-- o.f += e -/
def kFAug (c f : Str) (fo : D → D → (D → Prop) → Prop) (mo mv : ME) : MS := fun ρ S e => mo ρ S (fun d S1 => match d with
  | .ob i => match S1[i]? with
    | some (.ins c' gs) => c' = c ∧ match gs.lookup f with
      | some x => mv ρ S1 (fun y S2 => fo x y fun z => match S2[i]? with
        | some (.ins c2 gs2) => c2 = c ∧ gs2.length < 1000 ∧ e.nx ρ (S2.set i (.ins c (putD f z gs2)))
        | _ => False) e.ex
      | none => False
    | _ => False
  | _ => False) e.ex
/-! C(..) -/
def mMake (c : Str) (m : List D → M D) (dd : List D) (mr : MA) : ME := fun ρ S P X => mr ρ S (fun ds S1 => m (.ob S1.length :: (ds ++ dd)) (S1 ++ [.ins c []]) (fun d S2 => d = .non ∧ P (.ob S1.length) S2) X) X
/-- .. of a class whose instances change no more: told as a datum -/
def mMakeV (c : Str) (m : List D → M D) (dd : List D) (mr : MA) : ME := fun ρ S P X => mr ρ S (fun ds S1 => m (.ob S1.length :: (ds ++ dd)) (S1 ++ [.ins c []]) (fun d S2 => d = .non ∧ ∃ gs, S2[S1.length]? = some (.ins c gs) ∧ S2.take S1.length = S1 ∧ D.obsLt S1.length (gs.map (·.2)) = true ∧ P (.ins c (gs.map (·.1)) (gs.map (·.2))) S1) X) X
def Ob.obLt (n : Nat) : Ob → Prop
  | .ins _ gs => D.obsLt n (gs.map (·.2)) = true
  | .lst ds => D.obsLt n ds = true
  | .dic _ ds => D.obsLt n ds = true
/-! o.m(..) -/
def mMeth (c n : Str) (m : List D → M D) (dd : List D) (mo : ME) (mr : MA) : ME := fun ρ S P X => mo ρ S (fun d S1 => (match S1.fields c d with
  | some gs => gs.lookup n = none
  | none => False) ∧ mr ρ S1 (fun ds S2 => m (d :: (ds ++ dd)) S2 P X) X) X
end
end Nc

namespace Nc
open PySem PySem.Spec PyProof.Rows L2
/-! ## zip, on data -/
def zipD : List D → List D → List D
  | d :: ds, e :: es => .pr [d, e] :: zipD ds es
  | _, _ => []
theorem zipD_get : ∀ {ds es : List D} {i : Nat}, (zipD ds es)[i]? = (ds[i]?).bind fun d => (es[i]?).map fun e => .pr [d, e]
  | [], _, _ => by simp [zipD]
  | d :: ds, [], i => by
    simp only [zipD, List.getElem?_nil, Option.map_none]
    cases (d :: ds)[i]? <;> rfl
  | d :: ds, e :: es, 0 => by simp [zipD]
  | d :: ds, e :: es, i + 1 => by
    simp only [zipD, List.getElem?_cons_succ]
    exact zipD_get
theorem zipD_length : ∀ {ds es : List D}, (zipD ds es).length = min ds.length es.length
  | [], _ => by simp [zipD]
  | d :: ds, [] => by simp [zipD]
  | d :: ds, e :: es => by
    simp only [zipD, List.length_cons, zipD_length]
    omega
theorem signs_get {x : Str} {i : Nat} : (signs x)[i]? = (x.cps[i]?).map fun c => .str ⟨#[c]⟩ := by
  unfold signs
  rw [List.getElem?_map, Array.getElem?_toList]
def asZS (P : List D → Prop) : List D → Prop
  | [.str x, .str y] => P (zipD (signs x) (signs y))
  | _ => False
def asZL (P : List D → Prop) : List D → Prop
  | [.lst ds, .lst es] => P (zipD ds es)
  | _ => False
def mIZS (mr : MA) : MI := fun ρ S P X => mr ρ S (fun ds S1 => asZS (fun es => P es S1) ds) X
def mIZL (mr : MA) : MI := fun ρ S P X => mr ρ S (fun ds S1 => asZL (fun es => P es S1) ds) X
section
variable {Z : ZP} {K : PySem.W.Frag} {mg : Str → Option Value} {E : XK} {C : Cy Z K mg E} {α α' α1 : List Addr} {ow : OwS} {σ : L2.St} {ρ : Env} {H H' : Hp} {S S' : Sto} {F : Bool}
variable {tr : TA} {mr : MA}
theorem di_zipS (h : DA Z K mg E tr mr) : DI Z K mg E (iZipS tr) (mIZS mr) := fun C α ow σ ρ H S P X R e hm hx k => h C α ow σ ρ H S _ X _ e hm hx fun d v α1 H1 S1 p f r => by
  unfold asZS at p
  split at p
  · cases r with
    | cons r t =>
      cases t with
      | cons r2 t =>
        cases t
        obtain ⟨rfl, hx⟩ := Rp.strI r
        obtain ⟨rfl, hy⟩ := Rp.strI r2
        refine ⟨_, _, rfl, k _ _ _ H1 _ p f ⟨_, _, _, walk_zipS, by rw [zipD_length]; simp [signs], fun _ _ _ => trivial, fun i x A' H' H'' s hA hi y => ?_⟩⟩
        obtain ⟨T, x1, y1, rfl, hT, rfl, e1, e2⟩ := y
        have sm : Same H' (upd H' T (.tup [x1, y1])) := same_new hT
        refine ⟨sm, fun d hd => ?_⟩
        have nT : ¬ A' T := fun z => hA T z hT
        rw [zipD_get, signs_get, signs_get] at hd
        obtain ⟨c1, q1, rfl⟩ := Option.map_eq_some_iff.1 e1
        obtain ⟨c2, q2, rfl⟩ := Option.map_eq_some_iff.1 e2
        rw [q1, q2] at hd
        cases hd
        exact rp_pair nT (.str (by show 1 ≤ sizeLine; decide)) (.str (by show 1 ≤ sizeLine; decide)) upd_same
  · exact p.elim
/-! zip of any two -/
def srcD : D → Option (List D)
  | .str z => some (signs z)
  | .lst ds => some ds
  | .tup ds => some ds
  | _ => none
def asZZ (P : List D → Prop) : List D → Prop
  | [a, b] => match srcD a, srcD b with
    | some x, some y => P (zipD x y)
    | _, _ => False
  | _ => False
def mIZZ (mr : MA) : MI := fun ρ S P X => mr ρ S (fun ds S1 => asZZ (fun es => P es S1) ds) X
/-! the keys of a dict of the top -/
def mIC (ds : List D) : MI := fun _ S P _ => P ds S
def mNotInTbl (kvs : List (Str × V)) (ma : ME) : ME := fun ρ S P X => ma ρ S (fun d S1 => asStr (fun z => P (.bl (!(kvs.lookup z).isSome)) S1) d) X
/-! texts -/
def fStrA : List D → (D → Prop) → Prop
  | [.int i], P => i.natAbs.log2 < 1920 ∧ P (.str (toString i))
  | [.str a], P => P (.str a)
  | _, _ => False
def fAddS : D → D → (D → Prop) → Prop
  | .str x, .str y, P => x.length + y.length ≤ sizeLine ∧ P (.str (x ++ y))
  | _, _, _ => False
def mSw (ma mb : ME) : ME := fun ρ S P X => ma ρ S (fun d S1 => asStr (fun z => mb ρ S1 (fun d2 S2 => asStr (fun y => P (.bl (Txt.startswith z y)) S2) d2) X) d) X
def fIntS : List D → (D → Prop) → Prop
  | [.str a], P => ∃ n : Int, PySem.intText? a = some n ∧ a.length ≤ 640 ∧ P (.int n)
  | _, _ => False
/-! f'..' -/
def mFmt (me : ME) : ME := fun ρ S P X => me ρ S (fun d S1 => match d with
  | .str y => P (.str y) S1
  | .int i => i.natAbs.log2 < 1920 ∧ P (.str (toString i)) S1
  | _ => False) X
inductive DJ (Z : ZP) (K : PySem.W.Frag) (mg : Str → Option Value) (E : XK) : List TE → List ME → Prop
  | nil : DJ Z K mg E [] []
  | cons {t : TE} {m : ME} {ts : List TE} {ms : List ME} : DE Z K mg E t m → DJ Z K mg E ts ms → DJ Z K mg E (t :: ts) (m :: ms)
def mJs : List ME → Str → Env → M Str
  | [], acc, _, S, P, _ => P acc S
  | m :: ms, acc, ρ, S, P, X => m ρ S (fun d S1 => asStr (fun y => (acc ++ y).length ≤ sizeLine ∧ mJs ms (acc ++ y) ρ S1 P X) d) X
def mJoined (ms : List ME) : ME := fun ρ S P X => mJs ms Str.empty ρ S (fun z S1 => P (.str z) S1) X
end
end Nc

namespace Nc
open PySem PySem.Spec PyProof.Rows L2
/-! ## lambdas handed to a def, on data -/
section
variable {Z : ZP} {K : PySem.W.Frag} {mg : Str → Option Value} {E : XK} {C : Cy Z K mg E} {α α' : List Addr} {ow : OwS} {σ : L2.St} {ρ : Env} {H H' : Hp} {S S' : Sto} {v : V} {d : D}
/-- a run within, whatever it may let out -/
def Ev.subE (e : Ev C α ow σ ρ H S) (E' : XK) : Cy Z K mg E' := ⟨C.β, fun a => C.A a ∨ ∃ i, ow i = some a, H, α, e.bg, fun b l ns q => .inl (C.hb b l ns q), fun a h => e.stands (h.elim .inl fun h => .inr (.inr h)), fun a h => e.stands (.inr (.inl h)), C.ht, fun a h => e.nc (h.elim .inl fun h => .inr (.inr h))⟩
theorem subE_hd {E' : XK} (e : Ev C α ow σ ρ H S) {α' : List Addr} : (e.subE E').hd α' ow0 = C.hd α' ow := by
  funext a
  refine propext ⟨fun h => ?_, fun h => ?_⟩
  · rcases h with (h | h) | h | ⟨i, h⟩
    · exact .inl h
    · exact .inr (.inr h)
    · exact .inr (.inl h)
    · cases h
  · rcases h with h | h | h
    · exact .inl (.inl h)
    · exact .inr (.inl h)
    · exact .inl (.inr h)
theorem StOk.subE {E' : XK} (e : Ev C α ow σ ρ H S) : StOk (e.subE E') α ow0 H S := ⟨e.st.len, e.st.nd, fun a m z => z.elim (e.st.nA a m) fun ⟨i, z⟩ => e.st.no i a z m, e.st.nL, fun i a q => (by cases q), fun i a o h1 h2 => by rw [subE_hd]; exact e.st.ob i a o h1 h2⟩
theorem Go.unsubE {E' : XK} (e : Ev C α ow σ ρ H S) {α' : List Addr} {H' : Hp} {S' : Sto} (g : Go (e.subE E') ow0 α H α' H' S') : Go C ow α H α' H' S' := ⟨g.fr, g.st.len, g.st.nd, fun a m z => g.st.nA a m (.inl z), g.st.nL, fun i a q m => g.st.nA a m (.inr ⟨i, q⟩), fun i a o h1 h2 => by
  have := g.st.ob i a o h1 h2
  rw [subE_hd] at this
  exact this⟩
/-- own objects are not seen -/
def shut (ρ : Env) : Env := ρ.map fun
  | .ow _ => .un
  | s => s
theorem Ev.evE {E' : XK} (e : Ev C α ow σ ρ H S) : Ev (e.subE E') α ow0 σ (shut ρ) H S := by
  refine ⟨fun i => ?_, fun _ _ _ h => (by cases h), fun _ _ h => (by cases h), Fr.refl e.bg, StOk.subE e⟩
  have h := e.sl i
  unfold shut
  rw [List.getElem?_map]
  show SlOk _ _ _ _ none _ _
  generalize ow i = w at h
  generalize σ[i]? = s at h ⊢
  generalize ρ[i]? = r at h ⊢
  cases h with
  | out => exact .out
  | un => exact .un
  | va h => exact .va (by unfold Rv; rw [subE_hd]; exact h)
  | ow h => exact .un
/-- a lambda was made -/
theorem Ev.lam (e : Ev C α ow σ ρ H S) (x : LamX.ExtN H H') (y : ∀ b, H' b = none → H b = none) (t : LamX.Tabs (tabsOf K) H') : Go C ow α H α H' S := by
  have f : Fr C.β α H α H' := by
    refine ⟨e.bg, List.prefix_refl _, ⟨fun b l ns q => ?_, by rw [C.ht]; exact t⟩, fun a o _ _ h nt => x a o h nt, fun a h z => h (y a z), fun a m => .inl m⟩
    have hb := e.bg.bag b l ns q
    obtain ⟨xs, h1⟩ := hb.isLst
    exact hb.at ((x _ _ h1 (by intro _ z; cases z)).trans h1.symm) ((x _ _ hb.someL (by intro _ z; cases z)).trans hb.someL.symm)
  exact ⟨f, e.st.len, e.st.nd, e.st.nA, e.st.nL, e.st.no, fun i a o h1 h2 => (e.st.ob i a o h1 h2).mono (List.prefix_refl _) (hid_fr f) fun o q nt => x a o q nt⟩
/-! ### what is refused, told -/
def selD (f : Option Str) (fs : List (Str × D)) (v : D) : Prop := match f with
  | some f => fs.lookup f = some v
  | none => v = .non
/-- the clauses: of which classes, with which field -/
def catL : List (List Str × Option Str) → Ex → (D → Sto → Prop) → Sto → Prop
  | [], _, _, _ => False
  | (ms, f) :: r, e, P, S => if e.cls ∈ ms then ∃ v1 v2, e.fs.lookup ("called" : Str) = some v1 ∧ selD f e.fs v2 ∧ P (.tup [v1, v2]) S else catL r e P S
def catD (RC : List Str) (cds : List (List Str × Option Str)) (e : Ex) (P : D → Sto → Prop) (S : Sto) : Prop := e.cls ∈ RC ∧ catL cds e P S
inductive ClsD (K : PySem.W.Frag) (mg : Str → Option Value) (RC : List Str) : List (List Str × Option Str) → List CK → Prop
  | nil : ClsD K mg RC [] []
  | cons {ms : List Str} {f : Option Str} {k : CK} {cds : List (List Str × Option Str)} {cks : List CK} : (∀ c ∈ RC, ∀ u, mg c = some u → PySem.W.exmAny K u k.cs = some (decide (c ∈ ms)) ∧ (c ∈ ms → ∃ C ∈ k.ms, u = .ref C)) → k.f = f → ClsD K mg RC cds cks → ClsD K mg RC ((ms, f) :: cds) (k :: cks)
theorem cat_ok {E' : XK} {RC : List Str} {P : D → Sto → Prop} {Q : VK} {x : Ex} {u : Value} {dx : Option Addr} (e : Ev C α ow σ ρ H S) (g : Go (e.subE E') ow0 α H α' H' S') (r : ExR (e.subE E') α' x u dx H') (hRC : x.cls ∈ RC)
    (k : ∀ d v H2, P d S' → Go C ow α H α' H2 S' → Rv C α' ow H2 v d → Q v H2) : ∀ {cds : List (List Str × Option Str)} {cks : List CK}, ClsD K mg RC cds cks → catL cds x P S' → catK K cks u dx H' Q := by
  intro cds cks hc
  induction hc with
  | nil => exact fun h => h.elim
  | @cons ms f ck cds cks h1 h2 h3 ih =>
    intro h
    obtain ⟨r1, dd, fs, r2, r3, r4, r5⟩ := r
    obtain ⟨q1, q2⟩ := h1 _ hRC _ r1
    refine ⟨_, q1, fun hb => ?_, fun hb => ?_⟩
    · have hm : x.cls ∈ ms := of_decide_eq_true hb
      unfold catL at h
      rw [if_pos hm] at h
      obtain ⟨v1, v2, w1, w2, w3⟩ := h
      obtain ⟨y1, z1, z2⟩ := fld_look r4 r5 w1
      have g' := g.unsubE e
      have e' := e.step g'
      have up : ∀ {v : V} {d : D}, Rp Z K mg (e.subE E').β α' (hid ((e.subE E').hd α' ow0) H') v d → Rv C α' ow H' v d := fun {v d} r => by rw [subE_hd] at r; exact r
      have fin : ∀ y2 : V, Rv C α' ow H' y2 v2 → ∀ p o, H' p = none → o.dict = none → Q (.ref p) (upd H' p (.frz o (.tup [y1, y2]))) := fun y2 hy p o hp ho =>
        k _ _ _ w3 (g'.trans (e'.nw hp)) (rv_tup e' hp ho (by show 2 ≤ sizeLine; decide) (.cons (up z2) (.cons hy .nil)))
      unfold selD at w2
      unfold selF
      rw [h2]
      cases f with
      | some f =>
        obtain ⟨y2, z3, z4⟩ := fld_look r4 r5 w2
        exact ⟨q2 hm, dd, fs, y1, y2, r2, r3, z1, z3, fin y2 (up z4)⟩
      | none =>
        cases w2
        exact ⟨q2 hm, dd, fs, y1, .non, r2, r3, z1, rfl, fin .non .non⟩
    · unfold catL at h
      rw [if_neg (of_decide_eq_false hb)] at h
      exact ih h
/-- x's call of the lambda's body -/
theorem val_body {tb : XK → TE} {dv : List V} {df : Value} {m : ME} {RC : List Str} {cds : List (List Str × Option Str)} {cks : List CK} {P : D → Sto → Prop} {Q : VK} (hb : ∀ E', DE Z K mg E' (tb E') m) (hc : ClsD K mg RC cds cks) (hdf : DfOk H dv df) (e : Ev C α ow σ ρ H S)
    (hm : m (shut ρ) S (fun _ S1 => P .non S1) (fun x S1 => catD RC cds x P S1)) (k : ∀ d v α' H' S', P d S' → Go C ow α H α' H' S' → Rv C α' ow H' v d → Q v H') : TTval K cks (fun E' H' Q' => DfOk H' dv df ∧ tb E' σ H' Q') H Q := by
  refine ⟨hdf, ?_⟩
  refine hb _ (e.subE _) α ow0 σ (shut ρ) H S _ _ _ e.evE hm (fun x u dx α' H' S' hx g r => ?_) fun d v α' H' S' p g r => ⟨.non, rfl, k _ _ _ _ _ p (g.unsubE e) .non⟩
  exact cat_ok e g r hx.1 (fun d v H2 p g r => k d v α' H2 S' p g r) hc hx.2
/-- x(lambda: ..) -/
def mLamI (RC : List Str) (cds : List (List Str × Option Str)) (m : ME) : ME := fun ρ S P _ => m (shut ρ) S (fun _ S1 => P .non S1) (fun x S1 => catD RC cds x P S1)
theorem de_lamI {q : Str} {cl : Scope → List (Str × Addr)} {t : LT} {tb : XK → TE} {m : ME} {RC : List Str} {cds : List (List Str × Option Str)} {cks : List CK} (hc : ClsD K mg RC cds cks) (hb : ∀ E', DE Z K mg E' (tb E') m) :
    DE Z K mg E (tCallL (TTval K cks) q cl [(t, tb)] (tMkL (tabsOf K) q t (cl t.sc))) (mLamI RC cds m) := fun C α ow σ ρ H S P X Q e hm hx k =>
  ⟨by rw [← C.ht]; exact e.bg.tab, fun f c' df H1 x y t1 hfn hf hc' hdf _ => ⟨f, c', df, (t, tb), List.mem_cons_self .., rfl, hf, hc', hdf, by
    have g := e.lam x y t1
    exact val_body hb hc hdf (e.step g) hm fun d v α' H' S' p g' r => k d v α' H' S' p (g.trans g') r⟩⟩
inductive LamD (Z : ZP) (K : PySem.W.Frag) (mg : Str → Option Value) (q : Str) (cl : Scope → List (Str × Addr)) : Nat → List (LT × (XK → TE)) → List ME → Prop
  | nil (n : Nat) : LamD Z K mg q cl n [] []
  | cons {n : Nat} {t : LT} {tb : XK → TE} {m : ME} {ls : List (LT × (XK → TE))} {ms : List ME} : Z.ls[n]? = some (t, q, cl t.sc) → (∀ E', DE Z K mg E' (tb E') m) → LamD Z K mg q cl (n + 1) ls ms → LamD Z K mg q cl n ((t, tb) :: ls) (m :: ms)
theorem LamD.get {q : Str} {cl : Scope → List (Str × Addr)} {n : Nat} {ls : List (LT × (XK → TE))} {ms : List ME} (h : LamD Z K mg q cl n ls ms) : ∀ {i : Nat} {m : ME}, ms[i]? = some m → ∃ l ∈ ls, Z.ls[n + i]? = some (l.1, q, cl l.1.sc) ∧ ∀ E', DE Z K mg E' (l.2 E') m := by
  induction h with
  | nil n => intro i m h; cases h
  | cons h1 h2 h3 ih =>
    intro i m h
    cases i with
    | zero => cases h; exact ⟨_, List.mem_cons_self .., h1, h2⟩
    | succ i =>
      obtain ⟨l, a1, a2, a3⟩ := ih (i := i) h
      exact ⟨l, List.mem_cons_of_mem _ a1, by rw [← a2]; congr 1; omega, a3⟩
theorem clsD_of {RC : List Str} (hm : ∀ c ∈ RC, mg c = some (.ref (He.ga K c))) : ∀ {css : List CS}, clsB K RC css = true → ClsD K mg RC (css.map fun c => (c.ms, c.f)) (css.map (ckOf K))
  | [], _ => .nil
  | c :: r, h => by
    unfold clsB at h
    rw [List.all_cons, Bool.and_eq_true] at h
    refine .cons (fun x hx u hu => ?_) rfl (clsD_of hm h.2)
    rw [hm x hx] at hu
    cases hu
    exact ⟨of_decide_eq_true (List.all_eq_true.mp h.1 x hx), fun hxm => ⟨_, List.mem_map.mpr ⟨x, hxm, rfl⟩, rfl⟩⟩
end
end Nc

namespace Nc
open PySem PySem.Spec PyProof.Rows L2
/-! ## dicts, on data -/
def kN : Key → NK
  | .inl n => .num n
  | .inr z => .text z
theorem kN_inj : ∀ {a b : Key}, kN a = kN b → a = b
  | .inl _, .inl _, h => by cases h; rfl
  | .inr _, .inr _, h => by cases h; rfl
  | .inl _, .inr _, h => by cases h
  | .inr _, .inl _, h => by cases h
theorem nk_kD (k : Key) : (kD k).nk = some (kN k) := by cases k <;> (unfold kD D.nk; rfl)
def D.flatK : D → Bool
  | .int _ => true | .str _ => true
  | _ => false
def D.tupK : D → Bool
  | .tup _ => true
  | _ => false
def D.deep8 (k : D) : Bool := match k.nk with
  | some κ => decide (κ.depth ≤ 8)
  | none => false
/-- a dict with these keys may be asked for this one -/
def dcov (ks : List D) (k : D) : Bool := (k.flatK && ks.all D.flatK) || (k.tupK && k.deep8 && ks.all D.tupK)
def dlook (ks ds : List D) (k : D) : Option D := ((ks.zip ds).find? fun p => decide (p.1.nk = k.nk)).map (·.2)
theorem dlook_nil {ds : List D} {k : D} : dlook [] ds k = none := rfl
theorem dlook_cons {k0 d0 k : D} {ks ds : List D} : dlook (k0 :: ks) (d0 :: ds) k = if k0.nk = k.nk then some d0 else dlook ks ds k := by
  unfold dlook
  rw [List.zip_cons_cons, List.find?_cons]
  by_cases h : k0.nk = k.nk
  · rw [if_pos h]; simp [h]
  · rw [if_neg h]; simp [h]
section
variable {Z : ZP} {K : PySem.W.Frag} {mg : Str → Option Value} {β : BG} {α : List Addr} {H Hh : Hp}
mutual
theorem Rp.kh : ∀ {v : V} {d : D} {κ : NK}, Rp Z K mg β α H v d → d.nk = some κ → KH K H κ v
  | _, _, _, .non, q => by unfold D.nk at q; cases q; exact .non
  | _, _, _, .bl b, q => by unfold D.nk at q; cases q; exact .bl b
  | _, _, _, .int i, q => by unfold D.nk at q; cases q; exact .int i
  | _, _, _, .str h, q => by unfold D.nk at q; cases q; exact .str _
  | _, .tup ds, _, .tup h _ n r, q => by
    unfold D.nk at q
    cases w : D.nks ds with
    | none => rw [w] at q; cases q
    | some ks =>
      rw [w] at q
      cases q
      exact .tup h (RpAll.kh r w)
  | _, _, _, .lst _ _ _, q | _, _, _, .pr _ _ _, q | _, _, _, .dK _ _ _ _, q | _, _, _, .dN _ _ _ _ _, q | _, _, _, .ins _ _ _, q | _, _, _, .ob _, q | _, _, _, .bag _, q | _, _, _, .raw _, q => by unfold D.nk at q; cases q
theorem RpAll.kh : ∀ {vs : List V} {ds : List D} {κs : List NK}, RpAll Z K mg β α H vs ds → D.nks ds = some κs → KHA K H κs vs
  | _, _, _, .nil, q => by unfold D.nks at q; cases q; exact .nil
  | _, d :: ds, _, .cons h r, q => by
    unfold D.nks at q
    cases w1 : d.nk with
    | none => rw [w1] at q; cases q
    | some κ =>
      cases w2 : D.nks ds with
      | none => rw [w1, w2] at q; cases q
      | some κs =>
        rw [w1, w2] at q
        cases q
        exact .cons (Rp.kh h w1) (RpAll.kh r w2)
end
theorem look_rel : ∀ {kvs : List (NK × V)} {ks ds : List D}, ks.map D.nk = kvs.map (fun p => some p.1) → RpAll Z K mg β α H (kvs.map (·.2)) ds → ∀ {k : D} {κ : NK}, k.nk = some κ →
    (match dlook ks ds k with | some d => ∃ v, valV kvs κ = some v ∧ Rp Z K mg β α H v d | none => valV kvs κ = none)
  | [], [], _, _, _, k, κ, _ => by rw [dlook_nil]; rfl
  | p :: kvs, k0 :: ks, _, h, .cons (d := d0) (ds := ds) r t, k, κ, hk => by
    rw [List.map_cons, List.map_cons] at h
    obtain ⟨h0, h1⟩ := List.cons.inj h
    rw [dlook_cons, h0, hk]
    by_cases e : p.1 = κ
    · rw [if_pos (congrArg some e)]
      exact ⟨p.2, valV_pos e, r⟩
    · rw [if_neg (fun z => e (Option.some.inj z)), valV_neg e]
      exact look_rel h1 t hk
  | [], _ :: _, _, h, _, _, _, _ => by cases h
  | _ :: _, [], _, h, _, _, _, _ => by cases h
theorem valV_kN (k : Key) : ∀ kvs : List (Key × V), valV (kvs.map fun p => (kN p.1, p.2)) (kN k) = valV kvs k
  | [] => rfl
  | p :: kvs => by
    by_cases e : p.1 = k
    · rw [List.map_cons, valV_pos (congrArg kN e), valV_pos e]
    · rw [List.map_cons, valV_neg (fun z => e (kN_inj z)), valV_neg e, valV_kN k kvs]
/-- the dict at a, on data -/
inductive DV (Z : ZP) (K : PySem.W.Frag) (mg : Str → Option Value) (β : BG) (α : List Addr) (Hh H : Hp) (a : Addr) : List D → List D → Prop
  | k {kvs : List (Key × V)} {ds : List D} : Rd H a (.dK kvs) → kvs.length ≤ sizeLine → RpAll Z K mg β α Hh (kvs.map (·.2)) ds → DV Z K mg β α Hh H a (kvs.map fun p => kD p.1) ds
  | n {kvs : DNs} {ks ds : List D} : Rd H a (DNO Z.p Z.w a kvs) → kvs.length ≤ sizeLine → RpAll Z K mg β α Hh (dnKs kvs) ks → KsOk kvs ks → RpAll Z K mg β α Hh (dnVs kvs) ds → DV Z K mg β α Hh H a ks ds
theorem ksOk_keys (s : Same Hh H) : ∀ {kvs : DNs} {ks : List D}, RpAll Z K mg β α Hh (dnKs kvs) ks → KsOk kvs ks → ∀ p ∈ kvs, KT8 K H p.1 p.2.1
  | [], _, _, _, p, hp => nomatch hp
  | q :: kvs, k :: ks, .cons r t, ⟨h, d⟩, p, hp => by
    rw [List.map_cons, List.map_cons] at h
    obtain ⟨h0, h1⟩ := List.cons.inj h
    rcases List.mem_cons.mp hp with e | hp
    · subst e
      exact ⟨(r.kh h0).same s, d _ (List.mem_cons_self ..)⟩
    · exact ksOk_keys s t ⟨h1, fun p hp => d p (List.mem_cons_of_mem _ hp)⟩ p hp
theorem DV.isD (s : Same Hh H) {a : Addr} {ks ds : List D} (h : DV Z K mg β α Hh H a ks ds) : IsDX Z.p Z.w K H a := by
  cases h with
  | k h _ _ => exact .inl (.inl ⟨_, h⟩)
  | n h _ r z _ => exact .inr ⟨_, .n h (ksOk_keys s r z)⟩
theorem flatK_of {v : V} {k : D} (r : Rp Z K mg β α H v k) (f : k.flatK = true) : ∃ κ : Key, k = kD κ ∧ v = kV κ := by
  cases r <;> first | exact ⟨.inl _, rfl, rfl⟩ | exact ⟨.inr _, rfl, rfl⟩ | cases f
theorem tupK_of {v : V} {k : D} (r : Rp Z K mg β α H v k) (f : k.tupK = true) : ∃ b, v = .ref b := by
  cases r <;> first | exact ⟨_, rfl⟩ | cases f
theorem deep8_of {k : D} (f : k.deep8 = true) : ∃ κ, k.nk = some κ ∧ κ.depth ≤ 8 := by
  unfold D.deep8 at f
  split at f
  · rename_i κ h
    exact ⟨κ, h, of_decide_eq_true f⟩
  · cases f
theorem tup_kt8 (s : Same Hh H) {v : V} {k : D} (r : Rp Z K mg β α Hh v k) (f : k.tupK = true) (g : k.deep8 = true) : ∃ κ b, v = .ref b ∧ k.nk = some κ ∧ KT8 K H κ b := by
  obtain ⟨b, rfl⟩ := tupK_of r f
  obtain ⟨κ, h1, h2⟩ := deep8_of g
  exact ⟨κ, b, rfl, h1, (r.kh h1).same s, h2⟩
theorem kD_all {kvs : List (Key × V)} (h : (kvs.map fun p => kD p.1).all D.tupK = true) : kvs = [] := by
  cases kvs with
  | nil => rfl
  | cons p kvs =>
    rw [List.map_cons, List.all_cons, Bool.and_eq_true_iff] at h
    exfalso
    cases q : p.1 with
    | inl n => rw [q] at h; cases h.1
    | inr n => rw [q] at h; cases h.1
theorem dN_all {kvs : DNs} {ks : List D} (r : RpAll Z K mg β α H (dnKs kvs) ks) (h : ks.all D.flatK = true) : kvs = [] := by
  cases kvs with
  | nil => rfl
  | cons p kvs =>
    cases r with
    | cons r t =>
      rw [List.all_cons, Bool.and_eq_true_iff] at h
      obtain ⟨κ, h1, h2⟩ := flatK_of r h.1
      cases κ <;> cases h2
theorem DV.get (s : Same Hh H) {a : Addr} {ks ds : List D} {y : V} {k : D} (h : DV Z K mg β α Hh H a ks ds) (ry : Rp Z K mg β α Hh y k) (hc : dcov ks k = true) :
    ∃ r, DGX Z.p Z.w K H a y r ∧ (match dlook ks ds k with | some d => ∃ v, r = some v ∧ Rp Z K mg β α Hh v d | none => r = none) := by
  unfold dcov at hc
  rw [Bool.or_eq_true, Bool.and_eq_true_iff, Bool.and_eq_true_iff, Bool.and_eq_true_iff] at hc
  cases h with
  | @k kvs _ h1 h2 h3 =>
    rcases hc with ⟨f, _⟩ | ⟨⟨f, g⟩, w⟩
    · obtain ⟨κ, rfl, rfl⟩ := flatK_of ry f
      refine ⟨valV kvs κ, .inl (.inl ⟨kvs, κ, h1, rfl, rfl⟩), ?_⟩
      have := look_rel (kvs := kvs.map fun p => (kN p.1, p.2)) (ks := kvs.map fun p => kD p.1) (ds := ds) (by simp [nk_kD]) (by rw [List.map_map]; exact h3) (nk_kD κ)
      rw [valV_kN] at this
      exact this
    · have e := kD_all w
      subst e
      obtain ⟨κ, b, rfl, _, kt⟩ := tup_kt8 s ry f g
      exact ⟨none, .inr (.inl ⟨[], κ, b, .e h1, rfl, kt, rfl⟩), rfl⟩
  | @n kvs _ _ h1 h2 h3 h4 h5 =>
    rcases hc with ⟨f, w⟩ | ⟨⟨f, g⟩, _⟩
    · have e := dN_all h3 w
      subst e
      obtain ⟨κ, rfl, rfl⟩ := flatK_of ry f
      cases h3
      exact ⟨none, .inr (.inr ⟨κ, h1, rfl, rfl⟩), rfl⟩
    · obtain ⟨κ, b, rfl, hk, kt⟩ := tup_kt8 s ry f g
      refine ⟨valV (dnPairs kvs) κ, .inr (.inl ⟨kvs, κ, b, .n h1 (ksOk_keys s h3 h4), rfl, kt, rfl⟩), ?_⟩
      exact look_rel (kvs := dnPairs kvs) (by unfold dnPairs; rw [h4.1, List.map_map]; rfl) (by unfold dnPairs; rw [List.map_map]; exact h5) hk
end
section
variable {Z : ZP} {K : PySem.W.Frag} {mg : Str → Option Value} {E : XK} {C : Cy Z K mg E} {α α' : List Addr} {ow : OwS} {σ : L2.St} {ρ : Env} {H H' : Hp} {S S' : Sto}
theorem OwB.dv {a : Addr} {B : Addr → Prop} {β : BG} {ks ds : List D} (h : OwB Z K mg β α B H a (.dic ks ds)) : DV Z K mg β α (hid B H) H a ks ds := by
  cases h with
  | dK h1 h2 _ h3 => exact .k (.inl h1) h2 h3
  | dN h1 h2 h3 h4 h5 => exact .n (.inl h1) h2 h3 h4 h5
theorem Sh.dv {v : V} {ks ds : List D} (h : Sh C α ow H v (.dic ks ds)) : ∃ a, v = .ref a ∧ DV Z K mg C.β α (hid (C.hd α ow) H) H a ks ds := by
  rcases h with h | ⟨i, a, _, rfl, h⟩ | ⟨a, _, rfl, h⟩
  · cases h with
    | @dK a _ _ h1 h2 _ h3 =>
      obtain ⟨o, h1⟩ := h1
      exact ⟨a, rfl, .k (.inr ⟨o, hid_same _ _ h1⟩) h2 h3⟩
    | @dN a _ _ _ h1 h2 h3 h4 h5 =>
      obtain ⟨o, h1⟩ := h1
      exact ⟨a, rfl, .n (.inr ⟨o, hid_same _ _ h1⟩) h2 h3 h4 h5⟩
  · exact ⟨a, rfl, h.dv⟩
  · exact ⟨a, rfl, h.dv⟩
def asDic (f : List D → List D → Prop) : D → Prop
  | .dic ks ds => f ks ds
  | _ => False
theorem asDic_elim {f : List D → List D → Prop} {d : D} (h : asDic f d) : ∃ ks ds, d = .dic ks ds ∧ f ks ds := by
  unfold asDic at h
  split at h
  · exact ⟨_, _, rfl, h⟩
  · exact h.elim
variable {td tk tx : TE} {md mk mx : ME}
/-- d[k] -/
def mXGet (md mk : ME) : ME := fun ρ S P X => md ρ S (fun d S1 => mk ρ S1 (fun k S2 => asDic (fun ks ds => dcov ks k = true ∧ match dlook ks ds k with
  | some v => P v S2
  | none => False) (S2.rs d)) X) X
/-- k in d -/
def mXIn (neg : Bool) (mk md : ME) : ME := fun ρ S P X => mk ρ S (fun k S1 => md ρ S1 (fun d S2 => asDic (fun ks ds => dcov ks k = true ∧ P (.bl (if neg then !(dlook ks ds k).isSome else (dlook ks ds k).isSome)) S2) (S2.rs d)) X) X
/-- d.get(k) -/
def mXGet1 (md mk : ME) : ME := fun ρ S P X => md ρ S (fun d S1 => asDic (fun _ _ => mk ρ S1 (fun k S2 => asDic (fun ks ds => dcov ks k = true ∧ P ((dlook ks ds k).getD .non) S2) (S2.rs d)) X) (S1.rs d)) X
/-- d.get(k, x) -/
def mXGet2 (md mk mx : ME) : ME := fun ρ S P X => md ρ S (fun d S1 => asDic (fun _ _ => mk ρ S1 (fun k S2 => mx ρ S2 (fun x S3 => asDic (fun ks ds => dcov ks k = true ∧ P ((dlook ks ds k).getD x) S3) (S3.rs d)) X) X) (S1.rs d)) X
theorem de_xget2 (hd : DQ Z K mg E td md) (hk : DE Z K mg E tk mk) (hx2 : DE Z K mg E tx mx) : DE Z K mg E (tXGet2 Z K td tk tx) (mXGet2 md mk mx) := fun C α ow σ ρ H S P X Q e hm hx kk =>
  hd C α ow σ ρ H S _ X _ e hm hx fun d x α1 H1 S1 hm1 g1 s1 => by
    obtain ⟨_, _, ed1, hm1⟩ := asDic_elim hm1
    have sh1 := s1.rs g1.st
    rw [ed1] at sh1
    obtain ⟨a, rfl, dv1⟩ := sh1.dv
    refine ⟨a, rfl, dv1.isD hid_same, hk C α1 ow σ ρ H1 S1 _ X _ (e.step g1) hm1 hx fun k y α2 H2 S2 hm2 g2 r2 => hx2 C α2 ow σ ρ H2 S2 _ X _ ((e.step g1).step g2) hm2 hx fun x3 y3 α3 H3 S3 hm3 g3 r3 => ?_⟩
    obtain ⟨ks, ds, ed, hc, hv⟩ := asDic_elim hm3
    have sh := ((s1.go (e.step g1) g2).go ((e.step g1).step g2) g3).rs g3.st
    rw [ed] at sh
    obtain ⟨a', ea, dv⟩ := sh.dv
    cases ea
    obtain ⟨r, gx, hr⟩ := dv.get hid_same (r2.go g3) hc
    refine ⟨r, gx, kk _ _ _ _ _ hv ((g1.trans g2).trans g3) ?_⟩
    cases q : dlook ks ds k with
    | none => rw [q] at hr; rw [hr]; exact r3
    | some v => rw [q] at hr; obtain ⟨v', rfl, rv⟩ := hr; exact rv
end
/-! ### written -/
def dput (ks ds : List D) (k d : D) : List D × List D :=
  if ks.any (fun k' => decide (k'.nk = k.nk)) then (ks, (ks.zip ds).map fun p => if p.1.nk = k.nk then d else p.2) else (ks ++ [k], ds ++ [d])
section
variable {Z : ZP} {K : PySem.W.Frag} {mg : Str → Option Value} {β : BG} {α : List Addr} {H Hh : Hp}
theorem any_rel {k : D} {κ : NK} (hk : k.nk = some κ) : ∀ {κs : List NK} {ks : List D}, ks.map D.nk = κs.map some → (κs.any fun p => decide (p = κ)) = ks.any fun k' => decide (k'.nk = k.nk)
  | [], [], _ => rfl
  | p :: κs, k0 :: ks, h => by
    rw [List.map_cons, List.map_cons] at h
    obtain ⟨h0, h1⟩ := List.cons.inj h
    rw [List.any_cons, List.any_cons, any_rel hk h1, h0, hk]
    simp
  | [], _ :: _, h => by cases h
  | _ :: _, [], h => by cases h
theorem rep_rel {k : D} {κ : NK} {v : V} {d : D} (hk : k.nk = some κ) (rv : Rp Z K mg β α H v d) : ∀ {ps : List (NK × V)} {ks ds : List D}, ks.map D.nk = ps.map (fun p => some p.1) → RpAll Z K mg β α H (ps.map (·.2)) ds →
    RpAll Z K mg β α H (ps.map fun p => if p.1 = κ then v else p.2) ((ks.zip ds).map fun p => if p.1.nk = k.nk then d else p.2)
  | [], [], _, _, _ => .nil
  | p :: ps, k0 :: ks, _, h, .cons (d := d0) (ds := ds) r t => by
    rw [List.map_cons, List.map_cons] at h
    obtain ⟨h0, h1⟩ := List.cons.inj h
    rw [List.zip_cons_cons, List.map_cons, List.map_cons]
    refine .cons ?_ (rep_rel hk rv h1 t)
    show Rp Z K mg β α H (if p.1 = κ then v else p.2) (if k0.nk = k.nk then d else d0)
    rw [h0, hk]
    by_cases e : p.1 = κ
    · rw [if_pos e, if_pos (congrArg some e)]; exact rv
    · rw [if_neg e, if_neg (fun z => e (Option.some.inj z))]; exact r
  | [], _ :: _, _, h, _ => by cases h
  | _ :: _, [], _, h, _ => by cases h
theorem hid_wr {B : Addr → Prop} {a : Addr} {o : HO} (hB : B a) : Same (hid B H) (hid B (upd H a o)) := fun b o' q => by
  obtain ⟨q1, q2⟩ := hid_some q
  exact hid_get q1 (by rw [upd_ne (fun z => q1 (by rw [z]; exact hB))]; exact q2) (hid_nt q)
theorem RpAll.snoc {xs : List V} {ds : List D} {v : V} {d : D} (r : RpAll Z K mg β α H xs ds) (h : Rp Z K mg β α H v d) : RpAll Z K mg β α H (xs ++ [v]) (ds ++ [d]) := r.append (.cons h .nil)
theorem dput_rel {k : D} {κ : NK} {v : V} {d : D} {ps : List (NK × V)} {ks ds : List D} (hk : k.nk = some κ) (rv : Rp Z K mg β α H v d) (h : ks.map D.nk = ps.map (fun p => some p.1)) (r : RpAll Z K mg β α H (ps.map (·.2)) ds) :
    RpAll Z K mg β α H ((putK ps κ v).map (·.2)) (dput ks ds k d).2 := by
  have ha : (ps.any fun p => decide (p.1 = κ)) = ks.any fun k' => decide (k'.nk = k.nk) := by
    rw [← any_rel hk (κs := ps.map (·.1)) (by rw [h, List.map_map]; rfl), List.any_map]
    rfl
  unfold putK dput
  rw [ha]
  by_cases q : (ks.any fun k' => decide (k'.nk = k.nk)) = true
  · rw [if_pos q, if_pos q]
    have := rep_rel hk rv h r
    rw [List.map_map]
    refine cast ?_ this
    congr 1
    refine List.map_congr_left fun p _ => ?_
    show _ = (if p.1 = κ then (p.1, v) else p).2
    by_cases e : p.1 = κ
    · rw [if_pos e, if_pos e]
    · rw [if_neg e, if_neg e]
  · rw [if_neg q, if_neg q, List.map_append]
    exact r.snoc rv
theorem any_kD (kvs : List (Key × V)) (κ : Key) : ((kvs.map fun p => kD p.1).any fun k' => decide (k'.nk = (kD κ).nk)) = kvs.any fun p => decide (p.1 = κ) := by
  induction kvs with
  | nil => rfl
  | cons p kvs ih =>
    rw [List.map_cons, List.any_cons, List.any_cons, ih, nk_kD, nk_kD]
    by_cases e : p.1 = κ
    · simp [e]
    · have : ¬ kN p.1 = kN κ := fun z => e (kN_inj z)
      simp [e, this]
theorem dput_kD {kvs : List (Key × V)} {ds : List D} {κ : Key} {v : V} {d : D} : (dput (kvs.map fun p => kD p.1) ds (kD κ) d).1 = (putK kvs κ v).map fun p => kD p.1 := by
  unfold dput putK
  rw [any_kD]
  by_cases q : (kvs.any fun p => decide (p.1 = κ)) = true
  · rw [if_pos q, if_pos q, List.map_map]
    refine List.map_congr_left fun p _ => ?_
    show kD p.1 = kD (if p.1 = κ then (p.1, v) else p).1
    by_cases e : p.1 = κ
    · rw [if_pos e]
    · rw [if_neg e]
  · rw [if_neg q, if_neg q, List.map_append]
    rfl
theorem putK_kN (kvs : List (Key × V)) (κ : Key) (v : V) : putK (kvs.map fun p => (kN p.1, p.2)) (kN κ) v = (putK kvs κ v).map fun p => (kN p.1, p.2) := by
  have ha : ((kvs.map fun p => (kN p.1, p.2)).any fun p => decide (p.1 = kN κ)) = kvs.any fun p => decide (p.1 = κ) := by
    rw [List.any_map]
    refine congrArg kvs.any (funext fun p => ?_)
    show decide (kN p.1 = kN κ) = _
    by_cases e : p.1 = κ
    · simp [e]
    · have : ¬ kN p.1 = kN κ := fun z => e (kN_inj z)
      simp [e, this]
  unfold putK
  rw [ha]
  by_cases q : (kvs.any fun p => decide (p.1 = κ)) = true
  · rw [if_pos q, if_pos q, List.map_map, List.map_map]
    refine List.map_congr_left fun p _ => ?_
    show (if kN p.1 = kN κ then (kN p.1, v) else (kN p.1, p.2)) = (kN (if p.1 = κ then (p.1, v) else p).1, (if p.1 = κ then (p.1, v) else p).2)
    by_cases e : p.1 = κ
    · rw [if_pos e, if_pos (congrArg kN e)]
    · rw [if_neg e, if_neg (fun z => e (kN_inj z))]
  · rw [if_neg q, if_neg q, List.map_append]
    rfl
theorem ksL_put {kvs : List (Key × V)} {κ : Key} {v : V} (l : KsL kvs) (lk : ∀ z, κ = .inr z → z.length ≤ sizeLine) : KsL (putK kvs κ v) := fun p hp => by
  unfold putK at hp
  split at hp
  · obtain ⟨p0, h0, rfl⟩ := List.mem_map.mp hp
    intro z hz
    refine l p0 h0 z ?_
    by_cases e : p0.1 = κ
    · rw [if_pos e] at hz; exact hz
    · rw [if_neg e] at hz; exact hz
  · rcases List.mem_append.mp hp with h0 | h0
    · exact l p h0
    · rw [List.mem_singleton.mp h0]; exact lk
theorem flat_len {κ : Key} (r : Rp Z K mg β α H (kV κ) (kD κ)) : ∀ z, κ = .inr z → z.length ≤ sizeLine := fun z e => by
  subst e
  exact r.strI.2
/-- a flat key -/
theorem putK_ow {B : Addr → Prop} {a : Addr} {kvs : List (Key × V)} {ds : List D} {κ : Key} {v : V} {d : D} (hB : B a) (l : KsL kvs) (lk : ∀ z, κ = .inr z → z.length ≤ sizeLine) (r : RpAll Z K mg β α (hid B H) (kvs.map (·.2)) ds) (rv : Rp Z K mg β α (hid B H) v d) (hl : kvs.length < sizeLine) :
    OwB Z K mg β α B (upd H a (.dK (putK kvs κ v))) a (.dic (dput (kvs.map fun p => kD p.1) ds (kD κ) d).1 (dput (kvs.map fun p => kD p.1) ds (kD κ) d).2) := by
  have sm : Same (hid B H) (hid B (upd H a (.dK (putK kvs κ v)))) := hid_wr hB
  have hlen : (putK kvs κ v).length ≤ sizeLine := by have := length_putK kvs κ v; omega
  rw [dput_kD (v := v)]
  refine .dK upd_same hlen (ksL_put l lk) (RpAll.same sm ?_)
  have := dput_rel (ps := kvs.map fun p => (kN p.1, p.2)) (ks := kvs.map fun p => kD p.1) (ds := ds) (nk_kD κ) rv (by simp [nk_kD]) (by rw [List.map_map]; exact r)
  rw [putK_kN, List.map_map] at this
  exact this
theorem dn_any (kvs : DNs) (κ : NK) : ((dnPairs kvs).any fun p => decide (p.1 = κ)) = kvs.any fun p => decide (p.1 = κ) := by
  unfold dnPairs
  rw [List.any_map]
  rfl
theorem dn_put (kvs : DNs) (κ : NK) (b : Addr) (v : V) : dnPairs (dnPut kvs κ b v) = putK (dnPairs kvs) κ v := by
  unfold dnPut putK
  rw [dn_any]
  by_cases q : (kvs.any fun p => decide (p.1 = κ)) = true
  · rw [if_pos q, if_pos q]
    unfold dnPairs
    rw [List.map_map, List.map_map]
    refine List.map_congr_left fun p _ => ?_
    show ((if p.1 = κ then (p.1, p.2.1, v) else p).1, (if p.1 = κ then (p.1, p.2.1, v) else p).2.2) = if p.1 = κ then (p.1, v) else (p.1, p.2.2)
    by_cases e : p.1 = κ
    · rw [if_pos e, if_pos e]
    · rw [if_neg e, if_neg e]
  · rw [if_neg q, if_neg q]
    unfold dnPairs
    rw [List.map_append]
    rfl
/-- a tuple key -/
theorem putN_ow {B : Addr → Prop} {a b : Addr} {kvs : DNs} {ks ds : List D} {κ : NK} {k : D} {v : V} {d : D} (hB : B a) (r1 : RpAll Z K mg β α (hid B H) (dnKs kvs) ks) (ok : KsOk kvs ks) (r : RpAll Z K mg β α (hid B H) (dnVs kvs) ds) (hk : k.nk = some κ) (h8 : κ.depth ≤ 8)
    (rk : Rp Z K mg β α (hid B H) (.ref b) k) (rv : Rp Z K mg β α (hid B H) v d) (hl : kvs.length < sizeLine) :
    OwB Z K mg β α B (upd H a (DNO Z.p Z.w a (dnPut kvs κ b v))) a (.dic (dput ks ds k d).1 (dput ks ds k d).2) := by
  have sm : Same (hid B H) (hid B (upd H a (DNO Z.p Z.w a (dnPut kvs κ b v)))) := hid_wr hB
  have hlen : (dnPut kvs κ b v).length ≤ sizeLine := by have := dnPut_len kvs κ b v; omega
  have hp := dput_rel (ps := dnPairs kvs) hk rv (by unfold dnPairs; rw [ok.1, List.map_map]; rfl) (by unfold dnPairs; rw [List.map_map]; exact r)
  have e2 : (putK (dnPairs kvs) κ v).map (·.2) = dnVs (dnPut kvs κ b v) := by
    rw [← dn_put kvs κ b v]
    unfold dnPairs dnVs
    rw [List.map_map]
    rfl
  rw [e2] at hp
  have ha : (kvs.any fun p => decide (p.1 = κ)) = ks.any fun k' => decide (k'.nk = k.nk) := by
    rw [← any_rel hk (κs := kvs.map (·.1)) (by rw [ok.1, List.map_map]; rfl), List.any_map]
    rfl
  have hkeys : RpAll Z K mg β α (hid B H) (dnKs (dnPut kvs κ b v)) (dput ks ds k d).1 ∧ KsOk (dnPut kvs κ b v) (dput ks ds k d).1 := by
    unfold dnPut dput
    rw [ha]
    by_cases q : (ks.any fun k' => decide (k'.nk = k.nk)) = true
    · rw [if_pos q, if_pos q]
      have e3 : dnKs (kvs.map fun p => if p.1 = κ then (p.1, p.2.1, v) else p) = dnKs kvs := by
        unfold dnKs
        rw [List.map_map]
        refine List.map_congr_left fun p _ => ?_
        show V.ref (if p.1 = κ then (p.1, p.2.1, v) else p).2.1 = .ref p.2.1
        by_cases e : p.1 = κ
        · rw [if_pos e]
        · rw [if_neg e]
      have e4 : ∀ p : NK × Addr × V, (if p.1 = κ then (p.1, p.2.1, v) else p).1 = p.1 := fun p => by
        by_cases e : p.1 = κ
        · rw [if_pos e]
        · rw [if_neg e]
      refine ⟨by rw [e3]; exact r1, ?_, fun p hp => ?_⟩
      · rw [List.map_map, ok.1]
        refine List.map_congr_left fun p _ => ?_
        show some p.1 = some (if p.1 = κ then (p.1, p.2.1, v) else p).1
        rw [e4]
      · obtain ⟨p0, hp0, rfl⟩ := List.mem_map.mp hp
        rw [e4]
        exact ok.2 p0 hp0
    · rw [if_neg q, if_neg q]
      refine ⟨by unfold dnKs; rw [List.map_append]; exact r1.snoc rk, by rw [List.map_append, List.map_append, ok.1]; simp [hk], fun p hp => ?_⟩
      rcases List.mem_append.mp hp with hp | hp
      · exact ok.2 p hp
      · rw [List.mem_singleton.mp hp]; exact h8
  exact .dN upd_same hlen (RpAll.same sm hkeys.1) hkeys.2 (RpAll.same sm hp)
/-- a key is written -/
theorem put_ow {B : Addr → Prop} {a : Addr} {ks ds : List D} {y v : V} {k d : D} (hB : B a) (h : OwB Z K mg β α B H a (.dic ks ds)) (ry : Rp Z K mg β α (hid B H) y k) (rv : Rp Z K mg β α (hid B H) v d) (hc : dcov ks k = true) (hl : ks.length < sizeLine) :
    ∃ o, DPK Z.p Z.w K H a y v (upd H a o) ∧ OwB Z K mg β α B (upd H a o) a (.dic (dput ks ds k d).1 (dput ks ds k d).2) := by
  unfold dcov at hc
  rw [Bool.or_eq_true, Bool.and_eq_true_iff, Bool.and_eq_true_iff, Bool.and_eq_true_iff] at hc
  cases h with
  | @dK kvs _ h1 h2 l h3 =>
    rw [List.length_map] at hl
    rcases hc with ⟨f, _⟩ | ⟨⟨f, g⟩, w⟩
    · obtain ⟨κ, rfl, rfl⟩ := flatK_of ry f
      exact ⟨_, .inl ⟨kvs, κ, h1, rfl, hl, rfl⟩, putK_ow hB l (flat_len ry) h3 rv hl⟩
    · have e := kD_all w
      subst e
      cases h3
      obtain ⟨κ, b, rfl, hk, kt⟩ := tup_kt8 (H := H) hid_same ry f g
      exact ⟨_, .inr (.inl ⟨[], κ, b, .e (.inl h1), by rw [h1]; exact True.intro, rfl, kt, hl, rfl⟩), putN_ow (kvs := []) hB .nil ⟨rfl, fun _ q => nomatch q⟩ .nil hk kt.2 ry rv hl⟩
  | @dN kvs _ _ h1 h2 h3 h4 h5 =>
    have hlen : kvs.length = ks.length := by have := h3.len; unfold dnKs at this; rwa [List.length_map] at this
    rcases hc with ⟨f, w⟩ | ⟨⟨f, g⟩, _⟩
    · have e := dN_all h3 w
      subst e
      obtain ⟨κ, rfl, rfl⟩ := flatK_of ry f
      cases h3
      cases h5
      exact ⟨_, .inr (.inr ⟨κ, .inl h1, by rw [h1]; exact True.intro, rfl, rfl⟩), putK_ow (kvs := []) hB (fun _ q => nomatch q) (flat_len ry) .nil rv (by decide)⟩
    · obtain ⟨κ, b, rfl, hk, kt⟩ := tup_kt8 (H := H) hid_same ry f g
      exact ⟨_, .inr (.inl ⟨kvs, κ, b, .n (.inl h1) (ksOk_keys hid_same h3 h4), by rw [h1]; exact True.intro, rfl, kt, by omega, rfl⟩), putN_ow hB h3 h4 h5 hk kt.2 ry rv (by omega)⟩
end
section
variable {Z : ZP} {K : PySem.W.Frag} {mg : Str → Option Value} {E : XK} {F : Bool} {td tk tv : TE} {md mk mv : ME}
/-- x[k] = v, x an own dict -/
def kDPut (i : Nat) (mk mv : ME) : MS := fun ρ S e => mv ρ S (fun v S1 => match ρ[i]? with
  | some (.ow (.dic ks ds)) => mk ρ S1 (fun k S2 => dcov ks k = true ∧ ks.length < sizeLine ∧ e.nx (ρ.set i (.ow (.dic (dput ks ds k v).1 (dput ks ds k v).2))) S2) e.ex
  | _ => False) e.ex
theorem ds_dput {i : Nat} (hk : DE Z K mg E tk mk) (hv : DE Z K mg E tv mv) : DS Z K mg E F (sXPut Z K (tVar i) tk tv) (kDPut i mk mv) := fun C α ow σ ρ H S e Dn ev nw hm k => by
  refine hv C α ow σ ρ H S _ _ _ ev hm k.ex fun dv v α1 H1 S1 p1 g1 r1 => ?_
  have ev1 := ev.step g1
  split at p1
  · rename_i ks ds hd
    have q := ev1.sl i
    rw [hd] at q
    generalize hw : ow i = w at q
    generalize hs : σ[i]? = s at q
    cases q with
    | @ow a _ q =>
      refine ⟨_, hs, hk C α1 ow σ ρ H1 S1 _ _ _ ev1 p1 k.ex fun dk y α2 H2 S2 p2 g2 r2 => ?_⟩
      obtain ⟨hc, hl, p2⟩ := p2
      have ev2 := ev1.step g2
      have q2 := q.fr ev1 g2.fr hw
      have hB : C.hd α2 ow a := .inr (.inr ⟨i, hw⟩)
      obtain ⟨o, h1, h2⟩ := put_ow hB q2 r2 (r1.go g2) hc hl
      exact ⟨a, _, rfl, h1.x, k.nx α2 ow σ _ _ S2 p2 (ev2.write hw (nw i a hw) h2) nw ((g1.trans g2).aft.trans (aft_write hw))⟩
  · exact p1.elim
end
/-! ### comprehensions -/
def dcD (f : TgM) (mt : MT) (mk mv : ME) (ρ : Env) : List D → List D → List D → Sto → (D → Sto → Prop) → Prop
  | [], ks, vs, S, P => P (.dic ks vs) S
  | d :: ds, ks, vs, S, P => f d ρ fun ρ2 => mt ρ2 S (fun b S1 => if b = true then mk ρ2 S1 (fun k S2 => mv ρ2 S2 (fun v S3 => dcov ks k = true ∧ dcD f mt mk mv ρ ds (dput ks vs k v).1 (dput ks vs k v).2 S3 P) noX) noX else dcD f mt mk mv ρ ds ks vs S1 P) noX
def mDc (mi : MI) (f : TgM) (mt : MT) (mk mv : ME) (vs : List Nat) : ME := fun ρ S P X => (∀ j ∈ vs, isOw ρ[j]? = false) ∧ mi ρ S (fun ds S1 => ds.length ≤ sizeLine ∧ dcD f mt mk mv (wipeD ρ vs) ds [] [] S1 P) X
section
variable {Z : ZP} {K : PySem.W.Frag} {mg : Str → Option Value} {E E' : XK} {wi : TI} {mi : MI} {g : TG} {f : TgM} {us vs : List Nat} {tt : TT} {mt : MT} {tk tv te : TE} {mk mv me : ME}
/-- a new dict as a datum: it is locked -/
def mLock (m : ME) : ME := fun ρ S P X => m ρ S (fun d S1 => asDic (fun _ _ => P d S1) d) X
theorem OwB.lock {β : BG} {α : List Addr} {H : Hp} {B B' : Addr → Prop} {a : Addr} {ks ds : List D} (hB : ∀ b, B b → B' b) (hp : B' a) (na : ¬ B a) (h : OwB Z K mg β α B' H a (.dic ks ds)) :
    ∃ u, H a = some u ∧ Mut (some u) ∧ ∀ od, Same (hid B' H) (hid B (upd H a (.frz od u))) ∧ Rp Z K mg β α (hid B (upd H a (.frz od u))) (.ref a) (.dic ks ds) := by
  have sm : ∀ o : HO, Same (hid B' H) (hid B (upd H a o)) := fun o b o' q => by
    obtain ⟨q1, q2⟩ := hid_some q
    exact hid_get (fun z => q1 (hB b z)) (by rw [upd_ne (fun z => q1 (by rw [z]; exact hp))]; exact q2) (hid_nt q)
  cases h with
  | dK h1 h2 hl h3 => exact ⟨_, h1, True.intro, fun od => ⟨sm _, .dK ⟨od, hid_get na upd_same⟩ h2 hl (RpAll.same (sm _) h3)⟩⟩
  | dN h1 h2 h3 h4 h5 => exact ⟨_, h1, True.intro, fun od => ⟨sm _, .dN ⟨od, hid_get na upd_same⟩ h2 (RpAll.same (sm _) h3) h4 (RpAll.same (sm _) h5)⟩⟩
/-- an own dict is no longer written: it is locked -/
def kFrzD (i : Nat) (m : MS) : MS := fun ρ S e => match ρ[i]? with
  | some (.ow (.dic ks ds)) => m (ρ.set i (.va (.dic ks ds))) S e
  | _ => False
theorem ds_frzD {F : Bool} {t : TS} {m : MS} (i : Nat) (h : DS Z K mg E F t m) : DS Z K mg E F (tFrz i t) (kFrzD i m) := fun C α ow σ ρ H S e Dn ev nw hm k => by
  unfold kFrzD at hm
  split at hm
  · rename_i ks ds hd
    have q := ev.sl i
    rw [hd] at q
    generalize hw : ow i = w at q
    generalize hs : σ[i]? = s at q
    cases q with
    | @ow a _ q =>
      have hil : i < ρ.length := (List.getElem?_eq_some_iff.mp hd).1
      have hB : ∀ b, C.hd α (owDrop ow i) b → C.hd α ow b := fun b z => OwLe.hd owDrop_le b z
      have na : ¬ C.hd α (owDrop ow i) a := by
        rintro (z | z | ⟨j, z⟩)
        · exact ev.nA i a hw z
        · exact ev.st.no i a hw z
        · have := ev.inj j i a (owDrop_le _ _ z) hw
          rw [this] at z
          unfold owDrop at z
          rw [if_pos rfl] at z
          cases z
      obtain ⟨u, hu, mu, hr⟩ := OwB.lock hB (.inr (.inr ⟨i, hw⟩)) na q
      refine ⟨a, u, hs, hu, mu, fun od => ?_⟩
      obtain ⟨sm, rp⟩ := hr od
      have hne : ∀ j b, j ≠ i → ow j = some b → b ≠ a := fun j b hj hb z => hj (ev.inj j i a (by rw [hb, z]) hw)
      refine h C α (owDrop ow i) σ (ρ.set i (.va (.dic ks ds))) _ S e Dn ⟨fun j => ?_, fun j k a h1 h2 => ev.inj j k a (owDrop_le _ _ h1) (owDrop_le _ _ h2), fun j a h => ev.nA j a (owDrop_le _ _ h), ev.fr.mut (nw i a hw) (ev.owTabs hw), ⟨ev.st.len, ev.st.nd, ev.st.nA, ev.st.nL, fun j b q => ev.st.no j b (owDrop_le _ _ q), fun j b o h1 h2 => (ev.st.ob j b o h1 h2).mono (List.prefix_refl _) sm fun o q _ => ?_⟩⟩ (fun j b q => nw j b (owDrop_le _ _ q)) hm (k.later ⟨List.prefix_refl _, sm⟩)
      · by_cases hj : j = i
        · subst hj
          rw [List.getElem?_set_self hil, hs, show owDrop ow j j = none by unfold owDrop; rw [if_pos rfl]]
          exact .va rp
        · have q2 := ev.sl j
          rw [List.getElem?_set_ne (Ne.symm hj), show owDrop ow i j = ow j by unfold owDrop; rw [if_neg hj]]
          generalize hwj : ow j = w at q2 ⊢
          generalize σ[j]? = s at q2 ⊢
          generalize ρ[j]? = r at q2 ⊢
          cases q2 with
          | out => exact .out
          | un => exact .un
          | va r => exact .va (Rp.same sm r)
          | @ow b _ r => exact .ow (OwB.mono (List.prefix_refl _) sm (fun w q _ => by rw [upd_ne (hne j b hj hwj)]; exact q) r)
      · rw [upd_ne (fun z => ev.st.no i a hw (by rw [← z]; exact List.mem_of_getElem? h1))]
        exact q
  · exact hm.elim
end
/-! ### walked -/
section
variable {Z : ZP} {K : PySem.W.Frag} {mg : Str → Option Value} {E : XK} {te : TE} {me : ME}
def mIKX (ma : ME) : MI := fun ρ S P X => ma ρ S (fun d S1 => asDic (fun ks _ => P ks S1) d) X
def mIVX (ma : ME) : MI := fun ρ S P X => ma ρ S (fun d S1 => asDic (fun _ ds => P ds S1) d) X
def dpairs (ks ds : List D) : List D := (ks.zip ds).map fun p => .pr [p.1, p.2]
def mIIX (ma : ME) : MI := fun ρ S P X => ma ρ S (fun d S1 => asDic (fun ks ds => P (dpairs ks ds) S1) d) X
end
end Nc

namespace Nc
open PySem PySem.Spec PyProof.Rows L2
/-! ## further: list(range(..)), a list times an int -/
def rgD (a b : Int) : List D := (List.range (b - a).toNat).map fun i => .int (a + (i : Nat))
section
variable {Z : ZP} {K : PySem.W.Frag} {mg : Str → Option Value} {E : XK} {ta tb : TE} {ma mb : ME}
theorem rpAll_rg {β : BG} {α : List Addr} {H : Hp} (a b : Int) : RpAll Z K mg β α H (rgV a b) (rgD a b) := by
  unfold rgV rgD
  induction List.range (b - a).toNat with
  | nil => exact .nil
  | cons x r ih => exact .cons (.int _) ih
def mLstR1 (ma : ME) : ME := fun ρ S P X => ma ρ S (fun d S1 => match S1.rs d with
  | .int n => 0 ≤ n ∧ n ≤ 16777216 ∧ P (.lst (rgD 0 n)) S1
  | _ => False) X
theorem de_lstR1 (ha : DQ Z K mg E ta ma) : DE Z K mg E (tLstRg (tRg1 ta)) (mLstR1 ma) := fun C α ow σ ρ H S P X Q e hm hx k =>
  ha C α ow σ ρ H S _ X _ e hm hx fun d v α1 H1 S1 hm1 f1 s1 => by
    have s1 := s1.rs f1.st
    have e1 := e.step f1
    split at hm1
    · rename_i n q
      rw [q] at s1
      obtain ⟨h0, h1, pd⟩ := hm1
      refine ⟨n, s1.intI, RgOk.of_le (Int.le_refl _) h1 (by decide) h0, fun p hp => ?_⟩
      exact k _ _ _ _ _ pd (f1.trans (e1.nw hp)) (rv_lst e1 hp (by rw [rgV_length, sizeLine_eq]; omega) (rpAll_rg 0 n))
    · exact hm1.elim
/-- a list times an int -/
def fRep : D → D → (D → Prop) → Prop
  | .lst ds, .int k, P => -(2 ^ 63) ≤ k ∧ k < 2 ^ 63 ∧ ds.length * k.toNat ≤ sizeLine ∧ P (.lst (List.replicate k.toNat ds).flatten)
  | _, _, _ => False
/-- t.index(i), an int that stands there -/
def mTIdx (ma mb : ME) : ME := fun ρ S P X => ma ρ S (fun d S1 => asT (fun ds => ∃ ns : List Int, ds = ns.map D.int ∧ mb ρ S1 (fun y S2 => ∃ k : Int, S2.rs y = .int k ∧ k ∈ ns ∧ P (.int (ns.idxOf k : Nat)) S2) X) d) X
end
end Nc

namespace Nc
open PySem PySem.Spec PyProof.Rows L2
/-! ## comprehensions of any kind, any number of fors, on data -/
def hdp {Z : ZP} {K : PySem.W.Frag} {mg : Str → Option Value} {E : XK} (C : Cy Z K mg E) (p : Addr) (α : List Addr) (ow : OwS) : Addr → Prop := fun a => C.hd α ow a ∨ a = p
def mkC {Z : ZP} {K : PySem.W.Frag} {mg : Str → Option Value} {E : XK} (C : Cy Z K mg E) (E' : XK) (p : Addr) (α : List Addr) (H : Hp) (bg : BgOk C.β H) (hA : ∀ a, C.A a → H a ≠ none) (hp : H p ≠ none) (h0 : ∀ a ∈ α, H a ≠ none) (hc : ∀ a, (C.A a ∨ a = p) → ∃ o, H a = some o ∧ Nco o) : Cy Z K mg E' :=
  ⟨C.β, fun a => C.A a ∨ a = p, H, α, bg, fun b l ns q => .inl (C.hb b l ns q), fun a z => z.elim (hA a) fun z => by rw [z]; exact hp, h0, C.ht, hc⟩
/-- what may change but for p -/
structure FrP (β : BG) (p : Addr) (α : List Addr) (H : Hp) (α' : List Addr) (H' : Hp) : Prop where
  pre : α <+: α'
  keep : ∀ a o, a ≠ p → NoBg β a → a ∉ α → H a = some o → Ntb o → H' a = some o
  stay : ∀ a, H a ≠ none → H' a ≠ none
  new : ∀ a ∈ α', a ∈ α ∨ H a = none
section
variable {Z : ZP} {K : PySem.W.Frag} {mg : Str → Option Value} {E E' : XK} {C : Cy Z K mg E} {p : Addr} {α α' α1 : List Addr} {ow : OwS} {σ σ' : L2.St} {ρ ρ' : Env} {H H' H1 : Hp} {S S' : Sto} {β : BG}
theorem FrP.refl : FrP β p α H α H := ⟨List.prefix_refl _, fun _ _ _ _ _ h _ => h, fun _ h => h, fun _ h => .inl h⟩
theorem Fr.toP (f : Fr β α H α' H') : FrP β p α H α' H' := ⟨f.pre, fun a o _ => f.keep a o, f.stay, f.new⟩
theorem FrP.trans (f : FrP β p α H α1 H1) (g : FrP β p α1 H1 α' H') : FrP β p α H α' H' := by
  refine ⟨f.pre.trans g.pre, fun a o np n1 n2 h nt => ?_, fun a h => g.stay a (f.stay a h), fun a m => ?_⟩
  · refine g.keep a o np n1 (fun z => ?_) (f.keep a o np n1 n2 h nt) nt
    rcases f.new a z with z | z
    · exact n2 z
    · rw [h] at z; cases z
  · rcases g.new a m with m | m
    · exact f.new a m
    · by_cases q : H a = none
      · exact .inr q
      · exact absurd m (f.stay a q)
theorem FrP.wr {o : HO} : FrP β p α H α (upd H p o) := ⟨List.prefix_refl _, fun a u np _ _ h _ => by rw [upd_ne np]; exact h, fun a h => upd_stay h, fun _ h => .inl h⟩
theorem FrP.sm (f : FrP C.β p α H α' H') : Same (hid (hdp C p α ow) H) (hid (hdp C p α' ow) H') := fun a o e => by
  obtain ⟨h1, h2⟩ := hid_some e
  refine hid_get ?_ (f.keep a o (fun z => h1 (.inr z)) (C.noBg fun z => h1 (.inl (.inl z))) (fun z => h1 (.inl (.inr (.inl z)))) h2 (hid_nt e)) (hid_nt e)
  rintro ((z | z | z) | z)
  · exact h1 (.inl (.inl z))
  · rcases f.new a z with z | z
    · exact h1 (.inl (.inr (.inl z)))
    · rw [h2] at z; cases z
  · exact h1 (.inl (.inr (.inr z)))
  · exact h1 (.inr z)
/-- a run within a comprehension that fills p; αb, Hb: ahead of p -/
def BEv (E' : XK) (C : Cy Z K mg E) (p : Addr) (αb : List Addr) (Hb : Hp) (α : List Addr) (ow : OwS) (σ : L2.St) (ρ : Env) (H : Hp) (S : Sto) : Prop :=
  Fr C.β αb Hb α H ∧ Hb p = none ∧ ∃ C1 : Cy Z K mg E', C1.β = C.β ∧ C1.A = (fun a => C.A a ∨ a = p) ∧ Ev C1 α ow σ ρ H S
theorem mk_hd {C1 : Cy Z K mg E'} (hA : C1.A = fun a => C.A a ∨ a = p) : C1.hd α ow = hdp C p α ow := inLc_hd (C := C) hA
variable {αb : List Addr} {Hb : Hp}
/-- the slots and the store, seen over another heap -/
theorem ev_mk {C0 : Cy Z K mg E} {C1 : Cy Z K mg E'} (hβ : C1.β = C0.β) (e : Ev C0 α ow σ ρ H S) (pre : α <+: α') (sm : Same (hid (C0.hd α ow) H) (hid (C1.hd α' ow) H')) (hown : ∀ j a o, ow j = some a → H a = some o → Ntb o → H' a = some o) (nA : ∀ j a, ow j = some a → ¬ C1.A a) (fr : Fr C1.β C1.α0 C1.H0 α' H') (st : StOk C1 α' ow H' S') : Ev C1 α' ow σ ρ H' S' := by
  refine ⟨fun j => ?_, e.inj, nA, fr, st⟩
  have q := e.sl j
  generalize hw : ow j = w at q ⊢
  generalize σ[j]? = s at q ⊢
  generalize ρ[j]? = r at q ⊢
  cases q with
  | out => exact .out
  | un => exact .un
  | va r => exact .va (by unfold Rv; rw [hβ]; exact Rp.mono pre sm r)
  | ow r => exact .ow (by unfold Ow; rw [hβ]; exact OwB.mono pre sm (fun o ho nt => hown j _ o hw ho nt) r)
/-- p is made -/
theorem BEv.start (e : Ev C α ow σ ρ H S) (hp : H p = none) (o : HO) (ho : Nco o) : BEv E' C p α H α ow σ ρ (upd H p o) S := by
  have g := e.nw (o := o) hp
  have hst : upd H p o p ≠ none := by rw [upd_same]; simp
  have np : p ∉ α := e.npα hp
  have hcc : ∀ a, (C.A a ∨ a = p) → ∃ o', upd H p o a = some o' ∧ Nco o' := fun a z => z.elim (fun z => by
    obtain ⟨o', h1, h2⟩ := e.nc (.inl z)
    exact ⟨o', by rw [upd_ne (fun y => by rw [y, hp] at h1; cases h1)]; exact h1, h2⟩) fun z => ⟨o, by rw [z, upd_same], ho⟩
  refine ⟨g.fr, hp, mkC C E' p α (upd H p o) g.fr.bag (fun a z => g.fr.stay a (e.stands (.inl z))) hst (fun a m => g.fr.stay a (e.stands (.inr (.inl m)))) hcc, rfl, rfl, ?_⟩
  have hA1 : (mkC C E' p α (upd H p o) g.fr.bag (fun a z => g.fr.stay a (e.stands (.inl z))) hst (fun a m => g.fr.stay a (e.stands (.inr (.inl m)))) hcc).hd α ow = hdp C p α ow := mk_hd rfl
  have sm : Same (hid (C.hd α ow) H) (hid (hdp C p α ow) (upd H p o)) := enterS hp g.fr
  refine ev_mk (C0 := C) rfl e (List.prefix_refl _) (by rw [hA1]; exact sm) (fun j a u hw ho _ => by rw [upd_ne (fun z => by rw [z, hp] at ho; cases ho)]; exact ho) (fun j a hw z => z.elim (e.nA j a hw) fun z => e.stands (.inr (.inr ⟨j, hw⟩)) (by rw [z]; exact hp)) (Fr.refl g.fr.bag) ?_
  refine ⟨e.st.len, e.st.nd, fun a m z => z.elim (e.st.nA a m) fun z => np (by rw [← z]; exact m), e.st.nL, e.st.no, fun i a u h1 h2 => ?_⟩
  rw [hA1]
  exact (e.st.ob i a u h1 h2).mono (List.prefix_refl _) sm fun o' q _ => by rw [upd_ne (fun z => by rw [z, hp] at q; cases q)]; exact q
theorem BEv.go {C1 : Cy Z K mg E'} (hβ : C1.β = C.β) (hA : C1.A = fun a => C.A a ∨ a = p) (fr : Fr C.β αb Hb α H) (hp : Hb p = none) (e : Ev C1 α ow σ ρ H S) (g : Go C1 ow α H α' H' S') : BEv E' C p αb Hb α' ow σ ρ H' S' :=
  ⟨fr.trans (by rw [← hβ]; exact g.fr), hp, C1, hβ, hA, e.step g⟩
/-- p is written -/
theorem BEv.wr (b : BEv E' C p αb Hb α ow σ ρ H S) (o : HO) (ho : Nco o) (tb : LamX.Tabs C.β.tb H → LamX.Tabs C.β.tb (upd H p o)) : BEv E' C p αb Hb α ow σ ρ (upd H p o) S := by
  obtain ⟨fr, hp, C1, hβ, hA, e⟩ := b
  have hst : upd H p o p ≠ none := by rw [upd_same]; simp
  have fr2 := fr.mut (o := o) hp (tb fr.bag.tab)
  have st1 : ∀ {a : Addr}, C1.hd α ow a → upd H p o a ≠ none := fun z => upd_stay (e.stands z)
  have hcc : ∀ a, (C.A a ∨ a = p) → ∃ o', upd H p o a = some o' ∧ Nco o' := fun a z => by
    by_cases hap : a = p
    · exact ⟨o, by rw [hap, upd_same], ho⟩
    · obtain ⟨o', h1, h2⟩ := e.nc (a := a) (.inl (by rw [hA]; exact z))
      exact ⟨o', by rw [upd_ne hap]; exact h1, h2⟩
  refine ⟨fr2, hp, mkC C E' p α (upd H p o) fr2.bag (fun a z => st1 (.inl (by rw [hA]; exact .inl z))) hst (fun a m => st1 (.inr (.inl m))) hcc, rfl, rfl, ?_⟩
  have hA1 : (mkC C E' p α (upd H p o) fr2.bag (fun a z => st1 (.inl (by rw [hA]; exact .inl z))) hst (fun a m => st1 (.inr (.inl m))) hcc).hd α ow = hdp C p α ow := mk_hd rfl
  have hA0 : C1.hd α ow = hdp C p α ow := mk_hd hA
  have sm : Same (hid (C1.hd α ow) H) (hid (hdp C p α ow) (upd H p o)) := fun a u q => by
    rw [hA0] at q
    obtain ⟨q1, q2⟩ := hid_some q
    exact hid_get q1 (by rw [upd_ne fun z => q1 (.inr z)]; exact q2) (hid_nt q)
  have npO : ∀ j a, ow j = some a → a ≠ p := fun j a hw z => e.nA j a hw (by rw [hA]; exact .inr z)
  have npα : ∀ a ∈ α, a ≠ p := fun a m z => e.st.nA a m (by rw [hA]; exact .inr z)
  refine ev_mk (by rw [hβ]; rfl) e (List.prefix_refl _) (by rw [hA1]; exact sm) (fun j a u hw ho _ => by rw [upd_ne (npO j a hw)]; exact ho) (fun j a hw z => e.nA j a hw (by rw [hA]; exact z)) (Fr.refl fr2.bag) ?_
  refine ⟨e.st.len, e.st.nd, fun a m z => e.st.nA a m (by rw [hA]; exact z), fun a m b l ns q => e.st.nL a m b l ns (by rw [hβ]; exact q), e.st.no, fun i a u h1 h2 => ?_⟩
  rw [hA1]
  have := e.st.ob i a u h1 h2
  rw [hβ] at this
  exact this.mono (List.prefix_refl _) sm fun o' q _ => by rw [upd_ne (npα a (List.mem_of_getElem? h1))]; exact q
/-- back to the variables of before -/
theorem BEv.back (b : BEv E' C p αb Hb α ow σ ρ H S) (b1 : BEv E' C p αb Hb α' ow σ' ρ' H' S') (f : FrP C.β p α H α' H') : BEv E' C p αb Hb α' ow σ ρ H' S' := by
  obtain ⟨fr, hp, C1, hβ, hA, e⟩ := b
  obtain ⟨fr1, _, C2, hβ2, hA2, e2⟩ := b1
  refine ⟨fr1, hp, C2, hβ2, hA2, ?_⟩
  refine ev_mk (by rw [hβ, hβ2]) e f.pre (by rw [mk_hd hA, mk_hd hA2]; exact f.sm) (fun j a o hw ho nt => ?_) e2.nA e2.fr e2.st
  have nA := e.nA j a hw
  rw [hA] at nA
  exact f.keep a o (fun z => nA (.inr z)) (C.noBg fun z => nA (.inl z)) (e.st.no j a hw) ho nt
theorem BEv.wipe (b : BEv E' C p αb Hb α ow σ ρ H S) {vs : List Nat} (hv : ∀ j ∈ vs, ow j = none) : BEv E' C p αb Hb α ow (L2.wipe σ vs) (wipeD ρ vs) H S := by
  obtain ⟨fr, hp, C1, hβ, hA, e⟩ := b
  have wp : owWipe ow vs = ow := by
    funext j
    unfold owWipe
    split
    · exact (hv j ‹_›).symm
    · rfl
  have := e.wipe vs
  rw [wp] at this
  exact ⟨fr, hp, C1, hβ, hA, this⟩
theorem BEv.np (b : BEv E' C p αb Hb α ow σ ρ H S) : p ∉ α := by
  obtain ⟨_, _, C1, _, hA, e⟩ := b
  exact fun z => e.st.nA p z (by rw [hA]; exact .inr rfl)
theorem BEv.nb (b : BEv E' C p αb Hb α ow σ ρ H S) : NoBg C.β p := fun b' l ns q z => by
  obtain ⟨_, w⟩ := (b.1.b0.bag b' l ns q).here
  rw [← z, b.2.1] at w; cases w
end
/-! ### what is filled -/
/-- how p stands for what is taken in -/
structure AccK (Z : ZP) (K : PySem.W.Frag) (mg : Str → Option Value) (τ : Type) where
  is : BG → List Addr → (Addr → Prop) → Hp → Addr → τ → Prop
  mono : ∀ {β : BG} {α α' : List Addr} {B B' : Addr → Prop} {H H' : Hp} {p : Addr} {t : τ}, α <+: α' → Same (hid B H) (hid B' H') → (∀ o, H p = some o → Ntb o → H' p = some o) → is β α B H p t → is β α' B' H' p t
abbrev EmD (τ : Type) := Env → Sto → τ → (τ → Sto → Prop) → Prop
def EmR {Z : ZP} {K : PySem.W.Frag} {mg : Str → Option Value} {τ : Type} (E' : XK) (AK : AccK Z K mg τ) (em : Addr → CBT) (m : EmD τ) : Prop := ∀ {E : XK} (C : Cy Z K mg E) (p : Addr) (αb : List Addr) (Hb : Hp) (α : List Addr) (ow : OwS) (σ : L2.St) (ρ : Env) (H : Hp) (S : Sto) (t : τ) (P : τ → Sto → Prop) (N : Hp → Prop),
  BEv E' C p αb Hb α ow σ ρ H S → AK.is C.β α (hdp C p α ow) H p t → m ρ S t P → (∀ t' α' H' S', P t' S' → BEv E' C p αb Hb α' ow σ ρ H' S' → FrP C.β p α H α' H' → AK.is C.β α' (hdp C p α' ow) H' p t' → N H') → em p σ H N
structure CD where
  mi : MI
  f : TgM
  mt : MT
  vs : List Nat
def loD {τ : Type} (f : TgM) (mt : MT) (nx : EmD τ) (ρ : Env) : List D → τ → Sto → (τ → Sto → Prop) → Prop
  | [], t, S, P => P t S
  | d :: ds, t, S, P => f d ρ fun ρ2 => mt ρ2 S (fun b S1 => if b = true then nx ρ2 S1 t fun t' S2 => loD f mt nx ρ ds t' S2 P else loD f mt nx ρ ds t S1 P) noX
def stD {τ : Type} (em : EmD τ) : List CD → EmD τ
  | [] => em
  | c :: r => fun ρ S t P => c.mi ρ S (fun ds S1 => loD c.f c.mt (stD em r) (wipeD ρ c.vs) ds t S1 P) noX
inductive ClR (Z : ZP) (K : PySem.W.Frag) (mg : Str → Option Value) (E' : XK) (top : List Nat) : List ClX1 → List CD → Prop
  | nil : ClR Z K mg E' top [] []
  | cons {wi : TI} {mi : MI} {g : TG} {f : TgM} {us vs : List Nat} {tt : TT} {mt : MT} {r : List ClX1} {rd : List CD} : DI Z K mg E' wi mi → DG Z K mg E' g f us → (∀ i ∈ us, i ∈ vs) → DT Z K mg E' tt mt → (∀ i ∈ vs, i ∈ top) → ClR Z K mg E' top r rd → ClR Z K mg E' top (⟨wi, g, tt, vs⟩ :: r) (⟨mi, f, mt, vs⟩ :: rd)
section
variable {Z : ZP} {K : PySem.W.Frag} {mg : Str → Option Value} {E E' : XK} {C : Cy Z K mg E} {p : Addr} {α α0 αb : List Addr} {ow : OwS} {σ : L2.St} {ρ : Env} {H H0 Hb : Hp} {S : Sto} {τ : Type} {AK : AccK Z K mg τ} {g : TG} {f : TgM} {tt : TT} {mt : MT} {us vs top : List Nat}
theorem AccK.step {α' : List Addr} {H' : Hp} {t : τ} (b : BEv E' C p αb Hb α ow σ ρ H S) (fr : Fr C.β α H α' H') (h : AK.is C.β α (hdp C p α ow) H p t) : AK.is C.β α' (hdp C p α' ow) H' p t :=
  AK.mono fr.pre fr.toP.sm (fun o ho nt => fr.keep p o b.nb b.np ho nt) h
/-- a loop, its next stage within -/
theorem lo_run {nx : CBT} {nxd : EmD τ} (hg : DG Z K mg E' g f us) (hu : ∀ i ∈ us, i ∈ vs) (ht : DT Z K mg E' tt mt)
    (hnx : ∀ (α : List Addr) (σ : L2.St) (ρ : Env) (H : Hp) (S : Sto) (t : τ) (P : τ → Sto → Prop) (N : Hp → Prop), BEv E' C p αb Hb α ow σ ρ H S → AK.is C.β α (hdp C p α ow) H p t → nxd ρ S t P → (∀ t' α' H' S', P t' S' → BEv E' C p αb Hb α' ow σ ρ H' S' → FrP C.β p α H α' H' → AK.is C.β α' (hdp C p α' ow) H' p t' → N H') → nx σ H N)
    {Ah : Addr → Prop} {J : It} {ds : List D} (it : ItD Z K mg C.β α0 Ah J ds H0) (hv : ∀ j ∈ vs, ow j = none) (pre : α0 <+: α) (sm : Same (hid Ah H0) (hid (hdp C p α ow) H)) {t : τ} {P : τ → Sto → Prop} {N : Hp → Prop}
    (b : BEv E' C p αb Hb α ow σ ρ H S) (ac : AK.is C.β α (hdp C p α ow) H p t) (hm : loD f mt nxd (wipeD ρ vs) ds t S P)
    (k : ∀ t' α' H' S', P t' S' → BEv E' C p αb Hb α' ow σ ρ H' S' → FrP C.β p α H α' H' → AK.is C.β α' (hdp C p α' ow) H' p t' → N H') : genLoop J g tt vs nx σ H N := by
  obtain ⟨n, G, Y, wk, hnl, hG, hY⟩ := it
  have bw := b.wipe hv
  refine ⟨fun i m H' => m = n - i ∧ i ≤ n ∧ ∃ t' α' S', BEv E' C p αb Hb α' ow (L2.wipe σ vs) (wipeD ρ vs) H' S' ∧ FrP C.β p α H α' H' ∧ AK.is C.β α' (hdp C p α' ow) H' p t' ∧ loD f mt nxd (wipeD ρ vs) (ds.drop i) t' S' P, ⟨n, by simp, Nat.zero_le _, t, α, S, bw, FrP.refl, ac, hm⟩, ?_⟩
  rintro i m H1 ⟨rfl, hi, t1, α1, S1, b1, f1, ac1, hl⟩
  have sm1 : Same (hid Ah H0) (hid (hdp C p α1 ow) H1) := sm.trans f1.sm
  by_cases hlt : i < n
  · refine .inr ⟨wk.goes i H1 hlt (hG _ _ sm1), fun H4 => ∃ t' α' S', BEv E' C p αb Hb α' ow (L2.wipe σ vs) (wipeD ρ vs) H4 S' ∧ FrP C.β p α H α' H4 ∧ AK.is C.β α' (hdp C p α' ow) H4 p t' ∧ loD f mt nxd (wipeD ρ vs) (ds.drop (i + 1)) t' S' P, fun H4 p4 => ⟨n - (i + 1), by omega, rfl, hlt, p4⟩, fun x H2 y => ?_⟩
    obtain ⟨fr, hp, C1, hβ, hA, e⟩ := id b1
    have yy := wk.yields i H1 x H2 hlt (hG _ _ sm1) y
    have hdi : i < ds.length := by omega
    obtain ⟨s2, rx⟩ := hY i x (C1.hd α1 ow) H1 H2 (by rw [mk_hd hA]; exact sm1) (fun a z => e.stands z) hlt yy
    have rx := Rp.mono (pre.trans f1.pre) (Same.refl _) (rx _ (List.getElem?_eq_getElem hdi))
    rw [List.drop_eq_getElem_cons hdi] at hl
    have g2 := e.sm s2
    have e2 := e.step g2
    refine hg C1 α1 ow _ _ H2 S1 x _ _ _ e2 (by unfold Rv; rw [hβ]; exact rx) hl fun ow2 σ2 ρ2 hm2 ev2 how hlen hsl => ⟨wipe_eq hu hlen hsl, ?_⟩
    have how2 : ow2 = ow := by
      rw [how]
      funext j
      unfold owWipe
      split
      · exact (hv j (hu j ‹_›)).symm
      · rfl
    subst how2
    refine ht C1 α1 ow2 σ2 ρ2 H2 S1 _ noX _ ev2 hm2 (fun _ _ _ _ _ _ z => z.elim) fun c α3 H3 S3 hm3 g3 => ?_
    have g23 := g2.trans g3
    have fr3 : Fr C.β α1 H1 α3 H3 := by rw [← hβ]; exact g23.fr
    have ac3 := AccK.step b1 fr3 ac1
    have b3 : BEv E' C p αb Hb α3 ow2 σ2 ρ2 H3 S3 := BEv.go hβ hA (fr.trans (by rw [← hβ]; exact g2.fr)) hp ev2 g3
    have b3w : BEv E' C p αb Hb α3 ow2 (L2.wipe σ vs) (wipeD ρ vs) H3 S3 := BEv.go hβ hA fr hp e g23
    cases c with
    | false =>
      rw [if_neg Bool.false_ne_true] at hm3 ⊢
      exact ⟨t1, α3, S3, b3w, f1.trans fr3.toP, ac3, hm3⟩
    | true =>
      rw [if_pos rfl] at hm3 ⊢
      exact hnx α3 σ2 ρ2 H3 S3 t1 _ _ b3 ac3 hm3 fun t4 α4 H4 S4 hm4 b4 f4 ac4 => ⟨t4, α4, S4, b3w.back b4 f4, (f1.trans fr3.toP).trans f4, ac4, hm4⟩
  · have hin : i = n := by omega
    subst hin
    refine .inl ⟨wk.stops H1 (hG _ _ sm1), ?_⟩
    rw [List.drop_of_length_le (by omega)] at hl
    exact k _ _ _ _ hl (b.back b1 f1) f1 ac1
theorem st_run {em : Addr → CBT} {m : EmD τ} (he : EmR E' AK em m) (hv : ∀ j ∈ top, ow j = none) {r : List ClX1} {rd : List CD} (h : ClR Z K mg E' top r rd) : ∀ (α : List Addr) (σ : L2.St) (ρ : Env) (H : Hp) (S : Sto) (t : τ) (P : τ → Sto → Prop) (N : Hp → Prop), BEv E' C p αb Hb α ow σ ρ H S → AK.is C.β α (hdp C p α ow) H p t → stD m rd ρ S t P → (∀ t' α' H' S', P t' S' → BEv E' C p αb Hb α' ow σ ρ H' S' → FrP C.β p α H α' H' → AK.is C.β α' (hdp C p α' ow) H' p t' → N H') → tStage r (em p) σ H N := by
  induction h with
  | nil => exact fun α σ ρ H S t P N b ac hm k => he C p αb Hb α ow σ ρ H S t P N b ac hm k
  | cons hi hg hu ht hs _ ih =>
    intro α σ ρ H S t P N b ac hm k
    obtain ⟨fr, hp, C1, hβ, hA, e⟩ := id b
    refine hi C1 α ow σ ρ H S _ noX _ e hm (fun _ _ _ _ _ _ z => z.elim) fun ds J α1 H1 S1 hm1 g1 it => ?_
    have fr1 : Fr C.β α H α1 H1 := by rw [← hβ]; exact g1.fr
    have b1 : BEv E' C p αb Hb α1 ow σ ρ H1 S1 := BEv.go hβ hA fr hp e g1
    rw [hβ, mk_hd hA] at it
    exact lo_run hg hu ht ih it (fun j hj => hv j (hs j hj)) (List.prefix_refl _) (Same.refl _) b1 (AccK.step b fr1 ac) hm1 fun t' α' H' S' pt b' f' a' => k t' α' H' S' pt b' (fr1.toP.trans f') a'
/-- the whole -/
def mGen {τ : Type} (mi : MI) (f : TgM) (mt : MT) (vs : List Nat) (r : List CD) (m : EmD τ) (t0 : τ) (fin : τ → D) : ME := fun ρ S P X => (∀ j ∈ vs, isOw ρ[j]? = false) ∧ mi ρ S (fun ds S1 => loD f mt (stD m r) (wipeD ρ vs) ds t0 S1 fun t S2 => P (fin t) S2) X
theorem gn_run {wi : TI} {mi : MI} {ho : Addr → HO} {em : Addr → CBT} {m : EmD τ} {t0 : τ} {fin : τ → D} {r : List ClX1} {rd : List CD} (hi : DI Z K mg E wi mi) (hg : DG Z K mg E' g f us) (hu : ∀ i ∈ us, i ∈ vs) (ht : DT Z K mg E' tt mt) (hr : ClR Z K mg E' vs r rd) (he : EmR E' AK em m)
    (h0 : ∀ (β : BG) (α : List Addr) (B : Addr → Prop) (H : Hp) (p : Addr), AK.is β α B (upd H p (ho p)) p t0) (hno : ∀ p, Nco (ho p)) (C : Cy Z K mg E) (α : List Addr) (ow : OwS) (σ : L2.St) (ρ : Env) (H : Hp) (S : Sto) (P : D → Sto → Prop) (X : Ex → Sto → Prop) (Q : VK)
    (e : Ev C α ow σ ρ H S) (hm : mGen mi f mt vs rd m t0 fin ρ S P X) (hx : XOk C X)
    (k : ∀ t p α' H' S', P (fin t) S' → Go C ow α H α' H' S' → H p = none → p ∉ α' → AK.is C.β α' (hdp C p α' ow) H' p t → (∀ (i : Nat) (a : Addr) (o : Ob), α'[i]? = some a → S'[i]? = some o → ObOk Z K mg C.β α' (hdp C p α' ow) H' a o) → Q (.ref p) H') : tGen ho wi g tt vs r em σ H Q := by
  obtain ⟨hn, hm⟩ := hm
  refine hi C α ow σ ρ H S _ X _ e hm hx fun ds J α1 H1 S1 hm1 f1 it p hp => ?_
  have e1 := e.step f1
  have hv : ∀ j ∈ vs, ow j = none := fun j hj => by
    have := congrFun (e1.noOw hn) j
    unfold owWipe at this
    rw [if_pos hj] at this
    exact this.symm
  have b0 : BEv E' C p α1 H1 α1 ow σ ρ (upd H1 p (ho p)) S1 := BEv.start e1 hp (ho p) (hno p)
  refine lo_run hg hu ht (st_run he hv hr) it hv (List.prefix_refl _) (enterS hp (e1.nw hp).fr) b0 (h0 _ _ _ _ _) hm1 fun t' α' H' S' pt b' f' a' => ?_
  obtain ⟨fr, _, C1, hβ, hA, e'⟩ := id b'
  have obs : ∀ (i : Nat) (a : Addr) (o : Ob), α'[i]? = some a → S'[i]? = some o → ObOk Z K mg C.β α' (hdp C p α' ow) H' a o := fun i a o h1 h2 => by
    have := e'.st.ob i a o h1 h2
    rw [hβ, mk_hd hA] at this
    exact this
  have st : StOk C α' ow H' S' := ⟨e'.st.len, e'.st.nd, fun a m z => e'.st.nA a m (by rw [hA]; exact .inl z), fun a m b l ns q => e'.st.nL a m b l ns (by rw [hβ]; exact q), e'.st.no, fun i a o h1 h2 => (obs i a o h1 h2).mono (List.prefix_refl _) (hid_mono fun a z => .inl z) fun _ q _ => q⟩
  exact k t' p α' H' S' pt (f1.trans ⟨fr, st⟩) (f1.fr.none_ahead hp) b'.np a' obs
end
end Nc

namespace Nc
open PySem PySem.Spec PyProof.Rows L2
/-! ## what comprehensions fill: lists, dicts, sets; sets read -/
section
variable {Z : ZP} {K : PySem.W.Frag} {mg : Str → Option Value} {E E' : XK}
/-- a set that is filled: its elements, in the order in which they came -/
inductive SetB (Z : ZP) (K : PySem.W.Frag) (mg : Str → Option Value) (β : BG) (α : List Addr) (B : Addr → Prop) (H : Hp) (a : Addr) : List D → Prop
  | nul : H a = some (SetEO Z.w a) → SetB Z K mg β α B H a []
  | iz {ns : List Int} : ns ≠ [] → H a = some (SetXO (intKind Z.p Z.w) a (foldK ns)) → SetB Z K mg β α B H a (ns.map .int)
  | tz {l : List (NK × Addr)} {ds : List D} {κs : List NK} : ds ≠ [] → H a = some (SetNO Z.w a l) → ds.map D.nk = κs.map some → l.map (·.1) = foldK κs → (∀ q ∈ l, q.1.depth ≤ 8 ∧ ∃ d ∈ ds, d.nk = some q.1 ∧ Rp Z K mg β α (hid B H) (.ref q.2) d) → SetB Z K mg β α B H a ds
theorem ntExt {f : Heap → Prop} : Ntb (.ext f) := by intro _ z; cases z
theorem SetB.mono {β : BG} {α α' : List Addr} {B B' : Addr → Prop} {H H' : Hp} {a : Addr} {t : List D} (p : α <+: α') (s : Same (hid B H) (hid B' H')) (h : ∀ o, H a = some o → Ntb o → H' a = some o) (r : SetB Z K mg β α B H a t) : SetB Z K mg β α' B' H' a t := by
  cases r with
  | nul e => exact .nul (h _ e ntExt)
  | iz n e => exact .iz n (h _ e ntExt)
  | tz n e h1 h2 h3 => exact .tz n (h _ e ntExt) h1 h2 fun q hq => let ⟨h4, d, hd, h5, h6⟩ := h3 q hq; ⟨h4, d, hd, h5, h6.mono p s⟩
def acS : AccK Z K mg (List D) := ⟨fun β α B H p t => SetB Z K mg β α B H p t, fun pre sm k h => h.mono pre sm k⟩
/-- a set is no code object -/
theorem nc_set {f : Heap → Prop} (hf : ∀ h, f h → ∃ a o es ep t, h.get? a = some o ∧ o.data = .set es ep t) : ∀ c q, HO.ext f ≠ LamX.CodeO c q := fun c q z => by
  unfold LamX.CodeO at z
  have e := HO.ext.inj z
  let o : Obj := { cls := .none, data := .fields #[.none, .str q 0] }
  let h0 : Heap := { objs := Array.replicate (c + 1) o }
  have hc : h0.get? c = some o := by
    unfold Heap.get?
    rw [show h0.objs[c]? = some o by simp [h0]]
  have q1 : f h0 := by rw [e]; exact ⟨o, _, 0, hc, rfl, rfl⟩
  obtain ⟨d, o', es, ep, t, h1, h3⟩ := hf h0 q1
  have : o' = o := by
    unfold Heap.get? at h1
    by_cases hd : d < c + 1
    · rw [show h0.objs[d]? = some o by simp [h0, hd]] at h1
      exact (Option.some.inj h1).symm
    · rw [show h0.objs[d]? = none by simp [h0]; exact Nat.not_lt.mp hd] at h1
      cases h1
  rw [this] at h3
  cases h3
theorem nc_SetEO {w : World} {a : Addr} : ∀ c q, SetEO w a ≠ LamX.CodeO c q := nc_set fun h q => ⟨a, _, _, _, _, q, rfl⟩
theorem nc_SetXO {P : Program} {w : World} {κ : Type} [DecidableEq κ] {knd : KeyKind P w κ} {a : Addr} {l : List κ} : ∀ c q, SetXO knd a l ≠ LamX.CodeO c q := nc_set fun h q => let ⟨_, o, es, ep, t, _, ho, _, hd, _⟩ := q; ⟨a, o, es, ep, t, ho, hd⟩
theorem nc_SetNO {w : World} {a : Addr} {l : List (NK × Addr)} : ∀ c q, SetNO w a l ≠ LamX.CodeO c q := nc_set fun h q => let ⟨_, o, es, ep, t, R, _⟩ := q; ⟨a, o, es, ep, t, R.ob, R.dt⟩
theorem SetB.tabs {β : BG} {α : List Addr} {B : Addr → Prop} {H : Hp} {a : Addr} {t : List D} {T : List (Addr × Str)} {o : HO} (r : SetB Z K mg β α B H a t) (h : LamX.Tabs T H) : LamX.Tabs T (upd H a o) := by
  cases r with
  | nul e => exact tabs_wr h e ntExt nc_SetEO
  | iz _ e => exact tabs_wr h e ntExt nc_SetXO
  | tz _ e _ _ _ => exact tabs_wr h e ntExt nc_SetNO
/-! ### taken in -/
def setPut (t : List D) (y : D) (P : List D → Prop) : Prop :=
  (∃ n : Int, y = .int n ∧ ∃ ns : List Int, t = ns.map .int ∧ ns.length + 1 < scanBound ∧ P (t ++ [y])) ∨
    (∃ ds κ, y = .tup ds ∧ y.nk = some κ ∧ κ.depth ≤ 8 ∧ ∃ κs : List NK, t.map D.nk = κs.map some ∧ t.all D.tupK = true ∧ (foldK κs).length + 1 < 64 ∧ P (t ++ [y]))
def emdS (me : ME) : EmD (List D) := fun ρ S t P => me ρ S (fun y S1 => setPut t y fun t' => P t' S1) noX
theorem em_run {τ : Type} {AK : AccK Z K mg τ} {te : TE} {me : ME} (he : DE Z K mg E' te me) {E : XK} {C : Cy Z K mg E} {p : Addr} {αb α : List Addr} {Hb H : Hp} {ow : OwS} {σ : L2.St} {ρ : Env} {S : Sto} {t : τ} {P : D → Sto → Prop} {Q : VK} (b : BEv E' C p αb Hb α ow σ ρ H S) (ac : AK.is C.β α (hdp C p α ow) H p t) (hm : me ρ S P noX)
    (k : ∀ d v α1 H1 S1, P d S1 → BEv E' C p αb Hb α1 ow σ ρ H1 S1 → Fr C.β α H α1 H1 → AK.is C.β α1 (hdp C p α1 ow) H1 p t → Rp Z K mg C.β α1 (hid (hdp C p α1 ow) H1) v d → Q v H1) : te σ H Q := by
  obtain ⟨fr, hp, C1, hβ, hA, e⟩ := id b
  refine he C1 α ow σ ρ H S _ noX _ e hm (fun _ _ _ _ _ _ z => z.elim) fun d v α1 H1 S1 hm1 g1 r => ?_
  have fr1 : Fr C.β α H α1 H1 := by rw [← hβ]; exact g1.fr
  refine k d v α1 H1 S1 hm1 (BEv.go hβ hA fr hp e g1) fr1 (AccK.step b fr1 ac) ?_
  unfold Rv at r
  rw [hβ, mk_hd hA] at r
  exact r
theorem foldK_snoc {κ : Type} [DecidableEq κ] (xs : List κ) (x : κ) : foldK (xs ++ [x]) = insK (foldK xs) x := by
  unfold foldK
  rw [List.foldl_append]
  rfl
theorem foldK_len {κ : Type} [DecidableEq κ] : ∀ (xs acc : List κ), (xs.foldl insK acc).length ≤ acc.length + xs.length
  | [], acc => Nat.le_refl _
  | x :: xs, acc => by
    rw [List.foldl_cons]
    refine Nat.le_trans (foldK_len xs _) ?_
    have : (insK acc x).length ≤ acc.length + 1 := by
      unfold insK
      split
      · exact Nat.le_succ _
      · rw [List.length_append]; exact Nat.le_refl _
    rw [List.length_cons]
    omega
theorem insN_fst (l : List (NK × Addr)) (κ : NK) (b : Addr) : (insN l κ b).map (·.1) = insK (l.map (·.1)) κ := by
  unfold insN insK
  split
  · rfl
  · rw [List.map_append]; rfl
theorem map_int_inj : ∀ {a b : List Int}, a.map D.int = b.map D.int → a = b
  | [], [], _ => rfl
  | x :: a, y :: b, h => by
    simp only [List.map_cons, List.cons.injEq, D.int.injEq] at h
    rw [h.1, map_int_inj h.2]
  | [], _ :: _, h => by cases h
  | _ :: _, [], h => by cases h
theorem map_some_inj {τ : Type} : ∀ {a b : List τ}, a.map some = b.map some → a = b
  | [], [], _ => rfl
  | x :: a, y :: b, h => by
    simp only [List.map_cons, List.cons.injEq, Option.some.injEq] at h
    rw [h.1, map_some_inj h.2]
  | [], _ :: _, h => by cases h
  | _ :: _, [], h => by cases h
theorem SetB.intI {β : BG} {α : List Addr} {B : Addr → Prop} {H : Hp} {a : Addr} {t : List D} {ns : List Int} (r : SetB Z K mg β α B H a t) (e : t = ns.map .int) : IntSet Z.p Z.w H a (foldK ns) := by
  cases r with
  | nul h =>
    cases ns with
    | nil => exact .inr ⟨h, rfl⟩
    | cons _ _ => cases e
  | iz _ h => rw [map_int_inj e] at h; exact .inl h
  | @tz l ds κs n h h1 h2 h3 =>
    subst e
    cases ns with
    | nil => exact (n rfl).elim
    | cons n ns =>
      cases κs with
      | nil => cases h1
      | cons κ κs =>
        have hm : κ ∈ l.map (·.1) := by rw [h2]; exact mem_foldK.mpr (List.mem_cons_self ..)
        obtain ⟨q, hq, e1⟩ := List.mem_map.mp hm
        obtain ⟨_, d, hd, _, hr⟩ := h3 q hq
        obtain ⟨i, _, rfl⟩ := List.mem_map.mp hd
        cases hr
theorem SetB.tupI {β : BG} {α : List Addr} {B : Addr → Prop} {H : Hp} {a : Addr} {t : List D} {κs : List NK} (r : SetB Z K mg β α B H a t) (e : t.map D.nk = κs.map some) (hw : t.all D.tupK = true) : ∃ l, TupSet Z.w H a l ∧ l.map (·.1) = foldK κs ∧ ∀ q ∈ l, q.1.depth ≤ 8 ∧ ∃ d ∈ t, d.nk = some q.1 ∧ Rp Z K mg β α (hid B H) (.ref q.2) d := by
  cases r with
  | nul h =>
    cases κs with
    | nil => exact ⟨[], .inr ⟨h, rfl⟩, rfl, fun _ q => nomatch q⟩
    | cons _ _ => cases e
  | @iz ns n h =>
    cases ns with
    | nil => exact (n rfl).elim
    | cons _ _ => rw [List.map_cons, List.all_cons] at hw; cases hw
  | @tz l ds κs' n h h1 h2 h3 =>
    rw [h1] at e
    rw [map_some_inj e] at h2
    exact ⟨l, .inl h, h2, h3⟩
theorem emr_set {te : TE} {me : ME} (he : DE Z K mg E' te me) : EmR E' (acS (Z := Z) (K := K) (mg := mg)) (emSet Z.p Z.w K te) (emdS me) := fun C p αb Hb α ow σ ρ H S t P N b ac hm k => by
  refine em_run (AK := acS) he b ac hm fun y v α1 H1 S1 hm1 b1 fr1 ac1 r => ?_
  have ac1 : SetB Z K mg C.β α1 (hdp C p α1 ow) H1 p t := ac1
  rcases hm1 with ⟨n, rfl, ns, rfl, hb, hm1⟩ | ⟨ds, κ, rfl, hk, h8, κs, h1, hw, few, hm1⟩
  · cases r
    have hs := ac1.intI rfl
    have hl : (foldK ns).length ≤ ns.length := by have := foldK_len ns []; rw [List.length_nil, Nat.zero_add] at this; exact this
    refine ⟨_, .inl ⟨foldK ns, n, hs, rfl, by omega, rfl⟩, k _ α1 _ S1 hm1 (b1.wr _ ⟨ntExt, nc_SetXO⟩ fun z => ac1.tabs z) (fr1.toP.trans FrP.wr) ?_⟩
    show SetB Z K mg C.β α1 _ _ p (ns.map D.int ++ [.int n])
    rw [show ns.map D.int ++ [.int n] = (ns ++ [n]).map D.int by simp]
    exact .iz (by simp) (by rw [foldK_snoc]; exact upd_same)
  · obtain ⟨l, hs, h2, h3⟩ := ac1.tupI h1 hw
    obtain ⟨b', xs, rfl, g1, g2, g3⟩ := r.tupI
    have hkt : ∀ q ∈ l, KT8 K H1 q.1 q.2 := fun q hq => let ⟨a8, d, _, hn, hr⟩ := h3 q hq; ⟨KH.same hid_same (Rp.kh hr hn), a8⟩
    have hlen : l.length = (foldK κs).length := by rw [← h2, List.length_map]
    refine ⟨_, .inr ⟨l, κ, b', hs, rfl, ⟨KH.same hid_same (Rp.kh r hk), h8⟩, hkt, by omega, rfl⟩, k _ α1 _ S1 hm1 (b1.wr _ ⟨ntExt, nc_SetNO⟩ fun z => ac1.tabs z) (fr1.toP.trans FrP.wr) ?_⟩
    have sm : Same (hid (hdp C p α1 ow) H1) (hid (hdp C p α1 ow) (upd H1 p (SetNO Z.w p (insN l κ b')))) := (FrP.wr (β := C.β)).sm
    refine .tz (κs := κs ++ [κ]) (by simp) upd_same (by rw [List.map_append, List.map_append, h1, List.map_singleton, List.map_singleton, hk]) (by rw [insN_fst, h2, foldK_snoc]) fun q hq => ?_
    have old : ∀ q ∈ l, q.1.depth ≤ 8 ∧ ∃ d ∈ t ++ [.tup ds], d.nk = some q.1 ∧ Rp Z K mg C.β α1 (hid (hdp C p α1 ow) (upd H1 p (SetNO Z.w p (insN l κ b')))) (.ref q.2) d := fun q hq => let ⟨a8, d, hd, hn, hr⟩ := h3 q hq; ⟨a8, d, List.mem_append_left _ hd, hn, hr.same sm⟩
    unfold insN at hq
    split at hq
    · exact old q hq
    · rcases List.mem_append.mp hq with hq | hq
      · exact old q hq
      · rw [List.mem_singleton.mp hq]
        exact ⟨h8, _, List.mem_append_right _ (List.mem_singleton.mpr rfl), hk, r.same sm⟩
/-! ### the comprehensions -/
variable {wi : TI} {mi : MI} {g : TG} {f : TgM} {tt : TT} {mt : MT} {us vs : List Nat} {r : List ClX1} {rd : List CD} {te tk tv : TE} {me mk mv : ME}
/-! ### a set for the moment -/
def SetR (Z : ZP) (K : PySem.W.Frag) (mg : Str → Option Value) (β : BG) (α : List Addr) (B : Addr → Prop) (H : Hp) (a : Addr) (ds : List D) : Prop := SetB Z K mg β α B H a ds ∨ (∃ ns : List Int, ds = ns.map .int ∧ H a = some (SetXO (intKind Z.p Z.w) a (foldK ns))) ∨
  ∃ ns : List Str, ds = ns.map .str ∧ (∀ z ∈ ns, z.length ≤ sizeLine) ∧ H a = some (SetXO (strKind Z.p Z.w) a (foldK ns))
def DX (Z : ZP) (K : PySem.W.Frag) (mg : Str → Option Value) (E : XK) (t : TE) (m : MI) : Prop := ∀ (C : Cy Z K mg E) (α : List Addr) (ow : OwS) (σ : L2.St) (ρ : Env) (H : Hp) (S : Sto) (P : List D → Sto → Prop) (X : Ex → Sto → Prop) (Q : VK),
  Ev C α ow σ ρ H S → m ρ S P X → XOk C X → (∀ ds a α' H' S', P ds S' → Go C ow α H α' H' S' → SetR Z K mg C.β α' (fun x => C.hd α' ow x ∨ x = a) H' a ds → Q (.ref a) H') → t σ H Q
/-- a set comprehension -/
def mSc (mi : MI) (f : TgM) (mt : MT) (vs : List Nat) (r : List CD) (me : ME) : MI := fun ρ S P X => (∀ j ∈ vs, isOw ρ[j]? = false) ∧ mi ρ S (fun ds S1 => loD f mt (stD (emdS me) r) (wipeD ρ vs) ds [] S1 P) X
theorem dx_sc (hi : DI Z K mg E wi mi) (hg : DG Z K mg E' g f us) (hu : ∀ i ∈ us, i ∈ vs) (ht : DT Z K mg E' tt mt) (hr : ClR Z K mg E' vs r rd) (he : DE Z K mg E' te me) : DX Z K mg E (tGen (SetEO Z.w) wi g tt vs r (emSet Z.p Z.w K te)) (mSc mi f mt vs rd me) := fun C α ow σ ρ H S P X Q e hm hx k =>
  gn_run (fin := .lst) (P := fun d S2 => asL (fun t => P t S2) d) hi hg hu ht hr (emr_set he) (fun _ _ _ _ _ => .nul upd_same) (fun _ => ⟨ntExt, nc_SetEO⟩) C α ow σ ρ H S X Q e hm hx fun t p α' H' S' pd gg hp np ac _ => k t p α' H' S' pd gg (.inl ac)
/-- set(xs), ints or texts -/
def setOf (ds : List D) : Prop := (∃ ns : List Int, ds = ns.map .int) ∨ ∃ ns : List Str, ds = ns.map .str
def asLT (P : List D → Prop) : D → Prop
  | .lst ds => P ds
  | .tup ds => P ds
  | _ => False
def mSo (ma : ME) : MI := fun ρ S P X => ma ρ S (fun d S1 => asLT (fun ds => setOf ds ∧ ds.length + 1 < scanBound ∧ P ds S1) (S1.rs d)) X
theorem dx_so {ta : TE} {ma : ME} (ha : DQ Z K mg E ta ma) : DX Z K mg E (tCB (rSetA K Z.p Z.w) (tCons ta tNil)) (mSo ma) := fun C α ow σ ρ H S P X Q e hm hx k =>
  ha C α ow σ ρ H S _ X _ e hm hx fun d v α1 H1 S1 hm1 f1 s1 => by
    have s1 := s1.rs f1.st
    have e1 := e.step f1
    have fin : ∀ (a : Addr) (vs : List V) (ds : List D), (SqL K H1 a vs ∨ SqT K H1 a vs) → RvAll C α1 ow H1 vs ds → setOf ds → ds.length + 1 < scanBound → P ds S1 → rSetA K Z.p Z.w [.ref a] H1 Q := fun a vs ds h1 h3 so hb p => by
      refine ⟨a, rfl, ?_⟩
      rcases so with ⟨ns, rfl⟩ | ⟨ns, rfl⟩
      · rw [h3.intsI] at h1
        rw [List.length_map] at hb
        exact .inl ⟨ns, h1, hb, fun q hq => k _ _ _ _ _ p (f1.trans (e1.nw hq)) (.inr (.inl ⟨ns, rfl, upd_same⟩))⟩
      · have hz := RpAll.strLen h3
        rw [h3.strsI] at h1
        rw [List.length_map] at hb
        exact .inr ⟨ns, h1, hb, fun q hq => k _ _ _ _ _ p (f1.trans (e1.nw hq)) (.inr (.inr ⟨ns, rfl, hz, upd_same⟩))⟩
    unfold asLT at hm1
    split at hm1
    · rename_i ds q
      rw [q] at s1
      obtain ⟨a, vs, rfl, h1, h2, h3⟩ := s1.lstI
      exact fin a vs ds (.inl (SqL.of h1)) h3 hm1.1 hm1.2.1 hm1.2.2
    · rename_i ds q
      rw [q] at s1
      obtain ⟨a, vs, rfl, h1, h2, h3⟩ := s1.tupI
      exact fin a vs ds (.inr h1) h3 hm1.1 hm1.2.1 hm1.2.2
    · exact hm1.elim
/-- how many there are -/
def nkLen (ds : List D) : Nat := (foldK (ds.filterMap D.nk)).length
def mLenX (m : MI) : ME := fun ρ S P X => m ρ S (fun ds S1 => P (.int (nkLen ds : Nat)) S1) X
/-- sorted of ints -/
def sortI (ns : List Int) : List Int := ns.mergeSort (fun a b => decide (a ≤ b))
theorem sortI_uniq {ns ys : List Int} (p : ys.Perm ns) (s : ys.Pairwise (· ≤ ·)) : ys = sortI ns := by
  have h2 : (sortI ns).Pairwise (· ≤ ·) := by
    have := List.pairwise_mergeSort (le := fun a b : Int => decide (a ≤ b)) (fun a b c h1 h2 => by simp at *; omega) (fun a b => by simp; omega) ns
    exact this.imp fun h => of_decide_eq_true h
  exact (p.trans (List.mergeSort_perm ns _).symm).eq_of_pairwise (fun a b _ _ h1 h2 => Int.le_antisymm h1 h2) s h2
/-- sorted of a set, ints or texts -/
def mSortX (m : MI) : ME := fun ρ S P X => m ρ S (fun ds S1 => (∃ ns : List Int, ds = ns.map .int ∧ ns.length < 64 ∧ P (.lst ((sortI (foldK ns)).map .int)) S1) ∨
  ∃ ns : List Str, ns ≠ [] ∧ ds = ns.map .str ∧ ns.length < 64 ∧ ∀ ys : List Str, ys.Perm (foldK ns) → sortedS ys = true → P (.lst (ys.map .str)) S1) X
theorem de_sortX {t : TE} {m : MI} (h : DX Z K mg E t m) : DE Z K mg E (tCB (rSort2 Z.p Z.w) (tCons t tNil)) (mSortX m) := fun C α ow σ ρ H S P X Q e hm hx k =>
  h C α ow σ ρ H S _ X _ e hm hx fun ds a α1 H1 S1 p g r => by
    have e1 := e.step g
    have fk : ∀ {κ : Type} [DecidableEq κ] (ns : List κ), (foldK ns).length ≤ ns.length := fun ns => by have := foldK_len ns []; rw [List.length_nil, Nat.zero_add] at this; exact this
    rcases p with ⟨ns, rfl, few, p⟩ | ⟨ns, nn, rfl, few, p⟩
    · have fin : IntSet Z.p Z.w H1 a (foldK ns) → rSort2 Z.p Z.w [.ref a] H1 Q := fun hs => .inl ⟨a, _, rfl, hs, Nat.lt_of_le_of_lt (fk ns) few, fun ys q pm so hq => by
        have ey := sortI_uniq pm so
        subst ey
        refine k _ _ _ _ _ p (g.trans (e1.nw hq)) (rv_lst e1 hq ?_ (RpAll.ints _))
        rw [List.length_map, pm.length_eq, sizeLine_eq]
        have := fk ns
        omega⟩
      rcases r with r | ⟨ms, e2, r⟩ | ⟨ms, e2, _, r⟩
      · exact fin (r.intI rfl)
      · rw [← map_int_inj e2] at r; exact fin (.inl r)
      · cases ns with
        | nil => 
          cases ms with
          | nil => exact .inr ⟨a, [], rfl, r, by decide, fun ys q pm so hq => by
              have := pm.eq_nil
              subst this
              have e0 : sortI (foldK ([] : List Int)) = [] := (sortI_uniq (.refl []) .nil).symm
              rw [e0] at p
              exact k _ _ _ _ _ p (g.trans (e1.nw hq)) (rv_lst e1 hq (Nat.zero_le _) .nil)⟩
          | cons _ _ => cases e2
        | cons _ _ => cases ms with
          | nil => cases e2
          | cons _ _ => cases e2
    · rcases r with r | ⟨ms, e2, r⟩ | ⟨ms, e2, hz, r⟩
      · generalize hd : ns.map D.str = ds at r
        cases r with
        | nul _ => cases ns with
          | nil => exact (nn rfl).elim
          | cons _ _ => cases hd
        | @iz ms _ _ => cases ns with
          | nil => exact (nn rfl).elim
          | cons _ _ => cases ms with
            | nil => cases hd
            | cons _ _ => cases hd
        | @tz l _ κs _ r h1 h2 h3 =>
          cases ns with
          | nil => exact (nn rfl).elim
          | cons n ns =>
            subst hd
            cases κs with
            | nil => cases h1
            | cons κ κs =>
              have hm : κ ∈ l.map (·.1) := by rw [h2]; exact mem_foldK.mpr (List.mem_cons_self ..)
              obtain ⟨q, hq, e1⟩ := List.mem_map.mp hm
              obtain ⟨_, d, hd, _, hr⟩ := h3 q hq
              obtain ⟨i, _, rfl⟩ := List.mem_map.mp hd
              cases hr
      · cases ns with
        | nil => exact (nn rfl).elim
        | cons _ _ => cases ms with
          | nil => cases e2
          | cons _ _ => cases e2
      · have es : ns = ms := by
          clear p nn few r hz
          induction ns generalizing ms with
          | nil => cases ms with
            | nil => rfl
            | cons _ _ => cases e2
          | cons n r ih => cases ms with
            | nil => cases e2
            | cons m ms =>
              simp only [List.map_cons, List.cons.injEq, D.str.injEq] at e2
              rw [e2.1, ih _ e2.2]
        subst es
        exact .inr ⟨a, _, rfl, r, Nat.lt_of_le_of_lt (fk ns) few, fun ys q pm so hq => by
          refine k _ _ _ _ _ (p ys pm so) (g.trans (e1.nw hq)) (rv_lst e1 hq ?_ (RpAll.strs fun z hzz => hz z (mem_foldK.mp (pm.mem_iff.mp hzz))))
          rw [List.length_map, pm.length_eq, sizeLine_eq]
          have := fk ns
          omega⟩
/-- a, b = x, [..]: b an own object -/
def kParOw (i j : Nat) (ma mb : ME) : MS := fun ρ S e => ma ρ S (fun a S1 => mb ρ S1 (fun b S2 => i ≠ j ∧ j < ρ.length ∧ e.nx ((ρ.set i (.va a)).set j (.ow b)) S2) e.ex) e.ex
end
end Nc

namespace Nc
open PySem PySem.Spec PyProof.Rows L2
/-! ## plain things: texts, data, loops -/
theorem szl {n : Nat} : (n ≤ sizeLine) = (n ≤ 16777216) := by rw [sizeLine_eq]
section
variable (S : Sto)
theorem rs_non : S.rs .non = .non := rfl
theorem rs_bl (b : Bool) : S.rs (.bl b) = .bl b := rfl
theorem rs_int (b : Int) : S.rs (.int b) = .int b := rfl
theorem rs_str (b : Str) : S.rs (.str b) = .str b := rfl
theorem rs_lst (b : List D) : S.rs (.lst b) = .lst b := rfl
theorem rs_tup (b : List D) : S.rs (.tup b) = .tup b := rfl
theorem rs_dic (a b : List D) : S.rs (.dic a b) = .dic a b := rfl
theorem rs_ins (c : Str) (a : List Str) (b : List D) : S.rs (.ins c a b) = .ins c a b := rfl
theorem rs_bag : S.rs .bag = .bag := rfl
theorem rs_raw (v : V) : S.rs (.raw v) = .raw v := rfl
end
theorem ty_non : D.ty .non = some "NoneType" := rfl
theorem ty_bl (b : Bool) : D.ty (.bl b) = some "bool" := rfl
theorem ty_int (b : Int) : D.ty (.int b) = some "int" := rfl
theorem ty_str (b : Str) : D.ty (.str b) = some "str" := rfl
theorem ty_lst (b : List D) : D.ty (.lst b) = some "list" := rfl
theorem ty_tup (b : List D) : D.ty (.tup b) = some "tuple" := rfl
theorem isN_non : D.isN .non = some true := rfl
theorem isN_bl (b : Bool) : D.isN (.bl b) = some false := rfl
theorem isN_int (b : Int) : D.isN (.int b) = some false := rfl
theorem isN_str (b : Str) : D.isN (.str b) = some false := rfl
theorem isN_lst (b : List D) : D.isN (.lst b) = some false := rfl
theorem isN_tup (b : List D) : D.isN (.tup b) = some false := rfl
/-- isinstance, worked out -/
theorem isT_all : isT "NoneType" "int" = false ∧ isT "NoneType" "bool" = false ∧ isT "NoneType" "str" = false ∧ isT "NoneType" "tuple" = false ∧ isT "NoneType" "list" = false ∧ isT "bool" "int" = true ∧ isT "bool" "bool" = true ∧ isT "bool" "str" = false ∧ isT "bool" "tuple" = false ∧ isT "bool" "list" = false ∧ isT "int" "int" = true ∧ isT "int" "bool" = false ∧ isT "int" "str" = false ∧ isT "int" "tuple" = false ∧ isT "int" "list" = false ∧ isT "str" "int" = false ∧ isT "str" "bool" = false ∧ isT "str" "str" = true ∧ isT "str" "tuple" = false ∧ isT "str" "list" = false ∧ isT "list" "int" = false ∧ isT "list" "bool" = false ∧ isT "list" "str" = false ∧ isT "list" "tuple" = false ∧ isT "list" "list" = true ∧ isT "tuple" "int" = false ∧ isT "tuple" "bool" = false ∧ isT "tuple" "str" = false ∧ isT "tuple" "tuple" = true ∧ isT "tuple" "list" = false := by decide +kernel
theorem tyMem {a b c d e : String} {x : String} : (x ∈ [a, b, c, d, e]) = (x = a ∨ x = b ∨ x = c ∨ x = d ∨ x = e) := by simp
theorem str_ext {x y : Str} (h : x.cps.toList = y.cps.toList) : x = y := by
  obtain ⟨⟨a⟩⟩ := x
  obtain ⟨⟨b⟩⟩ := y
  cases h
  rfl
theorem strEqLit (a b : String) : (((a : Str) = (b : Str)) : Prop) = (a = b) := by
  refine propext ⟨fun h => ?_, fun h => by rw [h]⟩
  have h1 := congrArg (fun z : Str => z.cps.toList) h
  simp only [Str.ofString_eq_toList] at h1
  have h2 : a.toList = b.toList := by
    refine List.map_inj_right (f := Char.toNat) (fun x y e => ?_) |>.mp h1
    exact Char.toNat_inj.mp e
  rw [← String.ofList_toList (s := a), h2, String.ofList_toList]
theorem strBeqLit (a b : String) : ((a : Str) == (b : Str)) = decide (a = b) := by
  rw [Bool.eq_iff_iff, beq_iff_eq, decide_eq_true_eq, strEqLit]
theorem vD_int (i : Int) : vD (.int i) = .int i := rfl
theorem vD_str (i : Str) : vD (.str i) = .str i := rfl
theorem inV_nil (x : V) : inV x [] = false := rfl
theorem inV_cons (x y : V) (ys : List V) : inV x (y :: ys) = (eqV y x || inV x ys) := rfl
theorem eqV_ss (a b : Str) : eqV (.str a) (.str b) = (a == b) := rfl
theorem eqV_ii (a b : Int) : eqV (.int a) (.int b) = decide (a = b) := by
  show (a == b) = _
  rw [Bool.eq_iff_iff]; simp
theorem v_str (a : Str) : D.v (.str a) = .str a := rfl
theorem v_int (a : Int) : D.v (.int a) = .int a := rfl
theorem v_non : D.v .non = .non := rfl
theorem v_bl (a : Bool) : D.v (.bl a) = .bl a := rfl
theorem flat_str (a : Str) : D.flat (.str a) = true := rfl
theorem flat_int (a : Int) : D.flat (.int a) = true := rfl
theorem flat_non : D.flat .non = true := rfl
theorem flat_bl (a : Bool) : D.flat (.bl a) = true := rfl
theorem litOk (s : String) : ((s : Str).cps.all (· < 0x110000)) = true := by
  rw [Str.ofString_eq_toList]
  simp only [List.all_toArray, List.all_map, List.all_eq_true, Function.comp_apply, decide_eq_true_eq]
  intro c _
  have h := c.valid
  have e : c.toNat = c.val.toNat := rfl
  rw [e]
  rcases h with h | h
  · have : c.val.toNat < 0xd800 := h
    omega
  · have : c.val.toNat < 0x110000 := h.2
    omega
theorem atI_0 {α : Type} (x : α) (xs : List α) : L2.atI (x :: xs) 0 = some x := by simp [L2.atI, L2.ixN]
theorem atI_1 {α : Type} (x y : α) (xs : List α) : L2.atI (x :: y :: xs) 1 = some y := by
  simp only [L2.atI, L2.ixN, List.length_cons]
  simp only [show ((0:Int) ≤ 1) = True by simp, if_true]
  rw [if_pos (by omega)]
  rfl
theorem atI_2 {α : Type} (x y z : α) (xs : List α) : L2.atI (x :: y :: z :: xs) 2 = some z := by
  simp only [L2.atI, L2.ixN, List.length_cons]
  simp only [show ((0:Int) ≤ 2) = True by simp, if_true]
  rw [if_pos (by omega)]
  rfl
theorem nc0 : ((0 : Nat) : Int) = 0 := rfl
theorem nc1 : ((1 : Nat) : Int) = 1 := rfl
theorem nc2 : ((2 : Nat) : Int) = 2 := rfl
theorem nc3 : ((3 : Nat) : Int) = 3 := rfl
theorem nc4 : ((4 : Nat) : Int) = 4 := rfl
theorem nc5 : ((5 : Nat) : Int) = 5 := rfl
theorem eqv_int (i j : Int) : D.eqv (.int i) (.int j) = decide (i = j) := by
  unfold D.eqv D.py PyData.eqv
  rw [Bool.eq_iff_iff]
  simp
theorem eqv_str (i j : Str) : D.eqv (.str i) (.str j) = decide (i = j) := by
  unfold D.eqv D.py PyData.eqv
  rw [Bool.eq_iff_iff]
  simp
theorem eqv_bl (i j : Bool) : D.eqv (.bl i) (.bl j) = decide (i = j) := by
  unfold D.eqv D.py PyData.eqv
  rw [Bool.eq_iff_iff]
  simp
theorem eqv_non : D.eqv .non .non = true := by
  unfold D.eqv D.py PyData.eqv
  rfl
theorem ok_int (i : Int) : D.ok (.int i) = true := by simp [D.ok, D.isPy, D.py, SeqAt.shaped, PyData.canLay0, PyData.depth]
theorem ok_bl (i : Bool) : D.ok (.bl i) = true := by simp [D.ok, D.isPy, D.py, SeqAt.shaped, PyData.canLay0, PyData.depth]
theorem ok_non : D.ok .non = true := by simp [D.ok, D.isPy, D.py, SeqAt.shaped, PyData.canLay0, PyData.depth]
theorem ok_str (i : Str) : D.ok (.str i) = i.cps.all (· < 0x110000) := by simp [D.ok, D.isPy, D.py, SeqAt.shaped, PyData.canLay0, PyData.depth, PyData.strOk]

theorem eqv_lnil : D.eqv (.lst []) (.lst []) = true := by
  unfold D.eqv D.py D.pys PyData.eqv PyData.eqvAll
  rfl
theorem eqv_lcn (a : D) (as : List D) : D.eqv (.lst (a :: as)) (.lst []) = false := by
  unfold D.eqv D.py D.pys PyData.eqv PyData.eqvAll
  rfl
theorem eqv_lnl (xs : List D) : D.eqv (.lst xs) (.lst []) = xs.isEmpty := by
  cases xs with
  | nil => exact eqv_lnil
  | cons => exact eqv_lcn _ _
/-- data of the kit's, not too deep -/
def D.okd (n : Nat) (d : D) : Prop := d.isPy = true ∧ PyData.canLay0 d.py = true ∧ PyData.depth d.py ≤ n
theorem ok_iff {d : D} : d.ok = true ↔ d.okd 64 := by
  unfold D.ok D.okd SeqAt.shaped
  rw [Bool.and_eq_true_iff, Bool.and_eq_true_iff, decide_eq_true_eq]
theorem D.okd.le {n m : Nat} {d : D} (h : d.okd n) (hm : n ≤ m) : d.okd m := ⟨h.1, h.2.1, Nat.le_trans h.2.2 hm⟩
theorem okd_int {n : Nat} {i : Int} : D.okd n (.int i) := by simp [D.okd, D.isPy, D.py, PyData.canLay0, PyData.depth]
theorem okd_str {n : Nat} {z : Str} (h : z.cps.all (· < 0x110000) = true) : D.okd n (.str z) := by simp only [D.okd, D.isPy, D.py, PyData.canLay0, PyData.depth, PyData.strOk, h, true_and]; exact Nat.zero_le _
theorem okd_all {n : Nat} : ∀ {ds : List D}, (∀ d ∈ ds, d.okd n) → D.arePy ds = true ∧ PyData.canLayAll0 (D.pys ds) = true ∧ PyData.depthAll (D.pys ds) ≤ n
  | [], _ => by simp [D.arePy, D.pys, PyData.canLayAll0, PyData.depthAll]
  | d :: ds, h => by
    obtain ⟨h1, h2, h3⟩ := h d (List.mem_cons_self ..)
    obtain ⟨g1, g2, g3⟩ := okd_all fun x hx => h x (List.mem_cons_of_mem _ hx)
    simp only [D.arePy, D.pys, PyData.canLayAll0, PyData.depthAll, h1, h2, g1, g2, Bool.and_self, true_and]
    omega
theorem okd_lst {n : Nat} {ds : List D} (h : ∀ d ∈ ds, d.okd n) : D.okd (n + 1) (.lst ds) := by
  obtain ⟨h1, h2, h3⟩ := okd_all h
  unfold D.okd D.isPy D.py PyData.canLay0 PyData.depth
  exact ⟨h1, h2, by omega⟩
theorem okd_tup {n : Nat} {ds : List D} (h : ∀ d ∈ ds, d.okd n) : D.okd (n + 1) (.tup ds) := by
  obtain ⟨h1, h2, h3⟩ := okd_all h
  unfold D.okd D.isPy D.py PyData.canLay0 PyData.depth
  exact ⟨h1, h2, by omega⟩
mutual
theorem eqv_pd : ∀ d : PyData, d.canLay0 = true → PyData.eqv d d = true
  | .none, _ => by unfold PyData.eqv; rfl
  | .bool b, _ => by unfold PyData.eqv; simp
  | .int b, _ => by unfold PyData.eqv; simp
  | .str b, _ => by unfold PyData.eqv; simp
  | .list xs, h => by unfold PyData.eqv; unfold PyData.canLay0 at h; exact eqv_pds xs h
  | .tuple xs, h => by unfold PyData.eqv; unfold PyData.canLay0 at h; exact eqv_pds xs h
  | .dict _, h => by unfold PyData.canLay0 at h; cases h
theorem eqv_pds : ∀ d : List PyData, PyData.canLayAll0 d = true → PyData.eqvAll d d = true
  | [], _ => by unfold PyData.eqvAll; rfl
  | d :: ds, h => by
    unfold PyData.canLayAll0 at h
    rw [Bool.and_eq_true_iff] at h
    unfold PyData.eqvAll
    rw [eqv_pd d h.1, eqv_pds ds h.2]
    rfl
end
theorem D.okd.self {n : Nat} {d : D} (h : d.okd n) : d.eqv d = true := eqv_pd _ h.2.1
theorem ok_lnil : D.ok (.lst []) = true := ok_iff.mpr (okd_lst fun _ h => by cases h)
/-! ## loops, plainly -/
def lcStep (f : TgM) (mt : MT) (me : ME) (ρ : Env) (d : D) (S : Sto) (P : Option D → Sto → Prop) : Prop := f d ρ fun ρ2 => mt ρ2 S (fun b S1 => if b = true then me ρ2 S1 (fun y S2 => P (some y) S2) noX else P none S1) noX
theorem lcD_inv {τ : Type} {f : TgM} {mt : MT} {me : ME} {ρ : Env} (r : τ → D) (xs : List τ) (I : List τ → List D → Sto → Prop) (h : ∀ dn x rest acc S, xs = dn ++ x :: rest → I dn acc S → ∀ P : Option D → Sto → Prop, (∀ o S', I (dn ++ [x]) (acc ++ o.toList) S' → P o S') → lcStep f mt me ρ (r x) S P)
    {acc : List D} {S : Sto} {P : List D → Sto → Prop} (h0 : I [] acc S) (hP : ∀ acc S, I xs acc S → P acc S) : lcD f mt me ρ (xs.map r) acc S P := by
  have g : ∀ (rest dn : List τ) (acc : List D) (S : Sto), xs = dn ++ rest → I dn acc S → lcD f mt me ρ (rest.map r) acc S P := by
    intro rest
    induction rest with
    | nil =>
      intro dn acc S e i
      rw [List.append_nil] at e
      subst e
      exact hP _ _ i
    | cons x rest ih =>
      intro dn acc S e i
      have e2 : xs = (dn ++ [x]) ++ rest := by rw [e]; simp
      exact h dn x rest acc S e i (fun o S' => match o with
        | some y => lcD f mt me ρ (rest.map r) (acc ++ [y]) S' P
        | none => lcD f mt me ρ (rest.map r) acc S' P) fun o S' i' => by
          cases o with
          | some y => exact ih _ _ _ e2 i'
          | none => exact ih _ _ _ e2 (by simpa using i')
  exact g xs [] acc S rfl h0
/-- .. where nothing is drawn and nothing changes -/
theorem lcD_fm {τ : Type} {f : TgM} {mt : MT} {me : ME} {ρ : Env} (r : τ → D) (o : τ → Option D) (xs : List τ) {acc : List D} {S : Sto} {P : List D → Sto → Prop} (h : ∀ x ∈ xs, ∀ P : Option D → Sto → Prop, P (o x) S → lcStep f mt me ρ (r x) S P)
    (hP : P (acc ++ xs.filterMap o) S) : lcD f mt me ρ (xs.map r) acc S P := by
  refine lcD_inv r xs (fun dn a S' => S' = S ∧ a = acc ++ dn.filterMap o) (fun dn x rest a S' e i P k => ?_) ⟨rfl, by simp⟩ fun a S' i => by rw [i.1, i.2]; exact hP
  obtain ⟨rfl, rfl⟩ := i
  refine h x (by rw [e]; simp) _ (k _ _ ⟨rfl, ?_⟩)
  rw [List.filterMap_append, List.append_assoc]
  cases q : o x <;> simp [q]
theorem lcD_map {τ : Type} {f : TgM} {mt : MT} {me : ME} {ρ : Env} (r o : τ → D) (xs : List τ) {acc : List D} {S : Sto} {P : List D → Sto → Prop} (h : ∀ x ∈ xs, ∀ P : Option D → Sto → Prop, P (some (o x)) S → lcStep f mt me ρ (r x) S P)
    (hP : P (acc ++ xs.map o) S) : lcD f mt me ρ (xs.map r) acc S P := lcD_fm r (fun x => some (o x)) xs h (by rw [List.filterMap_eq_map']; exact hP)
theorem forD_inv {τ : Type} {f : TgM} {m : MS} {e : Pn} (r : τ → D) (xs : List τ) (I : List τ → Env → Sto → Prop) (h : ∀ dn x rest ρ S, xs = dn ++ x :: rest → I dn ρ S → ∀ N : Env → Sto → Prop, (∀ ρ' S', I (dn ++ [x]) ρ' S' → N ρ' S') → f (r x) ρ fun ρ1 => m ρ1 S { e with nx := N, ct := N, bk := e.nx })
    {ρ : Env} {S : Sto} (h0 : I [] ρ S) (hP : ∀ ρ S, I xs ρ S → e.nx ρ S) : forD f m (xs.map r) ρ S e := by
  have g : ∀ (rest dn : List τ) (ρ : Env) (S : Sto), xs = dn ++ rest → I dn ρ S → forD f m (rest.map r) ρ S e := by
    intro rest
    induction rest with
    | nil =>
      intro dn ρ S e i
      rw [List.append_nil] at e
      subst e
      exact hP _ _ i
    | cons x rest ih =>
      intro dn ρ S e i
      have e2 : xs = (dn ++ [x]) ++ rest := by rw [e]; simp
      exact h dn x rest ρ S e i _ fun ρ' S' i' => ih _ _ _ e2 i'
  exact g xs [] ρ S rfl h0
/-! ## gates: what stands behind is not looked at -/
inductive Tg {τ : Sort _} (x : τ) : Type
  | mk
abbrev gate (m : List D → M D) (ds : List D) (S : Sto) (P : D → Sto → Prop) (X : Ex → Sto → Prop) (_ : Tg P) : Prop := m ds S P X
abbrev lcG (f : TgM) (mt : MT) (me : ME) (ρ : Env) (ds acc : List D) (S : Sto) (P : List D → Sto → Prop) (_ : Tg P) : Prop := lcD f mt me ρ ds acc S P
abbrev forG (f : TgM) (m : MS) (ds : List D) (ρ : Env) (S : Sto) (e : Pn) (_ : Tg e) : Prop := forD f m ds ρ S e
abbrev whG (mt : MT) (m : MS) (ρ : Env) (S : Sto) (e : Pn) (_ : Tg e) : Prop := kWhile mt m ρ S e
theorem x_mCall {m : List D → M D} {dd : List D} {mr : MA} {ρ : Env} {S : Sto} {P : D → Sto → Prop} {X : Ex → Sto → Prop} : mCall m dd mr ρ S P X = mr ρ S (fun ds S1 => gate m (ds ++ dd) S1 P X .mk) X := rfl
theorem x_mLc {mi : MI} {f : TgM} {mt : MT} {me : ME} {vs : List Nat} {ρ : Env} {S : Sto} {P : D → Sto → Prop} {X : Ex → Sto → Prop} : mLc mi f mt me vs ρ S P X = ((∀ j ∈ vs, isOw ρ[j]? = false) ∧ mi ρ S (fun ds S1 => ds.length ≤ sizeLine ∧ lcG f mt me (wipeD ρ vs) ds [] S1 (fun out S2 => P (.lst out) S2) .mk) X) := rfl
theorem x_kFor {mi : MI} {f : TgM} {m : MS} {ρ : Env} {S : Sto} {e : Pn} : kFor mi f m ρ S e = mi ρ S (fun ds S1 => forG f m ds ρ S1 e .mk) e.ex := rfl
theorem x_kWhile {mt : MT} {m : MS} {ρ : Env} {S : Sto} {e : Pn} : kWhile mt m ρ S e = whG mt m ρ S e .mk := rfl
theorem x_lcn {f : TgM} {mt : MT} {me : ME} {ρ : Env} {acc : List D} {S : Sto} {P : List D → Sto → Prop} {t : Tg P} : lcG f mt me ρ [] acc S P t = P acc S := rfl
theorem x_lcc {f : TgM} {mt : MT} {me : ME} {ρ : Env} {d : D} {ds acc : List D} {S : Sto} {P : List D → Sto → Prop} {t : Tg P} : lcG f mt me ρ (d :: ds) acc S P t = f d ρ fun ρ2 => mt ρ2 S (fun b S1 => if b = true then me ρ2 S1 (fun y S2 => lcG f mt me ρ ds (acc ++ [y]) S2 P t) noX else lcG f mt me ρ ds acc S1 P t) noX := rfl
theorem x_forn {f : TgM} {m : MS} {ρ : Env} {S : Sto} {nx : Env → Sto → Prop} {rt : D → Sto → Prop} {bk ct : Env → Sto → Prop} {ex : Ex → Sto → Prop} {t : Tg (Pn.mk nx rt bk ct ex)} : forG f m [] ρ S ⟨nx, rt, bk, ct, ex⟩ t = nx ρ S := rfl
theorem x_forc {f : TgM} {m : MS} {d : D} {ds : List D} {ρ : Env} {S : Sto} {nx : Env → Sto → Prop} {rt : D → Sto → Prop} {bk ct : Env → Sto → Prop} {ex : Ex → Sto → Prop} {t : Tg (Pn.mk nx rt bk ct ex)} : forG f m (d :: ds) ρ S ⟨nx, rt, bk, ct, ex⟩ t = f d ρ fun ρ1 => m ρ1 S ⟨fun ρ2 S2 => forG f m ds ρ2 S2 ⟨nx, rt, bk, ct, ex⟩ t, rt, nx, fun ρ2 S2 => forG f m ds ρ2 S2 ⟨nx, rt, bk, ct, ex⟩ t, ex⟩ := rfl
/-- word, *rest = .. -/
def stS : Nat → List D → (List D → Prop) → Prop
  | 0, ds, k => k [.lst ds]
  | _ + 1, [], _ => False
  | n + 1, d :: ds, k => stS n ds fun r => k (d :: r)
theorem stS_0 {ds : List D} {k : List D → Prop} : stS 0 ds k = k [.lst ds] := rfl
theorem stS_s {n : Nat} {d : D} {ds : List D} {k : List D → Prop} : stS (n + 1) (d :: ds) k = stS n ds fun r => k (d :: r) := rfl
theorem stS_eq : ∀ {n : Nat} {ds : List D} {k : List D → Prop}, stS n ds k = (n ≤ ds.length ∧ k (ds.take n ++ [.lst (ds.drop n)]))
  | 0, ds, k => by simp [stS]
  | n + 1, [], k => by simp [stS]
  | n + 1, d :: ds, k => by
    rw [stS_s, stS_eq]
    simp
/-! ## statements, one step each -/
section
variable {ρ : Env} {S : Sto} {nx : Env → Sto → Prop} {rt : D → Sto → Prop} {bk ct : Env → Sto → Prop} {ex : Ex → Sto → Prop}
theorem x_kSeq {m m' : MS} : kSeq m m' ρ S ⟨nx, rt, bk, ct, ex⟩ = m ρ S ⟨fun ρ' S' => m' ρ' S' ⟨nx, rt, bk, ct, ex⟩, rt, bk, ct, ex⟩ := rfl
theorem x_kNext : kNext ρ S ⟨nx, rt, bk, ct, ex⟩ = nx ρ S := rfl
theorem x_kBreak : kBreak ρ S ⟨nx, rt, bk, ct, ex⟩ = bk ρ S := rfl
theorem x_kCont : kCont ρ S ⟨nx, rt, bk, ct, ex⟩ = ct ρ S := rfl
theorem x_kNever : kNever ρ S ⟨nx, rt, bk, ct, ex⟩ = False := rfl
theorem x_kAsg {me : ME} {f : TgM} : kAsg me f ρ S ⟨nx, rt, bk, ct, ex⟩ = me ρ S (fun d S1 => f d ρ fun ρ' => nx ρ' S1) ex := rfl
theorem x_kRet {me : ME} : kRet me ρ S ⟨nx, rt, bk, ct, ex⟩ = me ρ S rt ex := rfl
theorem x_kRetN : kRetN ρ S ⟨nx, rt, bk, ct, ex⟩ = rt .non S := rfl
theorem x_kDrop {me : ME} : kDrop me ρ S ⟨nx, rt, bk, ct, ex⟩ = me ρ S (fun _ S1 => nx ρ S1) ex := rfl
theorem x_kIf {mt : MT} {m m' : MS} : kIf mt m m' ρ S ⟨nx, rt, bk, ct, ex⟩ = mt ρ S (fun b S1 => if b = true then m ρ S1 ⟨nx, rt, bk, ct, ex⟩ else m' ρ S1 ⟨nx, rt, bk, ct, ex⟩) ex := rfl
theorem x_kOwn {i : Nat} {me : ME} : kOwn i me ρ S ⟨nx, rt, bk, ct, ex⟩ = (i < ρ.length ∧ me ρ S (fun d S1 => nx (ρ.set i (.ow d)) S1) ex) := rfl
theorem x_kFrz {i : Nat} {m : MS} : kFrz i m ρ S ⟨nx, rt, bk, ct, ex⟩ = m (frz i ρ) S ⟨nx, rt, bk, ct, ex⟩ := rfl
theorem x_kRetOw {i : Nat} : kRetOw i ρ S ⟨nx, rt, bk, ct, ex⟩ = (match ρ[i]? with
  | some (.ow (.lst ds)) => rt (.lst ds) S
  | _ => False) := rfl
theorem x_kRetOwD {i : Nat} : kRetOwD i ρ S ⟨nx, rt, bk, ct, ex⟩ = (match ρ[i]? with
  | some (.ow (.dic ks ds)) => rt (.dic ks ds) S
  | _ => False) := rfl
theorem x_kApp {i : Nat} {me : ME} : kApp i me ρ S ⟨nx, rt, bk, ct, ex⟩ = (match ρ[i]? with
  | some (.ow (.lst ds)) => me ρ S (fun d S1 => ds.length < sizeLine ∧ nx (ρ.set i (.ow (.lst (ds ++ [d])))) S1) ex
  | _ => False) := rfl
theorem x_kExt {i : Nat} {me : ME} : kExt i me ρ S ⟨nx, rt, bk, ct, ex⟩ = (match ρ[i]? with
  | some (.ow (.lst ds)) => me ρ S (fun d S1 => asL (fun es => ds.length + es.length ≤ sizeLine ∧ nx (ρ.set i (.ow (.lst (ds ++ es)))) S1) d) ex
  | _ => False) := rfl
theorem x_kPar {i j : Nat} {mr : MA} : kPar i j mr ρ S ⟨nx, rt, bk, ct, ex⟩ = mr ρ S (fun ds S1 => match ds with
  | [a, b] => nx ((ρ.set i (.va a)).set j (.va b)) S1
  | _ => False) ex := rfl
theorem x_kAug {i : Nat} {f : D → D → (D → Prop) → Prop} {me : ME} : kAug i f me ρ S ⟨nx, rt, bk, ct, ex⟩ = (match ρ[i]? with
  | some (.va a) => me ρ S (fun b S1 => f (S1.rs a) (S1.rs b) fun d => nx (ρ.set i (.va d)) S1) ex
  | _ => False) := rfl
theorem x_kAsgS {n : Nat} {me : ME} {f : TgMs} : kAsgS n me f ρ S ⟨nx, rt, bk, ct, ex⟩ = me ρ S (fun d S1 => asT (fun ds => ds.length ≤ 16384 ∧ stS n ds fun l => f l ρ fun ρ' => nx ρ' S1) d) ex := by
  show me ρ S (fun d S1 => asT (fun ds => n ≤ ds.length ∧ ds.length ≤ 16384 ∧ f (ds.take n ++ [.lst (ds.drop n)]) ρ fun ρ' => nx ρ' S1) d) ex = _
  congr 1
  funext d S1
  congr 1
  funext ds
  rw [stS_eq]
  refine propext ⟨fun h => ⟨h.2.1, h.1, h.2.2⟩, fun h => ⟨h.2.1, h.1, h.2.2⟩⟩
theorem x_kRaise1 {c n f : Str} {mr : MA} : kRaise1 c n f mr ρ S ⟨nx, rt, bk, ct, ex⟩ = mr ρ S (fun ds S1 => match ds with
  | [x] => ex ⟨c, [(f, x), ("called", .str n)]⟩ S1
  | _ => False) ex := rfl
theorem x_kRaise0 {c n : Str} : kRaise0 c n ρ S ⟨nx, rt, bk, ct, ex⟩ = ex ⟨c, [("called", .str n)]⟩ S := rfl
end
/-! ## texts of one sign, texts by their signs -/
def sg (c : Nat) : Str := ⟨#[c]⟩
def ofL (cs : List Nat) : Str := ⟨cs.toArray⟩
theorem sg_len (c : Nat) : (sg c).length = 1 := rfl
theorem ofL_len (cs : List Nat) : (ofL cs).length = cs.length := by simp [ofL, Str.length]
theorem ofL_toL (cs : List Nat) : (ofL cs).cps.toList = cs := by simp [ofL]
theorem sg_toL (c : Nat) : (sg c).cps.toList = [c] := rfl
/-- the letters -/
def LET : List Nat := (List.range 26).map (· + 97)
theorem let_eq : ("abcdefghijklmnopqrstuvwxyz" : Str).cps.toList = LET := by decide +kernel
structure GoodL (cs : List Nat) : Prop where
  one : 1 ≤ cs.length
  lets : ∀ c ∈ cs, c ∈ LET
  rise : cs.Pairwise (· < ·)
/-! texts of letters -/
theorem single_lt {c d : Nat} : (([c] : List Nat) < [d]) ↔ c < d := by
  constructor
  · intro h
    cases h with
    | rel h => exact h
    | cons h => cases h
  · intro h; exact List.Lex.rel h
theorem sum_sg : ∀ ks : List Nat, ((ks.map sg).map (·.length)).sum = ks.length
  | [] => rfl
  | c :: r => by
    show (1 : Nat) + ((r.map sg).map (·.length)).sum = r.length + 1
    rw [sum_sg r]
    omega
theorem joinL_sg : ∀ cs : List Nat, TL.joinL [] (cs.map fun c => [c]) = cs
  | [] => rfl
  | [_] => rfl
  | a :: b :: r => by
    show [a] ++ ([] ++ TL.joinL [] ((b :: r).map fun c => [c])) = _
    rw [joinL_sg (b :: r)]
    rfl
theorem join_sg (cs : List Nat) : Txt.join ("" : Str) (cs.map sg) = ofL cs := by
  refine PyProof.Rows.ext_toList ?_
  rw [TL.join_eq]
  refine (TL.tl_join _ _).trans ?_
  rw [List.map_map]
  exact joinL_sg cs
theorem sorted_sg : ∀ (cs : List Nat), sortedS (cs.map sg) = true → cs.Pairwise (· ≤ ·) := by
  have aux : ∀ (cs : List Nat) (c : Nat), risingS (sg c) (cs.map sg) = true → (c :: cs).Pairwise (· ≤ ·) := by
    intro cs
    induction cs with
    | nil => intro c _; exact List.pairwise_singleton _ _
    | cons d r ih =>
      intro c h
      have h' : (!ltCps [d] [c] && risingS (sg d) (r.map sg)) = true := h
      obtain ⟨h1, h2⟩ := Bool.and_eq_true_iff.mp h'
      have hp := ih d h2
      have hcd : c ≤ d := by
        have h3 : ltCps [d] [c] = false := by simpa using h1
        have h4 : (decide (d < c) || (d == c && ltCps [] [])) = false := h3
        simp at h4
        omega
      refine List.pairwise_cons.mpr ⟨fun x hx => ?_, hp⟩
      rcases List.mem_cons.mp hx with e | e
      · omega
      · have := (List.pairwise_cons.mp hp).1 x e
        omega
  intro cs h
  cases cs with
  | nil => exact List.Pairwise.nil
  | cons c r => exact aux r c h
theorem perm_map_inv {α β : Type} {f : α → β} {ys : List β} {xs : List α} (h : ys.Perm (xs.map f)) : ∃ zs : List α, ys = zs.map f ∧ zs.Perm xs := by
  generalize e : xs.map f = m at h
  induction h generalizing xs with
  | nil => exact ⟨[], rfl, by rw [List.map_eq_nil_iff.mp e]⟩
  | cons a _ ih =>
    cases xs with
    | nil => cases e
    | cons x xs =>
      injection e with e1 e2
      obtain ⟨zs, h1, h2⟩ := ih e2
      exact ⟨x :: zs, by rw [List.map_cons, e1, h1], h2.cons x⟩
  | swap a b l =>
    match xs, e with
    | x :: y :: r, e =>
      injection e with e1 e2
      injection e2 with e3 e4
      exact ⟨y :: x :: r, by rw [List.map_cons, List.map_cons, e1, e3, e4], List.Perm.swap x y r⟩
  | trans _ _ ih1 ih2 =>
    obtain ⟨zs, h1, h2⟩ := ih2 e
    obtain ⟨ws, h3, h4⟩ := ih1 h1.symm
    exact ⟨ws, h3, h4.trans h2⟩
theorem strict_of {cs : List Nat} (h : cs.Pairwise (· ≤ ·)) (hn : cs.Nodup) : cs.Pairwise (· < ·) := by
  refine (h.and hn).imp ?_
  intro a b ⟨h1, h2⟩
  exact Nat.lt_of_le_of_ne h1 h2
theorem joinS_sg (cs : List Nat) : Str.join ("" : Str) (cs.map sg) = ofL cs := by
  rw [← join_sg]
  exact (StrLaws.glued_eq_join _ _).symm
theorem pick_ok {top : Int} {S : Sto} {P : D → Sto → Prop} {X : Ex → Sto → Prop} (h1 : 1 ≤ top) (h2 : top ≤ 10 ^ 60) (h : ∀ d : Int, 0 ≤ d → d < top → P (.int d) S) : mPick [.bag, .int top] S P X := by
  refine ⟨h1, ?_, h⟩
  have h3 : top.natAbs < 2 ^ 200 := by
    have : (10 : Int) ^ 60 < 2 ^ 200 := by decide
    omega
  have := (Nat.log2_lt (by omega)).mpr h3
  omega
theorem cutL_n {τ : Type} (xs : List τ) (a : Nat) : cutL xs (some (a : Int)) none = xs.drop a := by
  unfold cutL
  rw [HT.sIx_nat, HT.sIx_none]
  by_cases h : a ≤ xs.length
  · rw [Nat.min_eq_left h, List.take_of_length_le (by rw [List.length_drop]; omega)]
  · have e : min a xs.length = xs.length := by omega
    rw [e, List.drop_of_length_le (Nat.le_refl _), List.drop_of_length_le (show xs.length ≤ a by omega)]
    simp
theorem cutL_to {τ : Type} (xs : List τ) (b : Nat) : cutL xs none (some (b : Int)) = xs.take b := by
  unfold cutL
  rw [HT.sIx_nat, HT.sIx_none]
  by_cases h : b ≤ xs.length
  · rw [Nat.min_eq_left h]; rfl
  · have e : min b xs.length = xs.length := by omega
    rw [e]
    simp
    exact (List.take_of_length_le (by omega)).symm
theorem cutL_1 {τ : Type} (xs : List τ) : cutL xs (some 1) none = xs.drop 1 := cutL_n xs 1
theorem cutL_1c {τ : Type} (x : τ) (xs : List τ) : cutL (x :: xs) (some 1) none = xs := cutL_n (x :: xs) 1
theorem cutL_1n {τ : Type} : cutL ([] : List τ) (some 1) none = [] := cutL_n [] 1
theorem cutL_all {τ : Type} (xs : List τ) : cutL xs none none = xs := by
  unfold cutL
  simp [HT.sIx_none]
/-! ## objects of the store -/
section
variable {ρ : Env} {S : Sto} {nx : Env → Sto → Prop} {rt : D → Sto → Prop} {bk ct : Env → Sto → Prop} {ex : Ex → Sto → Prop}
theorem x_kFSet {c f : Str} {mv mo : ME} : kFSet c f mv mo ρ S ⟨nx, rt, bk, ct, ex⟩ = mv ρ S (fun x S1 => mo ρ S1 (fun d S2 => match d with
  | .ob i => match S2[i]? with
    | some (.ins c' gs) => c' = c ∧ gs.length < 1000 ∧ nx ρ (S2.set i (.ins c (putD f x gs)))
    | _ => False
  | _ => False) ex) ex := rfl
theorem x_kFAug {c f : Str} {fo : D → D → (D → Prop) → Prop} {mo mv : ME} : kFAug c f fo mo mv ρ S ⟨nx, rt, bk, ct, ex⟩ = mo ρ S (fun d S1 => match d with
  | .ob i => match S1[i]? with
    | some (.ins c' gs) => c' = c ∧ match gs.lookup f with
      | some x => mv ρ S1 (fun y S2 => fo x y fun z => match S2[i]? with
        | some (.ins c2 gs2) => c2 = c ∧ gs2.length < 1000 ∧ nx ρ (S2.set i (.ins c (putD f z gs2)))
        | _ => False) ex
      | none => False
    | _ => False
  | _ => False) ex := rfl
end
theorem x_mMeth {c n : Str} {m : List D → M D} {dd : List D} {mo : ME} {mr : MA} {ρ : Env} {S : Sto} {P : D → Sto → Prop} {X : Ex → Sto → Prop} : mMeth c n m dd mo mr ρ S P X = mo ρ S (fun d S1 => (match S1.fields c d with
  | some gs => gs.lookup n = none
  | none => False) ∧ mr ρ S1 (fun ds S2 => gate m (d :: (ds ++ dd)) S2 P X .mk) X) X := rfl
theorem x_mMake {c : Str} {m : List D → M D} {dd : List D} {mr : MA} {ρ : Env} {S : Sto} {P : D → Sto → Prop} {X : Ex → Sto → Prop} : mMake c m dd mr ρ S P X = mr ρ S (fun ds S1 => gate m (.ob S1.length :: (ds ++ dd)) (S1 ++ [.ins c []]) (fun d S2 => d = .non ∧ P (.ob S1.length) S2) X .mk) X := rfl
theorem x_mMakeV {c : Str} {m : List D → M D} {dd : List D} {mr : MA} {ρ : Env} {S : Sto} {P : D → Sto → Prop} {X : Ex → Sto → Prop} : mMakeV c m dd mr ρ S P X = mr ρ S (fun ds S1 => gate m (.ob S1.length :: (ds ++ dd)) (S1 ++ [.ins c []]) (fun d S2 => d = .non ∧ ∃ gs, S2[S1.length]? = some (.ins c gs) ∧ S2.take S1.length = S1 ∧ D.obsLt S1.length (gs.map (·.2)) = true ∧ P (.ins c (gs.map (·.1)) (gs.map (·.2))) S1) X .mk) X := rfl
theorem ob_get (S : Sto) (o : Ob) : (S ++ [o])[S.length]? = some o := by simp
theorem ob_set (S : Sto) (o o' : Ob) : (S ++ [o]).set S.length o' = S ++ [o'] := by simp
theorem ob_take (S : Sto) (o : Ob) : (S ++ [o]).take S.length = S := by simp
theorem fields_ob (S : Sto) (c c' : Str) (gs : List (Str × D)) : (S ++ [Ob.ins c gs]).fields c' (.ob S.length) = if c = c' then some gs else none := by
  unfold Sto.fields
  simp only [ob_get]
theorem fields_ins (S : Sto) (c c' : Str) (ns : List Str) (ds : List D) : S.fields c' (.ins c ns ds) = if c = c' ∧ ns.length = ds.length then some (ns.zip ds) else none := rfl
theorem putD_nil (f : Str) (d : D) : putD f d [] = [(f, d)] := rfl
theorem putD_cons (f g : Str) (d x : D) (r : List (Str × D)) : putD f d ((g, x) :: r) = if g = f then (g, d) :: r else (g, x) :: putD f d r := rfl
/-! signs that are no letters -/
theorem tl_dash : ("-" : Str).cps.toList = [45] := by decide +kernel
theorem tl_sq : ("[" : Str).cps.toList = [91] := by decide +kernel
theorem tl_cu : ("{" : Str).cps.toList = [123] := by decide +kernel
theorem tl_an : ("<" : Str).cps.toList = [60] := by decide +kernel
theorem nl_dash : (45 ∈ LET) = False := by decide +kernel
theorem nl_sq : (91 ∈ LET) = False := by decide +kernel
theorem nl_cu : (123 ∈ LET) = False := by decide +kernel
theorem nl_an : (60 ∈ LET) = False := by decide +kernel
/-! while, by an invariant that falls -/
/-! tables looked up, step by step -/
@[irreducible] def lkp (kvs : List (Str × V)) (z : Str) : Option V := kvs.lookup z
theorem lkp_eq (kvs : List (Str × V)) (z : Str) : lkp kvs z = kvs.lookup z := by unfold lkp; rfl
theorem lkp_nil (z : Str) : lkp [] z = none := by unfold lkp; rfl
theorem lkp_cons (a z : Str) (v : V) (r : List (Str × V)) : lkp ((a, v) :: r) z = if (z == a) = true then some v else lkp r z := by
  rw [lkp_eq, lkp_eq, List.lookup_cons]
  cases z == a <;> rfl
theorem x_mIxTbl {kvs : List (Str × V)} {ma : ME} {ρ : Env} {S : Sto} {P : D → Sto → Prop} {X : Ex → Sto → Prop} : mIxTbl kvs ma ρ S P X = ma ρ S (fun d S1 => asStr (fun z => match lkp kvs z with
  | some v => P (vD v) S1
  | none => False) d) X := by
  unfold mIxTbl
  simp only [lkp_eq] <;> rfl
theorem x_mInTbl {kvs : List (Str × V)} {ma : ME} {ρ : Env} {S : Sto} {P : D → Sto → Prop} {X : Ex → Sto → Prop} : mInTbl kvs ma ρ S P X = ma ρ S (fun d S1 => asStr (fun z => P (.bl (lkp kvs z).isSome) S1) d) X := by
  unfold mInTbl
  simp only [lkp_eq]
theorem x_mNotInTbl {kvs : List (Str × V)} {ma : ME} {ρ : Env} {S : Sto} {P : D → Sto → Prop} {X : Ex → Sto → Prop} : mNotInTbl kvs ma ρ S P X = ma ρ S (fun d S1 => asStr (fun z => P (.bl (!(lkp kvs z).isSome)) S1) d) X := by
  unfold mNotInTbl
  simp only [lkp_eq]
theorem x_mDispGet {kvs : List (Str × V)} {v0 : V} {ma : ME} {ρ : Env} {S : Sto} {P : D → Sto → Prop} {X : Ex → Sto → Prop} : mDispGet kvs v0 ma ρ S P X = ma ρ S (fun d S1 => asStr (fun z => P (vD ((lkp kvs z).getD v0)) S1) d) X := by
  unfold mDispGet
  simp only [lkp_eq]
end Nc

namespace Nc
open PySem PySem.Spec PyProof.Rows L2
/-! ## texts compared; comprehensions, sets, dicts, plainly -/
def fS (g : Str → Str → Bool) : D → D → (D → Prop) → Prop
  | .str a, .str b, P => P (.bl (g a b))
  | _, _, _ => False
section
variable {Z : ZP} {K : PySem.W.Frag}
theorem od_S {g : Str → Str → Bool} : OpD Z K (fun x y H Q => ∃ i j, x = .str i ∧ y = .str j ∧ Q (.bl (g i j)) H) (fS g) := fun mg E C α ow σ ρ H S x y a b P Q e sa sb hm k => by
  unfold fS at hm
  split at hm
  · exact ⟨_, _, sa.strI.1, sb.strI.1, k _ _ _ hm e.go (.bl _)⟩
  · exact hm.elim
end
abbrev gGe : Str → Str → Bool := fun i j => !decide (i.cps.toList < j.cps.toList)
abbrev loG {τ : Type} (f : TgM) (mt : MT) (nx : EmD τ) (ρ : Env) (ds : List D) (t : τ) (S : Sto) (P : τ → Sto → Prop) (_ : Tg P) : Prop := loD f mt nx ρ ds t S P
abbrev dcG (f : TgM) (mt : MT) (mk mv : ME) (ρ : Env) (ds ks vs : List D) (S : Sto) (P : D → Sto → Prop) (_ : Tg P) : Prop := dcD f mt mk mv ρ ds ks vs S P
theorem x_mSc {mi : MI} {f : TgM} {mt : MT} {vs : List Nat} {r : List CD} {me : ME} {ρ : Env} {S : Sto} {P : List D → Sto → Prop} {X : Ex → Sto → Prop} : mSc mi f mt vs r me ρ S P X = ((∀ j ∈ vs, isOw ρ[j]? = false) ∧ mi ρ S (fun ds S1 => loG f mt (stD (emdS me) r) (wipeD ρ vs) ds [] S1 P .mk) X) := rfl
theorem x_mGen {τ : Type} {mi : MI} {f : TgM} {mt : MT} {vs : List Nat} {r : List CD} {m : EmD τ} {t0 : τ} {fin : τ → D} {ρ : Env} {S : Sto} {P : D → Sto → Prop} {X : Ex → Sto → Prop} : mGen mi f mt vs r m t0 fin ρ S P X = ((∀ j ∈ vs, isOw ρ[j]? = false) ∧ mi ρ S (fun ds S1 => loG f mt (stD m r) (wipeD ρ vs) ds t0 S1 (fun t S2 => P (fin t) S2) .mk) X) := rfl
theorem x_mDc {mi : MI} {f : TgM} {mt : MT} {mk mv : ME} {vs : List Nat} {ρ : Env} {S : Sto} {P : D → Sto → Prop} {X : Ex → Sto → Prop} : mDc mi f mt mk mv vs ρ S P X = ((∀ j ∈ vs, isOw ρ[j]? = false) ∧ mi ρ S (fun ds S1 => ds.length ≤ sizeLine ∧ dcG f mt mk mv (wipeD ρ vs) ds [] [] S1 P .mk) X) := rfl
section
variable {ρ : Env} {S : Sto} {nx : Env → Sto → Prop} {rt : D → Sto → Prop} {bk ct : Env → Sto → Prop} {ex : Ex → Sto → Prop}
theorem x_kParOw {i j : Nat} {ma mb : ME} : kParOw i j ma mb ρ S ⟨nx, rt, bk, ct, ex⟩ = ma ρ S (fun a S1 => mb ρ S1 (fun b S2 => i ≠ j ∧ j < ρ.length ∧ nx ((ρ.set i (.va a)).set j (.ow b)) S2) ex) ex := rfl
theorem x_kDPut {i : Nat} {mk mv : ME} : kDPut i mk mv ρ S ⟨nx, rt, bk, ct, ex⟩ = mv ρ S (fun v S1 => match ρ[i]? with
  | some (.ow (.dic ks ds)) => mk ρ S1 (fun k S2 => dcov ks k = true ∧ ks.length < sizeLine ∧ nx (ρ.set i (.ow (.dic (dput ks ds k v).1 (dput ks ds k v).2))) S2) ex
  | _ => False) ex := rfl
theorem x_kFrzD {i : Nat} {m : MS} : kFrzD i m ρ S ⟨nx, rt, bk, ct, ex⟩ = (match ρ[i]? with
  | some (.ow (.dic ks ds)) => m (ρ.set i (.va (.dic ks ds))) S ⟨nx, rt, bk, ct, ex⟩
  | _ => False) := rfl
end
/-- a set by a comprehension -/
theorem loD_set {τ : Type} {f : TgM} {mt : MT} {me : ME} {ρ : Env} {S : Sto} {P : List D → Sto → Prop} (r o : τ → D) (xs : List τ) (h : ∀ x ∈ xs, ∀ (P : D → Sto → Prop) (N : Sto → Prop), P (o x) S → f (r x) ρ fun ρ2 => mt ρ2 S (fun b S1 => if b = true then me ρ2 S1 (fun y S2 => P y S2) noX else N S1) noX)
    (hs : ∀ ys x zs, xs = ys ++ x :: zs → ∀ P : List D → Prop, P (ys.map o ++ [o x]) → setPut (ys.map o) (o x) P) (hP : P (xs.map o) S) : loD f mt (stD (emdS me) []) ρ (xs.map r) [] S P := by
  have g : ∀ (rest dn : List τ), xs = dn ++ rest → loD f mt (stD (emdS me) []) ρ (rest.map r) (dn.map o) S P := by
    intro rest
    induction rest with
    | nil =>
      intro dn e
      rw [List.append_nil] at e
      subst e
      exact hP
    | cons x rest ih =>
      intro dn e
      have e2 : xs = (dn ++ [x]) ++ rest := by rw [e]; simp
      refine h x (by rw [e]; simp) (fun y S2 => setPut (dn.map o) y fun t' => loD f mt (stD (emdS me) []) ρ (rest.map r) t' S2 P) (fun S1 => loD f mt (stD (emdS me) []) ρ (rest.map r) (dn.map o) S1 P) ?_
      refine hs dn x rest e _ ?_
      have := ih (dn ++ [x]) e2
      rw [List.map_append] at this
      exact this
  exact g xs [] rfl
/-- a dict looked up -/
theorem dlook_map {τ : Type} (kf vf : τ → D) (k : D) : ∀ xs : List τ, dlook (xs.map kf) (xs.map vf) k = (xs.find? fun x => decide ((kf x).nk = k.nk)).map vf
  | [] => rfl
  | x :: xs => by
    rw [List.map_cons, List.map_cons, dlook_cons, List.find?_cons, dlook_map kf vf k xs]
    by_cases h : (kf x).nk = k.nk
    · rw [if_pos h, decide_eq_true h]; rfl
    · rw [if_neg h, decide_eq_false h]
end Nc

namespace Nc
open PySem PySem.Spec PyProof.Rows L2
/-! ## xs.index(i) of a list of ints -/
section
variable {Z : ZP} {K : PySem.W.Frag} {mg : Str → Option Value} {E : XK} {ta tb : TE} {ma mb : ME}
def mLIdx (ma mb : ME) : ME := fun ρ S P X => ma ρ S (fun d S1 => asL (fun ds => ∃ ns : List Int, ds = ns.map D.int ∧ mb ρ S1 (fun y S2 => ∃ k : Int, S2.rs y = .int k ∧ k ∈ ns ∧ P (.int (ns.idxOf k : Nat)) S2) X) d) X
theorem de_lidx (ha : DE Z K mg E ta ma) (hb : DQ Z K mg E tb mb) : DE Z K mg E (tBM K "list" (rIndex K) ta (tCons tb tNil)) (mLIdx ma mb) := fun C α ow σ ρ H S P X Q e hm hx k =>
  ha C α ow σ ρ H S _ X _ e hm hx fun d v α1 H1 S1 hm1 g1 r1 => by
    unfold asL at hm1
    split at hm1
    · obtain ⟨ns, rfl, hm1⟩ := hm1
      obtain ⟨a, xs, rfl, h1, h2, h3⟩ := Rp.lstI r1
      have ex := RpAll.intsI h3
      subst ex
      refine ⟨(show tyV K "list" (.ref a) H1 from .inl ⟨rfl, _, SqL.of (hid_same _ _ h1)⟩), hb C α1 ow σ ρ H1 S1 _ X _ (e.step g1) hm1 hx fun y u α2 H2 S2 hm2 g2 s2 => ?_⟩
      obtain ⟨kk, e1, hk, p⟩ := hm2
      have s2 := s2.rs g2.st
      rw [e1] at s2
      have hlt := List.idxOf_lt_length_iff.mpr hk
      have hat : ns[ns.idxOf kk]? = some kk := by rw [List.getElem?_eq_getElem hlt, List.getElem_idxOf]
      refine ⟨a, ns.map V.int, .int kk, ns.idxOf kk, .int kk, rfl, by rw [s2.intI], SqL.of (hid_same _ _ (hid_fr g2.fr _ _ h1)), rfl, ?_, by rw [List.getElem?_map, hat]; rfl, by simp [eqV], fun m z' hm3 hz => ?_, k _ _ _ _ _ p (g1.trans g2) (.int _)⟩
      · rw [List.all_map, List.all_eq_true]
        exact fun _ _ => rfl
      · rw [List.getElem?_map] at hz
        cases hq : ns[m]? with
        | none => rw [hq] at hz; cases hz
        | some w =>
          rw [hq] at hz
          cases hz
          have hne : w ≠ kk := fun z => by
            subst z
            have := List.not_of_lt_findIdx (p := (· == w)) (xs := ns) (i := m) hm3
            obtain ⟨h4, h5⟩ := List.getElem?_eq_some_iff.mp hq
            rw [h5] at this
            simp at this
          show eqV (.int w) (.int kk) = false
          simp [eqV, hne]
    · exact hm1.elim
end
end Nc

namespace Nc
open PySem PySem.Spec PyProof.Rows L2
/-! ## a tuple times an int -/
section
variable {Z : ZP} {K : PySem.W.Frag} {mg : Str → Option Value} {E : XK}
def fRepT : D → D → (D → Prop) → Prop
  | .tup ds, .int k, P => (ds = [] ∨ 1 ≤ k) ∧ -(2 ^ 63) ≤ k ∧ k ≤ 1000 ∧ ds.length ≤ 1000 ∧ P (.tup (List.replicate k.toNat ds).flatten)
  | _, _, _ => False
/-! ## len of an own object -/
def isIns (S : Sto) (c : Str) (d : D) : Prop := ∃ gs, S.fields c d = some gs
def lnK (P : D → Sto → Prop) (y : D) (S : Sto) : Prop := ∃ n : Int, y = .int n ∧ 0 ≤ n ∧ n < 2 ^ 63 ∧ P (.int n) S
def mLenO (c : Str) (m : List D → M D) (ma : ME) : ME := fun ρ S P X => ma ρ S (fun d S1 => isIns S1 c d ∧ m [d] S1 (lnK P) X) X
end
/-! ## x(lambda: ..), at once -/
theorem pe_lamN {X : Cx} {TT : TTy} {x a : Str} {g : Addr} {k : Nat} {pg : Arguments} {bg : List Stmt} {sg : Scope} {fd : FuncData} {kws : List (Str × V)} {Ng : List Str} {ps : Arguments} {b : Expr} {sc : Scope} {lpos : Pos} {tb : XK → TE} {T : List (Addr × Str)} {p pos : Pos}
    (F : FunD X.K x x pg bg sg [] kws g fd) (hb : Binds X.K fd [a] []) (Sg : FnScope Ng [a] sg) (hNg : Ng[0]? = some a) (hva : Vis sg a)
    (hg : Gl X x) (hm : X.mg x = some (.ref g)) (hG : ∀ cdg, GivesL X.prog X.w X.K X.mg X.base X.A X.stack Ng x sg g cdg bg a (X.env.qual ++ "<lambda>") TT) (hr : Room (k + 2) X.A) (TB : TbAt X T) (L : LamP X.N X.env.scope sc) (hdef : defaultsOf ps X.env = ([], []))
    (hbind : ∀ (q : Str) (cl : List (Str × Addr)) (doc pm cv ctv : Value), bindArgs (PySem.W.kdv_fn "<lambda>" q ps (.expr b) sc cl .none doc pm cv ctv) ⟨[], []⟩ = pure [])
    (hbody : ∀ (A : Around) (outer : List PySem.Env) (s : Shared) (H : Hp) (E : XK) (f c' : Addr), Room k (A.deeper (LamX.lamEnv X sc s.heap.objs.size f c')) → PE (LamX.lamCx X A outer s H E sc f c') b (tb E))
    (hdb : (x == ("__debug__" : Str)) = false := by decide) (hd : (a == ("__debug__" : Str)) = false := by decide) (hcd : (a == ("__classdict__" : Str)) = false := by decide) :
    PE X (.Call (.Name x p) [.Lambda ps b sc lpos] [] pos) (tCallL TT (X.env.qual ++ "<lambda>") (fun sc => cloFrom X.env.cells sc.names []) [(⟨ps, b, sc, []⟩, tb)] (tMkL T (X.env.qual ++ "<lambda>") ⟨ps, b, sc, []⟩ (cloFrom X.env.cells sc.names []))) :=
  pe_callL F hb Sg hNg hva hg hm hG hr (lam_one ⟨L, .no rfl hbind, hbody⟩) (pe_lambda (t := ⟨ps, b, sc, []⟩) TB L (.no rfl hdef)) (by rfl) hdb hd hcd
end Nc

namespace Nc
open PySem PySem.Spec PyProof.Rows L2
/-! ## lambdas kept as data, and called one behind the other -/
section
variable {Z : ZP} {K : PySem.W.Frag} {mg : Str → Option Value} {E : XK}
def mapLm (RC : List Str) (cds : List (List Str × Option Str)) (ms : List ME) (ρ : Env) : List D → List D → Sto → (List D → Sto → Prop) → Prop
  | [], acc, S, P => P acc S
  | .clo j :: ds, acc, S, P => match ms[j]? with
    | some m => acc.length < sizeLine ∧ m ρ S (fun _ S1 => mapLm RC cds ms ρ ds (acc ++ [.non]) S1 P) (fun x S1 => catD RC cds x (fun d S2 => mapLm RC cds ms ρ ds (acc ++ [d]) S2 P) S1)
    | none => False
  | _, _, _, _ => False
/-- [x(y) for y in doors] -/
def mMapLam (RC : List Str) (cds : List (List Str × Option Str)) (ms : List ME) (mi : MI) (v : Nat) : ME := fun ρ S P X => (isOw ρ[v]? = false ∧ v < ρ.length) ∧ mi ρ S (fun ds S1 => mapLm RC cds ms (shut ρ) ds [] S1 fun out S2 => P (.lst out) S2) X
end
end Nc

-- @import HandS.MakeKw
namespace Nc
open PySem PySem.Spec PyProof.Rows L2
/-! ## calls whose last parameters are told by their names -/
section
variable {Z : ZP} {K : PySem.W.Frag} {mg : Str → Option Value} {E : XK} {tr tk : TA} {mr mk : MA}
def mCallN (n k : Nat) (m : List D → M D) (mr mk : MA) : ME := fun ρ S P X => mr ρ S (fun ds S1 => ds.length = n ∧ mk ρ S1 (fun zs S2 => zs.length = k ∧ m (ds ++ zs) S2 P X) X) X
/-- C(.., k = v) -/
def mMakeN (c : Str) (n k : Nat) (m : List D → M D) (mr mk : MA) : ME := fun ρ S P X => mr ρ S (fun ds S1 => ds.length = n ∧ mk ρ S1 (fun zs S2 => zs.length = k ∧ m (.ob S2.length :: (ds ++ zs)) (S2 ++ [.ins c []]) (fun d S3 => d = .non ∧ P (.ob S2.length) S3) X) X) X
def mUp (ma : ME) : ME := fun ρ S P X => ma ρ S (fun d S1 => asStr (fun z => z.length ≤ 5592405 ∧ P (.str (Txt.upper z)) S1) d) X
/-- -x -/
def mNeg (ma : ME) : ME := fun ρ S P X => ma ρ S (fun d S1 => asI (fun z => P (.int (-z)) S1) d) X
end
end Nc

namespace Nc
open PySem PySem.Spec PyProof.Rows L2
/-! ## d.setdefault(k, x), len(d) -/
section
variable {Z : ZP} {K : PySem.W.Frag} {mg : Str → Option Value} {β : BG} {α : List Addr} {H : Hp}
theorem DSX.mono {P : Program} {w : World} {a : Addr} {y z : V} {G G' : Option V → Hp → Prop} (h : DSX P w K H a y z G) (g : ∀ r H', G r H' → G' r H') : DSX P w K H a y z G' := by
  rcases h with ⟨kvs, k, h1, h2, h3, q⟩ | ⟨kvs, κ, b, h1, h2, h3, h4, h5, q⟩ | ⟨k, h1, h2, h3, q⟩
  · exact .inl ⟨kvs, k, h1, h2, h3, g _ _ q⟩
  · exact .inr (.inl ⟨kvs, κ, b, h1, h2, h3, h4, h5, g _ _ q⟩)
  · exact .inr (.inr ⟨k, h1, h2, h3, g _ _ q⟩)
theorem OwB.isDX {B : Addr → Prop} {a : Addr} {ks ds : List D} (h : OwB Z K mg β α B H a (.dic ks ds)) : IsDX Z.p Z.w K H a := h.dv.isD hid_same
end
section
variable {Z : ZP} {K : PySem.W.Frag} {mg : Str → Option Value} {E : XK} {F : Bool} {td tk tv : TE} {md mk mv : ME}
/-- x.setdefault(k, v), x an own dict -/
def kSetd (i : Nat) (mk mv : ME) : MS := fun ρ S e => match ρ[i]? with
  | some (.ow (.dic ks ds)) => mk ρ S (fun k S1 => mv ρ S1 (fun v S2 => dcov ks k = true ∧ ks.length < sizeLine ∧ e.nx (if (dlook ks ds k).isSome = true then ρ else ρ.set i (.ow (.dic (dput ks ds k v).1 (dput ks ds k v).2))) S2) e.ex) e.ex
  | _ => False
/-- len(d) -/
def mLenD (md : ME) : ME := fun ρ S P X => md ρ S (fun d S1 => asDic (fun ks _ => P (.int (ks.length : Nat)) S1) (S1.rs d)) X
/-- xs.index(b) of a list of truths -/
def mLIdxB (ma mb : ME) : ME := fun ρ S P X => ma ρ S (fun d S1 => asL (fun ds => ∃ ns : List Bool, ds = ns.map D.bl ∧ mb ρ S1 (fun y S2 => ∃ k : Bool, S2.rs y = .bl k ∧ k ∈ ns ∧ P (.int (ns.idxOf k : Nat)) S2) X) d) X
end
end Nc

namespace Nc
open PySem PySem.Spec PyProof.Rows L2
/-! ## own sets of ints and texts: set(), add, in -/
section
variable {Z : ZP} {K : PySem.W.Frag} {mg : Str → Option Value} {E : XK} {F : Bool} {ta : TE} {ma : ME}
theorem any_kD2 (κs : List Key) (κ : Key) : ((κs.map kD).any fun k' => decide (k'.nk = (kD κ).nk)) = κs.any fun k' => decide (k' = κ) := by
  induction κs with
  | nil => rfl
  | cons p κs ih =>
    rw [List.map_cons, List.any_cons, List.any_cons, ih, nk_kD, nk_kD]
    by_cases e : p = κ
    · simp [e]
    · have : ¬ kN p = kN κ := fun z => e (kN_inj z)
      simp [e, this]
theorem df_set0 : DF Z K mg E (tCB (rSet0K Z.p Z.w) tNil) (mC (.pr [.lst []])) := fun C α ow σ ρ H S P X Q e hm hx k =>
  ⟨rfl, fun p hp => k _ p _ _ _ hm (e.nw hp) hp ⟨e.npα hp, fun B hw => .st (κs := []) upd_same (fun _ => rfl) (Nat.zero_le _), e.os hp⟩⟩
/-- x.add(k), x an own set -/
def kSAdd (i : Nat) (ma : ME) : MS := fun ρ S e => match ρ[i]? with
  | some (.ow (.pr [.lst ks])) => ma ρ S (fun k S1 => k.flatK = true ∧ ks.length < 4000 ∧ e.nx (ρ.set i (.ow (.pr [.lst (ks ++ [k])]))) S1) e.ex
  | _ => False
theorem ds_sadd {i : Nat} (ha : DE Z K mg E ta ma) : DS Z K mg E F (tDrop (tSAddK Z.p Z.w (tVar i) (tCons ta tNil))) (kSAdd i ma) := fun C α ow σ ρ H S e Dn ev nw hm k => by
  unfold kSAdd at hm
  split at hm
  · rename_i ks hd
    have q := ev.sl i
    rw [hd] at q
    generalize hw : ow i = w at q
    generalize hs : σ[i]? = s at q
    cases q with
    | @ow a _ q =>
      have st0 : ∃ S n, H a = some (SetK Z.p Z.w a S n) := by
        generalize hks : D.pr [D.lst ks] = dd at q
        cases q with
        | @st S0 n κs h1 h2 h3 => exact ⟨S0, n, h1⟩
        | _ => cases hks
      obtain ⟨S0, n0, h0⟩ := st0
      refine ⟨_, hs, ⟨a, S0, n0, rfl, h0⟩, ha C α ow σ ρ H S _ _ _ ev hm k.ex fun dk y α1 H1 S1 p1 g1 r1 => ?_⟩
      obtain ⟨hf, hl, p1⟩ := p1
      obtain ⟨κ, rfl, rfl⟩ := flatK_of r1 hf
      have ev1 := ev.step g1
      have q1 := q.fr ev g1.fr hw
      generalize hks : D.pr [D.lst ks] = dd at q1
      cases q1 with
      | @st S1' n κs h1 h2 h3 =>
        cases hks
        rw [List.length_map] at hl
        refine ⟨a, κ, S1', n, rfl, rfl, h1, by have : scanBound = 4096 := rfl; omega, ?_⟩
        have hb : OwB Z K mg C.β α1 (C.hd α1 ow) (upd H1 a (SetK Z.p Z.w a (fun j => S1' j || decide (j = κ)) (if S1' κ = true then n else n + 1))) a (.pr [.lst (κs.map kD ++ [kD κ])]) := by
          rw [show κs.map kD ++ [kD κ] = (κs ++ [κ]).map kD by rw [List.map_append]; rfl]
          refine .st upd_same (fun j => ?_) ?_
          · rw [h2 j, List.any_append]
            by_cases z : j = κ
            · simp [z]
            · have : ¬ κ = j := fun y => z y.symm
              simp [z, this]
          · rw [List.length_append, List.length_singleton]
            split <;> omega
        exact k.nx α1 ow σ _ _ S1 p1 (ev1.write hw (nw i a hw) hb) nw (g1.aft.trans (aft_write hw))
      | _ => cases hks
  · exact hm.elim
/-- k in x, x an own set -/
def mSIn (neg : Bool) (i : Nat) (ma : ME) : ME := fun ρ S P X => ma ρ S (fun k S1 => match ρ[i]? with
  | some (.ow (.pr [.lst ks])) => k.flatK = true ∧ P (.bl (if neg then !(ks.any fun k' => decide (k'.nk = k.nk)) else ks.any fun k' => decide (k'.nk = k.nk))) S1
  | _ => False) X
theorem de_sin {neg : Bool} {i : Nat} (ha : DE Z K mg E ta ma) : DE Z K mg E (tOp (rSInK Z.p Z.w neg) ta (tVar i)) (mSIn neg i ma) := fun C α ow σ ρ H S P X Q e hm hx k =>
  ha C α ow σ ρ H S _ X _ e hm hx fun dk y α1 H1 S1 p1 g1 r1 => by
    have e1 := e.step g1
    split at p1
    · rename_i ks hd
      have q := e1.sl i
      rw [hd] at q
      generalize hw : ow i = w at q
      generalize hs : σ[i]? = s at q
      cases q with
      | @ow a _ q =>
        generalize hks : D.pr [D.lst ks] = dd at q
        cases q with
        | @st S0 n κs h1 h2 h3 =>
          cases hks
          obtain ⟨hf, p1⟩ := p1
          obtain ⟨κ, rfl, rfl⟩ := flatK_of r1 hf
          refine ⟨_, hs, κ, a, S0, n, rfl, rfl, h1, ?_⟩
          rw [h2 κ, ← any_kD2]
          exact k _ _ _ _ _ p1 g1 (.bl _)
        | _ => cases hks
    · exact p1.elim
end
end Nc

namespace Nc
open PySem PySem.Spec PyProof.Rows L2
/-! ## dict(d), d.clear(), d == e on data -/
section
variable {Z : ZP} {K : PySem.W.Frag} {mg : Str → Option Value} {E : XK} {C : Cy Z K mg E} {α α' : List Addr} {ow : OwS} {σ : L2.St} {ρ : Env} {H H' : Hp} {S S' : Sto}
/-- a dict of flat keys, as it lies -/
def FlD (Z : ZP) (K : PySem.W.Frag) (mg : Str → Option Value) (β : BG) (α : List Addr) (Hh H : Hp) (a : Addr) (ks ds : List D) : Prop := ∃ kvs : List (Key × V), DkR Z.p Z.w H a kvs ∧ kvs.length ≤ sizeLine ∧ KsL kvs ∧ ks = kvs.map (fun p => kD p.1) ∧ RpAll Z K mg β α Hh (kvs.map (·.2)) ds
theorem OwB.fl {β : BG} {B : Addr → Prop} {a : Addr} {ks ds : List D} (h : OwB Z K mg β α B H a (.dic ks ds)) (hf : ks.all D.flatK = true) : FlD Z K mg β α (hid B H) H a ks ds := by
  cases h with
  | dK h1 h2 hl h3 => exact ⟨_, .inl (.inl h1), h2, hl, rfl, h3⟩
  | @dN kvs _ _ h1 h2 h3 h4 h5 =>
    have e := dN_all h3 hf
    subst e
    cases h3
    exact ⟨[], .inr ⟨rfl, .inl h1⟩, Nat.zero_le _, (fun _ q => nomatch q), rfl, h5⟩
theorem Sh.fl {v : V} {ks ds : List D} (h : Sh C α ow H v (.dic ks ds)) (hf : ks.all D.flatK = true) : ∃ a, v = .ref a ∧ FlD Z K mg C.β α (hid (C.hd α ow) H) H a ks ds := by
  rcases h with h | ⟨i, a, _, rfl, h⟩ | ⟨a, _, rfl, h⟩
  · cases h with
    | @dK a _ _ h1 h2 hl h3 =>
      obtain ⟨o, h1⟩ := h1
      exact ⟨a, rfl, _, .inl (.inr ⟨o, hid_same _ _ h1⟩), h2, hl, rfl, h3⟩
    | @dN a kvs _ _ h1 h2 h3 h4 h5 =>
      obtain ⟨o, h1⟩ := h1
      have e := dN_all h3 hf
      subst e
      cases h3
      exact ⟨a, rfl, [], .inr ⟨rfl, .inr ⟨o, hid_same _ _ h1⟩⟩, Nat.zero_le _, (fun _ q => nomatch q), rfl, h5⟩
  · exact ⟨a, rfl, h.fl hf⟩
  · exact ⟨a, rfl, h.fl hf⟩
variable {F : Bool} {td te : TE} {md me : ME}
/-- dict(d): a copy -/
def mDictF (md : ME) : ME := fun ρ S P X => md ρ S (fun d S1 => asDic (fun ks ds => ks.all D.flatK = true ∧ P (.dic ks ds) S1) (S1.rs d)) X
theorem df_dictF (hd : DQ Z K mg E td md) : DF Z K mg E (tCB (rDictX Z.p Z.w) (tCons td tNil)) (mDictF md) := fun C α ow σ ρ H S P X Q e hm hx k =>
  hd C α ow σ ρ H S _ X _ e hm hx fun d x α1 H1 S1 hm1 g1 s1 => by
    obtain ⟨ks, ds, ed, hf, hv⟩ := asDic_elim hm1
    have sh := s1.rs g1.st
    rw [ed] at sh
    obtain ⟨a, rfl, kvs, dk, hz, hl, rfl, r⟩ := sh.fl hf
    have e1 := e.step g1
    exact ⟨a, kvs, rfl, dk, fun p hp => k _ p _ _ _ hv (g1.trans (e1.nw hp)) (g1.fr.none_ahead hp) ⟨e1.npα hp, fun B hw => .dK upd_same hz hl (rvAll_beside hp r hw), e1.os hp⟩⟩
/-- d.clear() at the term level -/
def tXClr (Z : ZP) (K : PySem.W.Frag) (td : TE) : TE := fun σ H Q => td σ H fun x H1 => ∃ a, x = .ref a ∧ IsDX Z.p Z.w K H1 a ∧ rDClearX Z.p Z.w x [] H1 Q
theorem pe_xclr {X : Cx} {o : Expr} {apos pos : Pos} {ls : Clos} (ho : PE X o td) (hbase : attributeBase o "clear" X.env (eval o X.env) = eval o X.env := by rfl) (hline : (apos.endLine == pos.line) = true := by rfl) : PE X (.Call (.Attribute o "clear" apos) [] [] pos) (tXClr ⟨X.prog, X.w, ls⟩ X.K td) := by
  refine ⟨fun pins s σ H Q I h => ?_⟩
  refine PySem.Call_method0 hbase hline (thn (ho.run pins s σ H _ I h) fun v s1 ⟨x, H1, I1, r1, a, ex, d, q1⟩ => ?_)
  subst ex
  obtain rfl : v = Value.ref a := r1
  obtain ⟨t1, t2, _⟩ := d.at I1
  exact ⟨"dict", _, PySem.F.plainAttrs_dict, PySem.F.slot_dict_clear, PySem.F.type_dict_clear, t1, t2, Calls.callWith_builtin rfl (PySem.evalArgs_none (mt_dclearX pins s1 σ H1 _ [] _ [] Q I1 (show L2.RelV (.ref a) (.ref a) from rfl) .nil q1))⟩
/-- x.clear(), x an object of the store -/
def kClear (md : ME) : MS := fun ρ S e => md ρ S (fun d S1 => match d with
  | .ob i => (match S1[i]? with
    | some (.dic ks _) => ks.all D.flatK = true ∧ e.nx ρ (S1.set i (.dic [] []))
    | _ => False)
  | _ => False) e.ex
theorem ds_clear (hd : DE Z K mg E td md) : DS Z K mg E F (tDrop (tXClr Z K td)) (kClear md) := fun C α ow σ ρ H S e Dn ev nw hm k =>
  hd C α ow σ ρ H S _ _ _ ev hm k.ex fun d v α1 H1 S1 p1 g1 r1 => by
    have ev1 := ev.step g1
    split at p1
    · rename_i i
      obtain ⟨a, rfl, hi⟩ := Rp.obI r1
      split at p1
      · rename_i ks ds hs
        have ob := ev1.st.ob i a _ hi hs
        have hb : ObOk Z K mg C.β α1 (C.hd α1 ow) (upd H1 a (.dK [])) a (.dic [] []) := .dK (kvs := []) upd_same (Nat.zero_le _) (fun _ q => nomatch q) .nil
        have go := ev1.wrOb hi hb
        have own : OwB Z K mg C.β α1 (C.hd α1 ow) H1 a (.dic ks ds) := ob.own rfl
        refine ⟨a, rfl, own.isDX, a, rfl, rfl, ?_, k.nx α1 ow σ _ _ _ p1.2 (ev1.step go) nw (g1.aft.trans go.aft)⟩
        cases own with
        | dK h1 _ _ _ => exact .inl ⟨_, h1⟩
        | dN h1 h2 h3 h4 h5 =>
          have e := dN_all h3 p1.1
          subst e
          exact .inr h1
      · exact p1.elim
    · exact p1.elim
/-! d == e, ints as values -/
def D.isI : D → Bool
  | .int _ => true
  | _ => false
def eqID : Option D → D → Bool
  | some (.int j), .int i => decide (i = j)
  | _, _ => false
def deqD (ka va kb vb : List D) : Bool := ka.length == kb.length && (ka.zip va).all fun p => eqID (dlook kb vb p.1) p.2
theorem ints_of {β : BG} : ∀ {kvs : List (Key × V)} {ds : List D}, RpAll Z K mg β α H (kvs.map (·.2)) ds → ds.all D.isI = true → IntsD kvs
  | [], _, _, _ => fun _ q => nomatch q
  | p :: kvs, _, .cons r t, h => by
    rw [List.all_cons, Bool.and_eq_true_iff] at h
    intro q hq
    rcases List.mem_cons.mp hq with rfl | hq
    · have r : Rp Z K mg β α H q.2 _ := r
      revert r
      generalize q.2 = v
      intro r
      cases r <;> first | exact ⟨_, rfl⟩ | cases h.1
    · exact ints_of t h.2 q hq
theorem dlook_in {ks ds : List D} {k d : D} (h : dlook ks ds k = some d) : d ∈ ds := by
  unfold dlook at h
  rw [Option.map_eq_some_iff] at h
  obtain ⟨p, h1, rfl⟩ := h
  exact (List.of_mem_zip (List.mem_of_find?_eq_some h1)).2
theorem deq_one {β : BG} {kvb : List (Key × V)} {vb : List D} (rb : RpAll Z K mg β α H (kvb.map (·.2)) vb) (κ : Key) {v : V} {d : D} (r : Rp Z K mg β α H v d) (hd : d.isI = true) (hv : vb.all D.isI = true) : eqIV (valV kvb κ) v = eqID (dlook (kvb.map fun p => kD p.1) vb (kD κ)) d := by
  have l := look_rel (kvs := kvb.map fun p => (kN p.1, p.2)) (ks := kvb.map fun p => kD p.1) (ds := vb) (by simp [nk_kD]) (by rw [List.map_map]; exact rb) (nk_kD κ)
  rw [valV_kN] at l
  have ib := ints_of rb hv
  cases q : dlook (kvb.map fun p => kD p.1) vb (kD κ) with
  | none =>
    simp only [q] at l
    rw [l]
    cases d <;> rfl
  | some d2 =>
    simp only [q] at l
    obtain ⟨v2, e2, r2⟩ := l
    rw [e2]
    obtain ⟨p, hp, ep⟩ := valV_mem e2
    obtain ⟨i, ei⟩ := ib p hp
    rw [ep] at ei
    subst ei
    have h2 : d2.isI = true := List.all_eq_true.mp hv d2 (dlook_in q)
    cases r <;> first | cases hd | skip
    cases r2 <;> first | rfl | cases h2
theorem deq_ok {β : BG} {kvb : List (Key × V)} {vb : List D} (rb : RpAll Z K mg β α H (kvb.map (·.2)) vb) (hb : vb.all D.isI = true) : ∀ {kva : List (Key × V)} {va : List D}, RpAll Z K mg β α H (kva.map (·.2)) va → va.all D.isI = true →
    (kva.all fun p => eqIV (valV kvb p.1) p.2) = ((kva.map fun p => kD p.1).zip va).all fun p => eqID (dlook (kvb.map fun p => kD p.1) vb p.1) p.2
  | [], _, .nil, _ => rfl
  | p :: kva, _, .cons r t, h => by
    rw [List.all_cons, Bool.and_eq_true_iff] at h
    rw [List.map_cons, List.zip_cons_cons, List.all_cons, List.all_cons, deq_ok rb hb t h.2, deq_one rb p.1 r h.1 hb]
/-- d == e, d != e -/
def mDEq (neg : Bool) (md me : ME) : ME := fun ρ S P X => md ρ S (fun d S1 => me ρ S1 (fun e S2 => asDic (fun ka va => asDic (fun kb vb => ka.all D.flatK = true ∧ kb.all D.flatK = true ∧ va.all D.isI = true ∧ vb.all D.isI = true ∧ P (.bl (if neg then !deqD ka va kb vb else deqD ka va kb vb)) S2) (S2.rs e)) (S2.rs d)) X) X
theorem de_deq {neg : Bool} (hd : DQ Z K mg E td md) (he : DQ Z K mg E te me) : DE Z K mg E (tOp (rDEqX Z.p Z.w neg) td te) (mDEq neg md me) := fun C α ow σ ρ H S P X Q e hm hx k =>
  hd C α ow σ ρ H S _ X _ e hm hx fun d x α1 H1 S1 hm1 g1 s1 => he C α1 ow σ ρ H1 S1 _ X _ (e.step g1) hm1 hx fun d2 y α2 H2 S2 hm2 g2 s2 => by
    obtain ⟨ka, va, ed, hm2⟩ := asDic_elim hm2
    obtain ⟨kb, vb, ed2, fa, fb, ia, ib, hv⟩ := asDic_elim hm2
    have sa := (s1.go (e.step g1) g2).rs g2.st
    rw [ed] at sa
    have sb := s2.rs g2.st
    rw [ed2] at sb
    obtain ⟨a, rfl, kva, dka, _, _, rfl, ra⟩ := sa.fl fa
    obtain ⟨b, rfl, kvb, dkb, _, _, rfl, rb⟩ := sb.fl fb
    refine ⟨a, b, kva, kvb, rfl, rfl, dka, dkb, ints_of ra ia, ints_of rb ib, ?_⟩
    have q : dEqB kva kvb = deqD (kva.map fun p => kD p.1) va (kvb.map fun p => kD p.1) vb := by
      unfold dEqB deqD
      rw [List.length_map, List.length_map, deq_ok rb ib ra ia]
    rw [q]
    exact k _ _ _ _ _ hv (g1.trans g2) (.bl _)
end
end Nc

namespace Nc
open PySem PySem.Spec PyProof.Rows L2
/-! ## one lemma for each step of a meaning (printed by sh/mkw.py) -/
section
variable {P : D → Sto → Prop} {PL : List D → Sto → Prop} {PB : Bool → Sto → Prop} {PO : Option Int → Sto → Prop} {Q : D → Prop} {X : Ex → Sto → Prop} {S : Sto} {ρ l : Env} {nx : Env → Sto → Prop} {rt : D → Sto → Prop} {bk ct : Env → Sto → Prop} {ma mb mc : ME} {mr : MA} {mt mt' : MT} {mi : MI} {ml mh : MO} {f : TgM} {fs : TgMs} {m m' : MS} {ds es ks : List D} {d d' : D} {i j : Nat} {a : Sl} {KE : Env → Prop}
def gOf (i : Nat) (l : Env) (g : Sl → Prop) : Prop := match l[i]? with
  | some s => g s
  | none => False
def sOf (i : Nat) (s : Sl) (l : Env) (KE : Env → Prop) : Prop := KE (l.set i s)
def r1 (S : Sto) (d : D) (g : D → Prop) : Prop := g (S.rs d)
def rA (S : Sto) (ds : List D) (g : List D → Prop) : Prop := g (ds.map S.rs)
def mvK (c : Str) (P : D → Sto → Prop) (S1 : Sto) (d : D) (S2 : Sto) : Prop := d = .non ∧ ∃ gs, S2[S1.length]? = some (.ins c gs) ∧ S2.take S1.length = S1 ∧ D.obsLt S1.length (gs.map (·.2)) = true ∧ P (.ins c (gs.map (·.1)) (gs.map (·.2))) S1
def moK (P : D → Sto → Prop) (S1 : Sto) (d : D) (S2 : Sto) : Prop := d = .non ∧ P (.ob S1.length) S2
def aOf (ds es : List D) (g : List D → Prop) : Prop := g (ds ++ es)
def wOf (vs : List Nat) (ρ : Env) (KE : Env → Prop) : Prop := KE (wipeD ρ vs)
def sxK (ds : List D) (P : D → Sto → Prop) (S1 : Sto) : Prop := (∃ ns : List Int, ds = ns.map .int ∧ ns.length < 64 ∧ P (.lst ((sortI (foldK ns)).map .int)) S1) ∨
  ∃ ns : List Str, ns ≠ [] ∧ ds = ns.map .str ∧ ns.length < 64 ∧ ∀ ys : List Str, ys.Perm (foldK ns) → sortedS ys = true → P (.lst (ys.map .str)) S1
def noM (S : Sto) (c n : Str) (d : D) : Prop := match S.fields c d with
  | some gs => gs.lookup n = none
  | none => False
theorem w_mVar_z (h : P d S) : mVar 0 (.va d :: l) S P X := h
theorem w_mVar_s (h : mVar i l S P X) : mVar (i + 1) (a :: l) S P X := h
theorem w_mVarQ_z (h : P d S) : mVarQ 0 (.va d :: l) S P X := h
theorem w_mVarQ_o (h : P d S) : mVarQ 0 (.ow d :: l) S P X := h
theorem w_mVarQ_s (h : mVarQ i l S P X) : mVarQ (i + 1) (a :: l) S P X := h
theorem w_mName_z (h : KE (.va d :: l)) : mName 0 d (a :: l) KE := h
theorem w_mName_s (h : mName i d l (fun l' => KE (a :: l'))) : mName (i + 1) d (a :: l) KE := h
theorem w_gOf_z {g : Sl → Prop} (h : g a) : gOf 0 (a :: l) g := h
theorem w_gOf_s {g : Sl → Prop} (h : gOf i l g) : gOf (i + 1) (a :: l) g := h
theorem w_sOf_z {s : Sl} (h : KE (s :: l)) : sOf 0 s (a :: l) KE := h
theorem w_sOf_s {s : Sl} (h : sOf i s l (fun l' => KE (a :: l'))) : sOf (i + 1) s (a :: l) KE := h
theorem w_mC (h : P d S) : mC d ρ S P X := h
theorem w_mNil (h : PL [] S) : mNil ρ S PL X := h
theorem w_mCons (h : ma ρ S (fun d S1 => mr ρ S1 (fun ds S2 => PL (d :: ds) S2) X) X) : mCons ma mr ρ S PL X := h
theorem w_kSeq (h : m ρ S ⟨fun ρ' S' => m' ρ' S' ⟨nx, rt, bk, ct, X⟩, rt, bk, ct, X⟩) : kSeq m m' ρ S ⟨nx, rt, bk, ct, X⟩ := h
theorem w_kAsg (h : ma ρ S (fun d S1 => f d ρ fun ρ' => nx ρ' S1) X) : kAsg ma f ρ S ⟨nx, rt, bk, ct, X⟩ := h
theorem w_mOp {fo : D → D → (D → Prop) → Prop} (h : ma ρ S (fun a S1 => mb ρ S1 (fun b S2 => r1 S2 a fun a' => r1 S2 b fun b' => fo a' b' fun d => P d S2) X) X) : mOp fo ma mb ρ S P X := h
theorem w_r1 {g : D → Prop} (e : S.rs d = d) (h : g d) : r1 S d g := by unfold r1; rw [e]; exact h
theorem w_r1l {g : D → Prop} (e : S[i]? = some (.lst ds)) (h : g (.lst ds)) : r1 S (.ob i) g := by unfold r1 Sto.rs; dsimp only; rw [e]; exact h
theorem w_r1d {g : D → Prop} (e : S[i]? = some (.dic ks ds)) (h : g (.dic ks ds)) : r1 S (.ob i) g := by unfold r1 Sto.rs; dsimp only; rw [e]; exact h
theorem w_rA_nil {g : List D → Prop} (h : g []) : rA S [] g := h
theorem w_rA_cons {g : List D → Prop} (h : r1 S d fun d' => rA S ds fun ds' => g (d' :: ds')) : rA S (d :: ds) g := h
theorem w_aOf_nil {g : List D → Prop} (h : g es) : aOf [] es g := h
theorem w_aOf_cons {g : List D → Prop} (h : aOf ds es fun r => g (d :: r)) : aOf (d :: ds) es g := h
theorem w_mCall {mm : List D → M D} (h : mr ρ S (fun ds S1 => aOf ds es fun as => mm as S1 P X) X) : mCall mm es mr ρ S P X := h
theorem w_mCB {fc : List D → (D → Prop) → Prop} (h : mr ρ S (fun ds S1 => rA S1 ds fun ds' => fc ds' fun d => P d S1) X) : mCB fc mr ρ S P X := h
theorem w_kIf (h : mt ρ S (fun b S1 => if b = true then m ρ S1 ⟨nx, rt, bk, ct, X⟩ else m' ρ S1 ⟨nx, rt, bk, ct, X⟩) X) : kIf mt m m' ρ S ⟨nx, rt, bk, ct, X⟩ := h
theorem w_mB (h : ma ρ S (fun d S1 => asB (fun b => PB b S1) d) X) : mB ma ρ S PB X := h
theorem w_asB {Pb : Bool → Prop} {b : Bool} (h : Pb b) : asB Pb (.bl b) := h
theorem w_ite_t {A B : Prop} (h : A) : if true = true then A else B := by rw [if_pos rfl]; exact h
theorem w_ite_f {A B : Prop} (h : B) : if false = true then A else B := by rw [if_neg Bool.false_ne_true]; exact h
theorem w_ite_nf {A B : Prop} (h : A) : if (!false) = true then A else B := by rw [if_pos (by decide)]; exact h
theorem w_ite_nt {A B : Prop} (h : B) : if (!true) = true then A else B := by rw [if_neg (by decide)]; exact h
theorem w_kRet (h : ma ρ S rt X) : kRet ma ρ S ⟨nx, rt, bk, ct, X⟩ := h
theorem w_kNext (h : nx ρ S) : kNext ρ S ⟨nx, rt, bk, ct, X⟩ := h
theorem w_mNot (h : mt ρ S (fun b S1 => PB (!b) S1) X) : mNot mt ρ S PB X := h
theorem w_mAnd (h : mt ρ S (fun b S1 => if b = true then mt' ρ S1 PB X else PB false S1) X) : mAnd mt mt' ρ S PB X := h
theorem w_mOr (h : mt ρ S (fun b S1 => if b = true then PB true S1 else mt' ρ S1 PB X) X) : mOr mt mt' ρ S PB X := h
theorem w_mAndV (h : ma ρ S (fun d S1 => asB (fun b => if b = true then mb ρ S1 P X else P (.bl false) S1) d) X) : mAndV ma mb ρ S P X := h
theorem w_mOrV (h : ma ρ S (fun d S1 => asB (fun b => if b = true then P (.bl true) S1 else mb ρ S1 P X) d) X) : mOrV ma mb ρ S P X := h
theorem w_mNotV (h : ma ρ S (fun d S1 => asB (fun b => P (.bl (!b)) S1) d) X) : mNotV ma ρ S P X := h
theorem w_mIf (h : mt ρ S (fun b S1 => if b = true then ma ρ S1 P X else mb ρ S1 P X) X) : mIf mt ma mb ρ S P X := h
theorem w_mTup (h : mr ρ S (fun ds S1 => ds.length ≤ sizeLine ∧ P (.tup ds) S1) X) : mTup mr ρ S P X := h
theorem w_mLst (h : mr ρ S (fun ds S1 => ds.length ≤ sizeLine ∧ P (.lst ds) S1) X) : mLst mr ρ S P X := h
theorem w_fI0 {g : Int → Int → D} {i j : Int} (h : Q (g i j)) : fI0 g (.int i) (.int j) Q := h
theorem w_fAdd_i {i j : Int} (h : Q (.int (i + j))) : fAdd (.int i) (.int j) Q := h
theorem w_fAdd_s {x y : Str} (h : x.length + y.length ≤ sizeLine ∧ Q (.str (x ++ y))) : fAdd (.str x) (.str y) Q := h
theorem w_fAdd_l (h : ds.length + es.length ≤ sizeLine ∧ Q (.lst (ds ++ es))) : fAdd (.lst ds) (.lst es) Q := h
theorem w_fAdd_t (h : ds.length + es.length ≤ sizeLine ∧ Q (.tup (ds ++ es))) : fAdd (.tup ds) (.tup es) Q := h
theorem w_fAddS {x y : Str} (h : x.length + y.length ≤ sizeLine ∧ Q (.str (x ++ y))) : fAddS (.str x) (.str y) Q := h
theorem w_fEq_if {i j : Int} (h : Q (.bl (decide (i = j)))) : fEq false (.int i) (.int j) Q := ⟨ok_int _, ok_int _, by show Q (.bl ((D.eqv (.int i) (.int j)))); rw [eqv_int]; exact h⟩
theorem w_fEq_bf {i j : Bool} (h : Q (.bl (decide (i = j)))) : fEq false (.bl i) (.bl j) Q := ⟨ok_bl _, ok_bl _, by show Q (.bl ((D.eqv (.bl i) (.bl j)))); rw [eqv_bl]; exact h⟩
theorem w_fEq_sf {x y : Str} (hx : x.cps.all (· < 0x110000) = true) (hy : y.cps.all (· < 0x110000) = true) (h : Q (.bl (decide (x = y)))) : fEq false (.str x) (.str y) Q := ⟨by rw [ok_str]; exact hx, by rw [ok_str]; exact hy, by show Q (.bl ((D.eqv (.str x) (.str y)))); rw [eqv_str]; exact h⟩
theorem w_fIsf {b : Bool} (hb : d.isN = some b) (h : Q (.bl b)) : fIs false d .non Q := by show (match d.isN with | some b => Q (.bl (if false = true then !b else b)) | none => False); rw [hb]; exact h
theorem w_fEq_it {i j : Int} (h : Q (.bl (!decide (i = j)))) : fEq true (.int i) (.int j) Q := ⟨ok_int _, ok_int _, by show Q (.bl (!(D.eqv (.int i) (.int j)))); rw [eqv_int]; exact h⟩
theorem w_fEq_bt {i j : Bool} (h : Q (.bl (!decide (i = j)))) : fEq true (.bl i) (.bl j) Q := ⟨ok_bl _, ok_bl _, by show Q (.bl (!(D.eqv (.bl i) (.bl j)))); rw [eqv_bl]; exact h⟩
theorem w_fEq_st {x y : Str} (hx : x.cps.all (· < 0x110000) = true) (hy : y.cps.all (· < 0x110000) = true) (h : Q (.bl (!decide (x = y)))) : fEq true (.str x) (.str y) Q := ⟨by rw [ok_str]; exact hx, by rw [ok_str]; exact hy, by show Q (.bl (!(D.eqv (.str x) (.str y)))); rw [eqv_str]; exact h⟩
theorem w_fIst {b : Bool} (hb : d.isN = some b) (h : Q (.bl (!b))) : fIs true d .non Q := by show (match d.isN with | some b => Q (.bl (if true = true then !b else b)) | none => False); rw [hb]; exact h
theorem w_fLen_l (h : Q (.int (ds.length : Nat))) : fLen [.lst ds] Q := h
theorem w_fLen_t (h : Q (.int (ds.length : Nat))) : fLen [.tup ds] Q := h
theorem w_fLen_s {x : Str} (h : Q (.int (x.length : Nat))) : fLen [.str x] Q := h
theorem w_fAll {bs : List Bool} (h : Q (.bl (bs.all id))) : fAll [.lst (bs.map .bl)] Q := ⟨bs, rfl, h⟩
theorem w_fAny {bs : List Bool} (h : Q (.bl (bs.any id))) : fAny [.lst (bs.map .bl)] Q := ⟨bs, rfl, h⟩
theorem w_fSum {ns : List Int} (h : Q (.int ns.sum)) : fSum [.lst (ns.map .int)] Q := ⟨ns, rfl, h⟩
theorem w_fListOf_l (h : Q (.lst ds)) : fListOf [.lst ds] Q := h
theorem w_fListOf_t (h : Q (.lst ds)) : fListOf [.tup ds] Q := h
theorem w_fTupleOf_l (h : Q (.tup ds)) : fTupleOf [.lst ds] Q := h
theorem w_fTupleOf_t (h : Q (.tup ds)) : fTupleOf [.tup ds] Q := h
theorem w_fListText {x : Str} (h : Q (.lst (x.cps.toList.map fun c => .str ⟨#[c]⟩))) : fListText [.str x] Q := h
theorem w_fInt1_i {z : Int} (h : Q (.int z)) : fInt1 [.int z] Q := h
theorem w_fInt1_b {z : Bool} (h : Q (.int (if z then 1 else 0))) : fInt1 [.bl z] Q := h
theorem w_fMax2 {i j : Int} (h : Q (.int (if j > i then j else i))) : fMax2 [.int i, .int j] Q := h
theorem w_fMin2 {i j : Int} (h : Q (.int (if j < i then j else i))) : fMin2 [.int i, .int j] Q := h
theorem w_fIx_l0 {x0 : D} (h : Q x0) : fIx (.lst (x0 :: ds)) (.int 0) Q := by unfold fIx; dsimp only; rw [atI_0]; exact h
theorem w_fIx_t0 {x0 : D} (h : Q x0) : fIx (.tup (x0 :: ds)) (.int 0) Q := by unfold fIx; dsimp only; rw [atI_0]; exact h
theorem w_fIx_l1 {x0 x1 : D} (h : Q x1) : fIx (.lst (x0 :: x1 :: ds)) (.int 1) Q := by unfold fIx; dsimp only; rw [atI_1]; exact h
theorem w_fIx_t1 {x0 x1 : D} (h : Q x1) : fIx (.tup (x0 :: x1 :: ds)) (.int 1) Q := by unfold fIx; dsimp only; rw [atI_1]; exact h
theorem w_fIx_l2 {x0 x1 x2 : D} (h : Q x2) : fIx (.lst (x0 :: x1 :: x2 :: ds)) (.int 2) Q := by unfold fIx; dsimp only; rw [atI_2]; exact h
theorem w_fIx_t2 {x0 x1 x2 : D} (h : Q x2) : fIx (.tup (x0 :: x1 :: x2 :: ds)) (.int 2) Q := by unfold fIx; dsimp only; rw [atI_2]; exact h
theorem w_fIx_t3 {x0 x1 x2 x3 : D} (h : Q x3) : fIx (.tup (x0 :: x1 :: x2 :: x3 :: ds)) (.int 3) Q := by unfold fIx; dsimp only; rw [show L2.atI (x0 :: x1 :: x2 :: x3 :: ds) 3 = some x3 from L2.atI_nat (j := 3) rfl]; exact h
theorem w_fIx_l {z : Int} (ha : L2.atI ds z = some d) (h : Q d) : fIx (.lst ds) (.int z) Q := by unfold fIx; dsimp only; rw [ha]; exact h
theorem w_fIx_t {z : Int} (ha : L2.atI ds z = some d) (h : Q d) : fIx (.tup ds) (.int z) Q := by unfold fIx; dsimp only; rw [ha]; exact h
theorem w_fSlL {lo hi : Option Int} (h : Q (.lst (cutL ds lo hi))) : fSlL (.lst ds) lo hi Q := h
theorem w_fSlT {lo hi : Option Int} (h : Q (.tup (cutL ds lo hi))) : fSlT (.tup ds) lo hi Q := h
theorem w_fSlS {x : Str} {lo hi : Option Int} (h : Q (.str (cutS x lo hi))) : fSlS (.str x) lo hi Q := h
theorem w_fIn_l (h1 : d.flat = true) (h2 : ∀ d ∈ ds, d.flat = true) (h : Q (.bl (inV d.v (ds.map D.v)))) : fIn false d (.lst ds) Q := by unfold fIn; cases d <;> exact ⟨h1, h2, h⟩
theorem w_fIsi_non_int (h : Q (.bl false)) : fIsi [.non, .raw (.ty "int")] Q := by unfold fIsi; refine ⟨by simp only [tyMem, true_or, or_true], ?_⟩; show Q (.bl (isT "NoneType" "int")); simp only [isT_all]; exact h
theorem w_fIsi_non_bool (h : Q (.bl false)) : fIsi [.non, .raw (.ty "bool")] Q := by unfold fIsi; refine ⟨by simp only [tyMem, true_or, or_true], ?_⟩; show Q (.bl (isT "NoneType" "bool")); simp only [isT_all]; exact h
theorem w_fIsi_non_str (h : Q (.bl false)) : fIsi [.non, .raw (.ty "str")] Q := by unfold fIsi; refine ⟨by simp only [tyMem, true_or, or_true], ?_⟩; show Q (.bl (isT "NoneType" "str")); simp only [isT_all]; exact h
theorem w_fIsi_non_tuple (h : Q (.bl false)) : fIsi [.non, .raw (.ty "tuple")] Q := by unfold fIsi; refine ⟨by simp only [tyMem, true_or, or_true], ?_⟩; show Q (.bl (isT "NoneType" "tuple")); simp only [isT_all]; exact h
theorem w_fIsi_non_list (h : Q (.bl false)) : fIsi [.non, .raw (.ty "list")] Q := by unfold fIsi; refine ⟨by simp only [tyMem, true_or, or_true], ?_⟩; show Q (.bl (isT "NoneType" "list")); simp only [isT_all]; exact h
theorem w_fIsi_bl_int {x : Bool} (h : Q (.bl true)) : fIsi [.bl x, .raw (.ty "int")] Q := by unfold fIsi; refine ⟨by simp only [tyMem, true_or, or_true], ?_⟩; show Q (.bl (isT "bool" "int")); simp only [isT_all]; exact h
theorem w_fIsi_bl_bool {x : Bool} (h : Q (.bl true)) : fIsi [.bl x, .raw (.ty "bool")] Q := by unfold fIsi; refine ⟨by simp only [tyMem, true_or, or_true], ?_⟩; show Q (.bl (isT "bool" "bool")); simp only [isT_all]; exact h
theorem w_fIsi_bl_str {x : Bool} (h : Q (.bl false)) : fIsi [.bl x, .raw (.ty "str")] Q := by unfold fIsi; refine ⟨by simp only [tyMem, true_or, or_true], ?_⟩; show Q (.bl (isT "bool" "str")); simp only [isT_all]; exact h
theorem w_fIsi_bl_tuple {x : Bool} (h : Q (.bl false)) : fIsi [.bl x, .raw (.ty "tuple")] Q := by unfold fIsi; refine ⟨by simp only [tyMem, true_or, or_true], ?_⟩; show Q (.bl (isT "bool" "tuple")); simp only [isT_all]; exact h
theorem w_fIsi_bl_list {x : Bool} (h : Q (.bl false)) : fIsi [.bl x, .raw (.ty "list")] Q := by unfold fIsi; refine ⟨by simp only [tyMem, true_or, or_true], ?_⟩; show Q (.bl (isT "bool" "list")); simp only [isT_all]; exact h
theorem w_fIsi_int_int {x : Int} (h : Q (.bl true)) : fIsi [.int x, .raw (.ty "int")] Q := by unfold fIsi; refine ⟨by simp only [tyMem, true_or, or_true], ?_⟩; show Q (.bl (isT "int" "int")); simp only [isT_all]; exact h
theorem w_fIsi_int_bool {x : Int} (h : Q (.bl false)) : fIsi [.int x, .raw (.ty "bool")] Q := by unfold fIsi; refine ⟨by simp only [tyMem, true_or, or_true], ?_⟩; show Q (.bl (isT "int" "bool")); simp only [isT_all]; exact h
theorem w_fIsi_int_str {x : Int} (h : Q (.bl false)) : fIsi [.int x, .raw (.ty "str")] Q := by unfold fIsi; refine ⟨by simp only [tyMem, true_or, or_true], ?_⟩; show Q (.bl (isT "int" "str")); simp only [isT_all]; exact h
theorem w_fIsi_int_tuple {x : Int} (h : Q (.bl false)) : fIsi [.int x, .raw (.ty "tuple")] Q := by unfold fIsi; refine ⟨by simp only [tyMem, true_or, or_true], ?_⟩; show Q (.bl (isT "int" "tuple")); simp only [isT_all]; exact h
theorem w_fIsi_int_list {x : Int} (h : Q (.bl false)) : fIsi [.int x, .raw (.ty "list")] Q := by unfold fIsi; refine ⟨by simp only [tyMem, true_or, or_true], ?_⟩; show Q (.bl (isT "int" "list")); simp only [isT_all]; exact h
theorem w_fIsi_str_int {x : Str} (h : Q (.bl false)) : fIsi [.str x, .raw (.ty "int")] Q := by unfold fIsi; refine ⟨by simp only [tyMem, true_or, or_true], ?_⟩; show Q (.bl (isT "str" "int")); simp only [isT_all]; exact h
theorem w_fIsi_str_bool {x : Str} (h : Q (.bl false)) : fIsi [.str x, .raw (.ty "bool")] Q := by unfold fIsi; refine ⟨by simp only [tyMem, true_or, or_true], ?_⟩; show Q (.bl (isT "str" "bool")); simp only [isT_all]; exact h
theorem w_fIsi_str_str {x : Str} (h : Q (.bl true)) : fIsi [.str x, .raw (.ty "str")] Q := by unfold fIsi; refine ⟨by simp only [tyMem, true_or, or_true], ?_⟩; show Q (.bl (isT "str" "str")); simp only [isT_all]; exact h
theorem w_fIsi_str_tuple {x : Str} (h : Q (.bl false)) : fIsi [.str x, .raw (.ty "tuple")] Q := by unfold fIsi; refine ⟨by simp only [tyMem, true_or, or_true], ?_⟩; show Q (.bl (isT "str" "tuple")); simp only [isT_all]; exact h
theorem w_fIsi_str_list {x : Str} (h : Q (.bl false)) : fIsi [.str x, .raw (.ty "list")] Q := by unfold fIsi; refine ⟨by simp only [tyMem, true_or, or_true], ?_⟩; show Q (.bl (isT "str" "list")); simp only [isT_all]; exact h
theorem w_fIsi_lst_int (h : Q (.bl false)) : fIsi [.lst ds, .raw (.ty "int")] Q := by unfold fIsi; refine ⟨by simp only [tyMem, true_or, or_true], ?_⟩; show Q (.bl (isT "list" "int")); simp only [isT_all]; exact h
theorem w_fIsi_lst_bool (h : Q (.bl false)) : fIsi [.lst ds, .raw (.ty "bool")] Q := by unfold fIsi; refine ⟨by simp only [tyMem, true_or, or_true], ?_⟩; show Q (.bl (isT "list" "bool")); simp only [isT_all]; exact h
theorem w_fIsi_lst_str (h : Q (.bl false)) : fIsi [.lst ds, .raw (.ty "str")] Q := by unfold fIsi; refine ⟨by simp only [tyMem, true_or, or_true], ?_⟩; show Q (.bl (isT "list" "str")); simp only [isT_all]; exact h
theorem w_fIsi_lst_tuple (h : Q (.bl false)) : fIsi [.lst ds, .raw (.ty "tuple")] Q := by unfold fIsi; refine ⟨by simp only [tyMem, true_or, or_true], ?_⟩; show Q (.bl (isT "list" "tuple")); simp only [isT_all]; exact h
theorem w_fIsi_lst_list (h : Q (.bl true)) : fIsi [.lst ds, .raw (.ty "list")] Q := by unfold fIsi; refine ⟨by simp only [tyMem, true_or, or_true], ?_⟩; show Q (.bl (isT "list" "list")); simp only [isT_all]; exact h
theorem w_fIsi_tup_int (h : Q (.bl false)) : fIsi [.tup ds, .raw (.ty "int")] Q := by unfold fIsi; refine ⟨by simp only [tyMem, true_or, or_true], ?_⟩; show Q (.bl (isT "tuple" "int")); simp only [isT_all]; exact h
theorem w_fIsi_tup_bool (h : Q (.bl false)) : fIsi [.tup ds, .raw (.ty "bool")] Q := by unfold fIsi; refine ⟨by simp only [tyMem, true_or, or_true], ?_⟩; show Q (.bl (isT "tuple" "bool")); simp only [isT_all]; exact h
theorem w_fIsi_tup_str (h : Q (.bl false)) : fIsi [.tup ds, .raw (.ty "str")] Q := by unfold fIsi; refine ⟨by simp only [tyMem, true_or, or_true], ?_⟩; show Q (.bl (isT "tuple" "str")); simp only [isT_all]; exact h
theorem w_fIsi_tup_tuple (h : Q (.bl true)) : fIsi [.tup ds, .raw (.ty "tuple")] Q := by unfold fIsi; refine ⟨by simp only [tyMem, true_or, or_true], ?_⟩; show Q (.bl (isT "tuple" "tuple")); simp only [isT_all]; exact h
theorem w_fIsi_tup_list (h : Q (.bl false)) : fIsi [.tup ds, .raw (.ty "list")] Q := by unfold fIsi; refine ⟨by simp only [tyMem, true_or, or_true], ?_⟩; show Q (.bl (isT "tuple" "list")); simp only [isT_all]; exact h
theorem w_fStrA_i {z : Int} (h : z.natAbs.log2 < 1920 ∧ Q (.str (toString z))) : fStrA [.int z] Q := h
theorem w_fStrA_s {x : Str} (h : Q (.str x)) : fStrA [.str x] Q := h
theorem w_fS {g : Str → Str → Bool} {x y : Str} (h : Q (.bl (g x y))) : fS g (.str x) (.str y) Q := h
theorem w_fRepT {z : Int} (h : (ds = [] ∨ 1 ≤ z) ∧ -(2 ^ 63) ≤ z ∧ z ≤ 1000 ∧ ds.length ≤ 1000 ∧ Q (.tup (List.replicate z.toNat ds).flatten)) : fRepT (.tup ds) (.int z) Q := h
theorem w_fRep {z : Int} (h : -(2 ^ 63) ≤ z ∧ z < 2 ^ 63 ∧ ds.length * z.toNat ≤ sizeLine ∧ Q (.lst (List.replicate z.toNat ds).flatten)) : fRep (.lst ds) (.int z) Q := h
theorem w_mNo (h : PO none S) : mNo ρ S PO X := h
theorem w_mSome (h : ma ρ S (fun d S1 => r1 S1 d fun d' => asI (fun z => PO (some z) S1) d') X) : mSome ma ρ S PO X := h
theorem w_asI {Pi : Int → Prop} {z : Int} (h : Pi z) : asI Pi (.int z) := h
theorem w_mSl {fo : D → Option Int → Option Int → (D → Prop) → Prop} (h : ma ρ S (fun a S1 => ml ρ S1 (fun lo S2 => mh ρ S2 (fun hi S3 => r1 S3 a fun a' => fo a' lo hi fun d => P d S3) X) X) X) : mSl fo ma ml mh ρ S P X := h
theorem w_asL {Pd : List D → Prop} (h : Pd ds) : asL Pd (.lst ds) := h
theorem w_asT {Pd : List D → Prop} (h : Pd ds) : asT Pd (.tup ds) := h
theorem w_asS {Pd : List D → Prop} {x : Str} (h : Pd (signs x)) : asS Pd (.str x) := h
theorem w_asStr {Ps : Str → Prop} {x : Str} (h : Ps x) : asStr Ps (.str x) := h
theorem w_asLT_l {Pd : List D → Prop} (h : Pd ds) : asLT Pd (.lst ds) := h
theorem w_asLT_t {Pd : List D → Prop} (h : Pd ds) : asLT Pd (.tup ds) := h
theorem w_asDic {Pk : List D → List D → Prop} (h : Pk ks ds) : asDic Pk (.dic ks ds) := h
theorem w_mIL (h : ma ρ S (fun d S1 => asL (fun ds => PL ds S1) d) X) : mIL ma ρ S PL X := h
theorem w_mIT (h : ma ρ S (fun d S1 => asT (fun ds => PL ds S1) d) X) : mIT ma ρ S PL X := h
theorem w_mIS (h : ma ρ S (fun d S1 => asS (fun ds => PL ds S1) d) X) : mIS ma ρ S PL X := h
theorem w_mIR1 (h : mr ρ S (fun ds S1 => rA S1 ds fun ds' => asR1 (fun es => PL es S1) ds') X) : mIR1 mr ρ S PL X := h
theorem w_mIR2 (h : mr ρ S (fun ds S1 => rA S1 ds fun ds' => asR2 (fun es => PL es S1) ds') X) : mIR2 mr ρ S PL X := h
theorem w_mIE (h : mr ρ S (fun ds S1 => asE (fun es => PL es S1) ds) X) : mIE mr ρ S PL X := h
theorem w_mIZS (h : mr ρ S (fun ds S1 => asZS (fun es => PL es S1) ds) X) : mIZS mr ρ S PL X := h
theorem w_mIZL (h : mr ρ S (fun ds S1 => asZL (fun es => PL es S1) ds) X) : mIZL mr ρ S PL X := h
theorem w_mIZZ (h : mr ρ S (fun ds S1 => asZZ (fun es => PL es S1) ds) X) : mIZZ mr ρ S PL X := h
theorem w_mIC (h : PL ds S) : mIC ds ρ S PL X := h
theorem w_mIKX (h : ma ρ S (fun d S1 => asDic (fun ks _ => PL ks S1) d) X) : mIKX ma ρ S PL X := h
theorem w_mIVX (h : ma ρ S (fun d S1 => asDic (fun _ ds => PL ds S1) d) X) : mIVX ma ρ S PL X := h
theorem w_mIIX (h : ma ρ S (fun d S1 => asDic (fun ks ds => PL (dpairs ks ds) S1) d) X) : mIIX ma ρ S PL X := h
theorem w_asR1 {Pd : List D → Prop} {z : Int} (h : -(2 ^ 62) ≤ z ∧ z < 2 ^ 62 ∧ Pd (rngD 0 z.toNat)) : asR1 Pd [.int z] := h
theorem w_asR2 {Pd : List D → Prop} {z y : Int} (h1 : -(2 ^ 62) ≤ z ∧ z < 2 ^ 62 ∧ -(2 ^ 62) ≤ y ∧ y < 2 ^ 62) (h : Pd (rngD z (y - z).toNat)) : asR2 Pd [.int z, .int y] := ⟨h1, h⟩
theorem w_asE {Pd : List D → Prop} (h : Pd (enumD 0 ds)) : asE Pd [.lst ds] := h
theorem w_asZS {Pd : List D → Prop} {x y : Str} (h : Pd (zipD (signs x) (signs y))) : asZS Pd [.str x, .str y] := h
theorem w_asZL {Pd : List D → Prop} (h : Pd (zipD ds es)) : asZL Pd [.lst ds, .lst es] := h
theorem w_asZZ {Pd : List D → Prop} (e1 : srcD d = some ds) (e2 : srcD d' = some es) (h : Pd (zipD ds es)) : asZZ Pd [d, d'] := by unfold asZZ; dsimp only; rw [e1, e2]; exact h
theorem w_mgNil (h : KE ρ) : mgNil [] ρ KE := h
theorem w_mgCons (h : f d ρ fun ρ' => fs ds ρ' KE) : mgCons f fs (d :: ds) ρ KE := h
theorem w_mgTup (h : fs ds ρ KE) : mgTup fs (.tup ds) ρ KE := h
theorem w_mgTup_p (h : fs ds ρ KE) : mgTup fs (.pr ds) ρ KE := h
theorem w_kDrop (h : ma ρ S (fun _ S1 => nx ρ S1) X) : kDrop ma ρ S ⟨nx, rt, bk, ct, X⟩ := h
theorem w_kRetN (h : rt .non S) : kRetN ρ S ⟨nx, rt, bk, ct, X⟩ := h
theorem w_kBreak (h : bk ρ S) : kBreak ρ S ⟨nx, rt, bk, ct, X⟩ := h
theorem w_kCont (h : ct ρ S) : kCont ρ S ⟨nx, rt, bk, ct, X⟩ := h
theorem w_kFor (h : mi ρ S (fun ds S1 => forD f m ds ρ S1 ⟨nx, rt, bk, ct, X⟩) X) : kFor mi f m ρ S ⟨nx, rt, bk, ct, X⟩ := h
theorem w_kOwn (h0 : i < ρ.length) (h : ma ρ S (fun d S1 => sOf i (.ow d) ρ fun ρ' => nx ρ' S1) X) : kOwn i ma ρ S ⟨nx, rt, bk, ct, X⟩ := ⟨h0, h⟩
def apK (i : Nat) (ma : ME) (ρ : Env) (S : Sto) (nx : Env → Sto → Prop) (X : Ex → Sto → Prop) : Sl → Prop
  | .ow (.lst ds) => ma ρ S (fun d S1 => ds.length < sizeLine ∧ sOf i (.ow (.lst (ds ++ [d]))) ρ fun ρ' => nx ρ' S1) X
  | _ => False
theorem w_kApp (h : gOf i ρ (apK i ma ρ S nx X)) : kApp i ma ρ S ⟨nx, rt, bk, ct, X⟩ := by unfold kApp; unfold gOf at h; generalize ρ[i]? = s at h; match s, h with | some (.ow (.lst _)), h => exact h
theorem w_apK (h : ma ρ S (fun d S1 => ds.length < sizeLine ∧ sOf i (.ow (.lst (ds ++ [d]))) ρ fun ρ' => nx ρ' S1) X) : apK i ma ρ S nx X (.ow (.lst ds)) := h
def exK (i : Nat) (ma : ME) (ρ : Env) (S : Sto) (nx : Env → Sto → Prop) (X : Ex → Sto → Prop) : Sl → Prop
  | .ow (.lst ds) => ma ρ S (fun d S1 => asL (fun es => ds.length + es.length ≤ sizeLine ∧ sOf i (.ow (.lst (ds ++ es))) ρ fun ρ' => nx ρ' S1) d) X
  | _ => False
theorem w_kExt (h : gOf i ρ (exK i ma ρ S nx X)) : kExt i ma ρ S ⟨nx, rt, bk, ct, X⟩ := by unfold kExt; unfold gOf at h; generalize ρ[i]? = s at h; match s, h with | some (.ow (.lst _)), h => exact h
theorem w_exK (h : ma ρ S (fun d S1 => asL (fun es => ds.length + es.length ≤ sizeLine ∧ sOf i (.ow (.lst (ds ++ es))) ρ fun ρ' => nx ρ' S1) d) X) : exK i ma ρ S nx X (.ow (.lst ds)) := h
def roK (rt : D → Sto → Prop) (S : Sto) : Sl → Prop
  | .ow (.lst ds) => rt (.lst ds) S
  | _ => False
theorem w_kRetOw (h : gOf i ρ (roK rt S)) : kRetOw i ρ S ⟨nx, rt, bk, ct, X⟩ := by unfold kRetOw; unfold gOf at h; generalize ρ[i]? = s at h; match s, h with | some (.ow (.lst _)), h => exact h
theorem w_roK (h : rt (.lst ds) S) : roK rt S (.ow (.lst ds)) := h
def rdK (rt : D → Sto → Prop) (S : Sto) : Sl → Prop
  | .ow (.dic ks ds) => rt (.dic ks ds) S
  | _ => False
theorem w_kRetOwD (h : gOf i ρ (rdK rt S)) : kRetOwD i ρ S ⟨nx, rt, bk, ct, X⟩ := by unfold kRetOwD; unfold gOf at h; generalize ρ[i]? = s at h; match s, h with | some (.ow (.dic _ _)), h => exact h
theorem w_rdK (h : rt (.dic ks ds) S) : rdK rt S (.ow (.dic ks ds)) := h
def fzK (i : Nat) (m : MS) (ρ : Env) (S : Sto) (e : Pn) : Sl → Prop
  | .ow (.lst ds) => sOf i (.va (.lst ds)) ρ fun ρ' => m ρ' S e
  | _ => m ρ S e
theorem w_kFrz (h : gOf i ρ (fzK i m ρ S ⟨nx, rt, bk, ct, X⟩)) : kFrz i m ρ S ⟨nx, rt, bk, ct, X⟩ := by unfold kFrz frz; unfold gOf at h; generalize ρ[i]? = s at h; match s, h with | some (.ow (.lst _)), h => exact h | some (.va _), h => exact h | some .un, h => exact h | some (.ow (.dic _ _)), h => exact h | some (.ow (.int _)), h => exact h | some (.ow (.str _)), h => exact h | some (.ow (.bl _)), h => exact h | some (.ow .non), h => exact h | some (.ow (.tup _)), h => exact h | some (.ow (.ins _ _ _)), h => exact h | some (.ow .bag), h => exact h | some (.ow (.raw _)), h => exact h | some (.ow (.ob _)), h => exact h | some (.ow (.pr _)), h => exact h | some (.ow (.clo _)), h => exact h
theorem w_fzK {e : Pn} (h : sOf i (.va (.lst ds)) ρ fun ρ' => m ρ' S e) : fzK i m ρ S e (.ow (.lst ds)) := h
theorem w_fzKv {e : Pn} (h : m ρ S e) : fzK i m ρ S e (.va d) := h
def fdK (i : Nat) (m : MS) (ρ : Env) (S : Sto) (e : Pn) : Sl → Prop
  | .ow (.dic ks ds) => sOf i (.va (.dic ks ds)) ρ fun ρ' => m ρ' S e
  | _ => False
theorem w_kFrzD (h : gOf i ρ (fdK i m ρ S ⟨nx, rt, bk, ct, X⟩)) : kFrzD i m ρ S ⟨nx, rt, bk, ct, X⟩ := by unfold kFrzD; unfold gOf at h; generalize ρ[i]? = s at h; match s, h with | some (.ow (.dic _ _)), h => exact h
theorem w_fdK {e : Pn} (h : sOf i (.va (.dic ks ds)) ρ fun ρ' => m ρ' S e) : fdK i m ρ S e (.ow (.dic ks ds)) := h
def paK (i j : Nat) (ρ : Env) (S : Sto) (nx : Env → Sto → Prop) : List D → Prop
  | [a, b] => sOf i (.va a) ρ fun ρ' => sOf j (.va b) ρ' fun ρ'' => nx ρ'' S
  | _ => False
theorem w_kPar (h : mr ρ S (fun ds S1 => paK i j ρ S1 nx ds) X) : kPar i j mr ρ S ⟨nx, rt, bk, ct, X⟩ := h
theorem w_paK (h : sOf i (.va d) ρ fun ρ' => sOf j (.va d') ρ' fun ρ'' => nx ρ'' S) : paK i j ρ S nx [d, d'] := h
theorem w_kParOw (h : ma ρ S (fun a S1 => mb ρ S1 (fun b S2 => i ≠ j ∧ j < ρ.length ∧ sOf i (.va a) ρ fun ρ' => sOf j (.ow b) ρ' fun ρ'' => nx ρ'' S2) X) X) : kParOw i j ma mb ρ S ⟨nx, rt, bk, ct, X⟩ := h
def auK (i : Nat) (fo : D → D → (D → Prop) → Prop) (ma : ME) (ρ : Env) (S : Sto) (nx : Env → Sto → Prop) (X : Ex → Sto → Prop) : Sl → Prop
  | .va a => ma ρ S (fun b S1 => r1 S1 a fun a' => r1 S1 b fun b' => fo a' b' fun d => sOf i (.va d) ρ fun ρ' => nx ρ' S1) X
  | _ => False
theorem w_kAug {fo : D → D → (D → Prop) → Prop} (h : gOf i ρ (auK i fo ma ρ S nx X)) : kAug i fo ma ρ S ⟨nx, rt, bk, ct, X⟩ := by unfold kAug; unfold gOf at h; generalize ρ[i]? = s at h; match s, h with | some (.va _), h => exact h
theorem w_auK {fo : D → D → (D → Prop) → Prop} (h : ma ρ S (fun b S1 => r1 S1 d fun a' => r1 S1 b fun b' => fo a' b' fun d => sOf i (.va d) ρ fun ρ' => nx ρ' S1) X) : auK i fo ma ρ S nx X (.va d) := h
def dpK (i : Nat) (mk : ME) (v : D) (ρ : Env) (S : Sto) (nx : Env → Sto → Prop) (X : Ex → Sto → Prop) : Sl → Prop
  | .ow (.dic ks ds) => mk ρ S (fun k S2 => dcov ks k = true ∧ ks.length < sizeLine ∧ sOf i (.ow (.dic (dput ks ds k v).1 (dput ks ds k v).2)) ρ fun ρ' => nx ρ' S2) X
  | _ => False
theorem w_kDPut (h : ma ρ S (fun v S1 => gOf i ρ (dpK i mb v ρ S1 nx X)) X) : kDPut i mb ma ρ S ⟨nx, rt, bk, ct, X⟩ := by
  have e : ∀ v S1, gOf i ρ (dpK i mb v ρ S1 nx X) = (match ρ[i]? with | some (.ow (.dic ks ds)) => mb ρ S1 (fun k S2 => dcov ks k = true ∧ ks.length < sizeLine ∧ nx (ρ.set i (.ow (.dic (dput ks ds k v).1 (dput ks ds k v).2))) S2) X | _ => False) := fun v S1 => by
    unfold gOf
    generalize ρ[i]? = s
    match s with
    | none => rfl
    | some .un => rfl
    | some (.va _) => rfl
    | some (.ow (.dic _ _)) => rfl
    | some (.ow (.lst _)) => rfl
    | some (.ow (.int _)) => rfl
    | some (.ow (.str _)) => rfl
    | some (.ow (.bl _)) => rfl
    | some (.ow .non) => rfl
    | some (.ow (.tup _)) => rfl
    | some (.ow (.ins _ _ _)) => rfl
    | some (.ow .bag) => rfl
    | some (.ow (.raw _)) => rfl
    | some (.ow (.ob _)) => rfl
    | some (.ow (.pr _)) => rfl
    | some (.ow (.clo _)) => rfl
  unfold kDPut
  simp only [e] at h
  exact h
theorem w_dpK (h : ma ρ S (fun k S2 => dcov ks k = true ∧ ks.length < sizeLine ∧ sOf i (.ow (.dic (dput ks ds k d).1 (dput ks ds k d).2)) ρ fun ρ' => nx ρ' S2) X) : dpK i ma d ρ S nx X (.ow (.dic ks ds)) := h
def sdK (i : Nat) (mk mv : ME) (ρ : Env) (S : Sto) (nx : Env → Sto → Prop) (X : Ex → Sto → Prop) : Sl → Prop
  | .ow (.dic ks ds) => mk ρ S (fun k S1 => mv ρ S1 (fun v S2 => dcov ks k = true ∧ ks.length < sizeLine ∧ (if (dlook ks ds k).isSome = true then nx ρ S2 else sOf i (.ow (.dic (dput ks ds k v).1 (dput ks ds k v).2)) ρ fun ρ' => nx ρ' S2)) X) X
  | _ => False
theorem w_kSetd (h : gOf i ρ (sdK i ma mb ρ S nx X)) : kSetd i ma mb ρ S ⟨nx, rt, bk, ct, X⟩ := by
  unfold gOf at h
  unfold kSetd
  generalize ρ[i]? = s at h ⊢
  match s, h with
  | some (.ow (.dic ks ds)), h =>
    have e : ∀ (c : Prop) [Decidable c] (ρ' : Env) (S2 : Sto), (if c then nx ρ S2 else nx ρ' S2) = nx (if c then ρ else ρ') S2 := fun c _ ρ' S2 => by split <;> rfl
    unfold sdK sOf at h
    simp only [e] at h
    exact h
theorem w_sdK (h : ma ρ S (fun k S1 => mb ρ S1 (fun v S2 => dcov ks k = true ∧ ks.length < sizeLine ∧ (if (dlook ks ds k).isSome = true then nx ρ S2 else sOf i (.ow (.dic (dput ks ds k v).1 (dput ks ds k v).2)) ρ fun ρ' => nx ρ' S2)) X) X) : sdK i ma mb ρ S nx X (.ow (.dic ks ds)) := h
def xgK (P : D → Sto → Prop) (S : Sto) : Option D → Prop
  | some v => P v S
  | none => False
theorem w_mXGet (h : ma ρ S (fun d S1 => mb ρ S1 (fun k S2 => r1 S2 d fun d' => asDic (fun ks ds => dcov ks k = true ∧ xgK P S2 (dlook ks ds k)) d') X) X) : mXGet ma mb ρ S P X := h
theorem w_xgK {o : Option D} (e : o = some d) (h : P d S) : xgK P S o := by subst e; exact h
theorem w_mXIn {neg : Bool} (h : ma ρ S (fun k S1 => mb ρ S1 (fun d S2 => r1 S2 d fun d' => asDic (fun ks ds => dcov ks k = true ∧ P (.bl (if neg then !(dlook ks ds k).isSome else (dlook ks ds k).isSome)) S2) d') X) X) : mXIn neg ma mb ρ S P X := h
theorem w_mXGet2 (h : ma ρ S (fun d S1 => r1 S1 d fun d1 => asDic (fun _ _ => mb ρ S1 (fun k S2 => mc ρ S2 (fun x S3 => r1 S3 d fun d' => asDic (fun ks ds => dcov ks k = true ∧ P ((dlook ks ds k).getD x) S3) d') X) X) d1) X) : mXGet2 ma mb mc ρ S P X := h
theorem w_mDEq {neg : Bool} (h : ma ρ S (fun d S1 => mb ρ S1 (fun e S2 => r1 S2 d fun d1 => asDic (fun ka va => r1 S2 e fun e1 => asDic (fun kb vb => ka.all D.flatK = true ∧ kb.all D.flatK = true ∧ va.all D.isI = true ∧ vb.all D.isI = true ∧ P (.bl (if neg then !deqD ka va kb vb else deqD ka va kb vb)) S2) e1) d1) X) X) : mDEq neg ma mb ρ S P X := h
theorem w_mDictF (h : ma ρ S (fun d S1 => r1 S1 d fun d1 => asDic (fun ks ds => ks.all D.flatK = true ∧ P (.dic ks ds) S1) d1) X) : mDictF ma ρ S P X := h
def nwK (P : D → Sto → Prop) (S : Sto) : Option Ob → Prop
  | some o => P (.ob S.length) (S ++ [o])
  | none => False
theorem w_mNew (h : ma ρ S (fun d S1 => nwK P S1 (Ob.of d)) X) : mNew ma ρ S P X := h
theorem w_nwK_d (h : P (.ob S.length) (S ++ [.dic ks ds])) : nwK P S (Ob.of (.dic ks ds)) := h
theorem w_nwK_l (h : P (.ob S.length) (S ++ [.lst ds])) : nwK P S (Ob.of (.lst ds)) := h
def clK (nx : Env → Sto → Prop) (ρ : Env) (S : Sto) : D → Prop
  | .ob i => (match S[i]? with
    | some (.dic ks _) => ks.all D.flatK = true ∧ nx ρ (S.set i (.dic [] []))
    | _ => False)
  | _ => False
theorem w_kClear (h : ma ρ S (fun d S1 => clK nx ρ S1 d) X) : kClear ma ρ S ⟨nx, rt, bk, ct, X⟩ := h
theorem w_clK (e : S[i]? = some (.dic ks ds)) (h : ks.all D.flatK = true ∧ nx ρ (S.set i (.dic [] []))) : clK nx ρ S (.ob i) := by unfold clK; dsimp only; rw [e]; exact h
theorem w_mJoin (h : ma ρ S (fun d S1 => asStr (fun z => mb ρ S1 (fun d2 S2 => r1 S2 d2 fun d3 => asL (fun ds => ∃ ys : List Str, ds = ys.map .str ∧ (ys.map (·.length)).sum + ys.length * z.length ≤ 16777216 ∧ P (.str (Str.join z ys)) S2) d3) X) d) X) : mJoin ma mb ρ S P X := h
theorem w_ite_ff {x y : Bool} {A B : Prop} (h : if y = true then A else B) : if (if (false : Bool) = true then x else y) = true then A else B := by rw [if_neg Bool.false_ne_true]; exact h
theorem w_ite_tt {x y : Bool} {A B : Prop} (h : if x = true then A else B) : if (if (true : Bool) = true then x else y) = true then A else B := by rw [if_pos rfl]; exact h
theorem w_ite_st {a : String} {A B : Prop} (h : A) : if (decide ((a : Str) = (a : Str))) = true then A else B := by rw [if_pos (decide_eq_true rfl)]; exact h
theorem w_ite_sf {a b : String} {A B : Prop} (e : decide (a = b) = false) (h : B) : if (decide ((a : Str) = (b : Str))) = true then A else B := by rw [if_neg (by simp only [strEqLit, decide_eq_true_eq]; exact of_decide_eq_false e)]; exact h
theorem w_ite_nst {a : String} {A B : Prop} (h : B) : if (!decide ((a : Str) = (a : Str))) = true then A else B := by rw [if_neg (by rw [decide_eq_true rfl]; decide)]; exact h
theorem w_ite_nsf {a b : String} {A B : Prop} (e : decide (a = b) = false) (h : A) : if (!decide ((a : Str) = (b : Str))) = true then A else B := by rw [if_pos (by simp only [strEqLit, e, Bool.not_false])]; exact h
def siK (neg : Bool) (k : D) (P : D → Sto → Prop) (S : Sto) : Sl → Prop
  | .ow (.pr [.lst ks]) => k.flatK = true ∧ P (.bl (if neg then !(ks.any fun k' => decide (k'.nk = k.nk)) else ks.any fun k' => decide (k'.nk = k.nk))) S
  | _ => False
theorem w_mSIn {neg : Bool} (h : ma ρ S (fun k S1 => gOf i ρ (siK neg k P S1)) X) : mSIn neg i ma ρ S P X := by
  have e : ∀ k S1, gOf i ρ (siK neg k P S1) = (match ρ[i]? with | some (.ow (.pr [.lst ks])) => k.flatK = true ∧ P (.bl (if neg then !(ks.any fun k' => decide (k'.nk = k.nk)) else ks.any fun k' => decide (k'.nk = k.nk))) S1 | _ => False) := fun k S1 => by
    unfold gOf
    generalize ρ[i]? = s
    rcases s with _ | s
    · rfl
    · cases s with
      | un => rfl
      | va _ => rfl
      | ow d =>
        cases d with
        | pr l =>
          rcases l with _ | ⟨a, _ | ⟨b, l⟩⟩
          · rfl
          · cases a <;> rfl
          · cases a <;> rfl
        | _ => rfl
  unfold mSIn
  simp only [e] at h
  exact h
theorem w_siK {neg : Bool} (h : d.flatK = true ∧ P (.bl (if neg then !(ds.any fun k' => decide (k'.nk = d.nk)) else ds.any fun k' => decide (k'.nk = d.nk))) S) : siK neg d P S (.ow (.pr [.lst ds])) := h
def saK (i : Nat) (ma : ME) (ρ : Env) (S : Sto) (nx : Env → Sto → Prop) (X : Ex → Sto → Prop) : Sl → Prop
  | .ow (.pr [.lst ks]) => ma ρ S (fun k S1 => k.flatK = true ∧ ks.length < 4000 ∧ sOf i (.ow (.pr [.lst (ks ++ [k])])) ρ fun ρ' => nx ρ' S1) X
  | _ => False
theorem w_kSAdd (h : gOf i ρ (saK i ma ρ S nx X)) : kSAdd i ma ρ S ⟨nx, rt, bk, ct, X⟩ := by
  have e : ∀ (_ : Nat) S1, gOf i ρ (saK i ma ρ S1 nx X) = (match ρ[i]? with | some (.ow (.pr [.lst ks])) => ma ρ S1 (fun k S2 => k.flatK = true ∧ ks.length < 4000 ∧ nx (ρ.set i (.ow (.pr [.lst (ks ++ [k])]))) S2) X | _ => False) := fun _ S1 => by
    unfold gOf
    generalize ρ[i]? = s
    rcases s with _ | s
    · rfl
    · cases s with
      | un => rfl
      | va _ => rfl
      | ow d =>
        cases d with
        | pr l =>
          rcases l with _ | ⟨a, _ | ⟨b, l⟩⟩
          · rfl
          · cases a <;> rfl
          · cases a <;> rfl
        | _ => rfl
  unfold kSAdd
  rw [e 0 S] at h
  exact h
theorem w_saK (h : ma ρ S (fun k S1 => k.flatK = true ∧ ds.length < 4000 ∧ sOf i (.ow (.pr [.lst (ds ++ [k])])) ρ fun ρ' => nx ρ' S1) X) : saK i ma ρ S nx X (.ow (.pr [.lst ds])) := h
theorem w_mLenD (h : ma ρ S (fun d S1 => r1 S1 d fun d' => asDic (fun ks _ => P (.int (ks.length : Nat)) S1) d') X) : mLenD ma ρ S P X := h
theorem w_kRaise0 {c n : Str} (h : X ⟨c, [("called", .str n)]⟩ S) : kRaise0 c n ρ S ⟨nx, rt, bk, ct, X⟩ := h
def ra1K (c n g : Str) (X : Ex → Sto → Prop) (S : Sto) : List D → Prop
  | [x] => X ⟨c, [(g, x), ("called", .str n)]⟩ S
  | _ => False
theorem w_kRaise1 {c n g : Str} (h : mr ρ S (fun ds S1 => ra1K c n g X S1 ds) X) : kRaise1 c n g mr ρ S ⟨nx, rt, bk, ct, X⟩ := h
theorem w_ra1K {c n g : Str} (h : X ⟨c, [(g, d), ("called", .str n)]⟩ S) : ra1K c n g X S [d] := h
theorem w_kAsgS {n : Nat} (h : ma ρ S (fun d S1 => asT (fun ds => ds.length ≤ 16384 ∧ stS n ds fun l => fs l ρ fun ρ' => nx ρ' S1) d) X) : kAsgS n ma fs ρ S ⟨nx, rt, bk, ct, X⟩ := by rw [x_kAsgS]; exact h
theorem w_stS_0 {Pd : List D → Prop} (h : Pd [.lst ds]) : stS 0 ds Pd := h
theorem w_stS_s {Pd : List D → Prop} {n : Nat} (h : stS n ds fun r => Pd (d :: r)) : stS (n + 1) (d :: ds) Pd := h
def flK (c g : Str) (P : D → Sto → Prop) (d : D) (S : Sto) : Prop := match (S.fields c d).bind (·.lookup g) with
  | some x => P x S
  | none => False
theorem w_mFld {c g : Str} (h : ma ρ S (fun d S1 => flK c g P d S1) X) : mFld c g ma ρ S P X := h
theorem w_flK {c g : Str} (e : ((S.fields c d).bind fun x => x.lookup g) = some d') (h : P d' S) : flK c g P d S := by unfold flK; rw [e]; exact h
theorem w_mMeth {c n : Str} {mm : List D → M D} (h : ma ρ S (fun d S1 => noM S1 c n d ∧ mr ρ S1 (fun ds S2 => aOf ds es fun as => mm (d :: as) S2 P X) X) X) : mMeth c n mm es ma mr ρ S P X := h
theorem w_mLenO {c : Str} {mm : List D → M D} (h : ma ρ S (fun d S1 => isIns S1 c d ∧ mm [d] S1 (lnK P) X) X) : mLenO c mm ma ρ S P X := h
theorem w_mMakeV {c : Str} {mm : List D → M D} (h : mr ρ S (fun ds S1 => aOf ds es fun as => mm (.ob S1.length :: as) (S1 ++ [.ins c []]) (mvK c P S1) X) X) : mMakeV c mm es mr ρ S P X := h
theorem w_mMake {c : Str} {mm : List D → M D} (h : mr ρ S (fun ds S1 => aOf ds es fun as => mm (.ob S1.length :: as) (S1 ++ [.ins c []]) (moK P S1) X) X) : mMake c mm es mr ρ S P X := h
theorem w_mLc {vs : List Nat} (h0 : ∀ j ∈ vs, isOw ρ[j]? = false) (h : mi ρ S (fun ds S1 => ds.length ≤ sizeLine ∧ wOf vs ρ fun ρ' => lcD f mt ma ρ' ds [] S1 fun out S2 => P (.lst out) S2) X) : mLc mi f mt ma vs ρ S P X := ⟨h0, h⟩
theorem w_wOf_nil (h : KE ρ) : wOf [] ρ KE := h
theorem w_wOf_cons {vs : List Nat} (h : wOf vs ρ fun ρ' => sOf i .un ρ' KE) : wOf (i :: vs) ρ KE := h
theorem w_mDc {vs : List Nat} (h0 : ∀ j ∈ vs, isOw ρ[j]? = false) (h : mi ρ S (fun ds S1 => ds.length ≤ sizeLine ∧ wOf vs ρ fun ρ' => dcD f mt ma mb ρ' ds [] [] S1 P) X) : mDc mi f mt ma mb vs ρ S P X := ⟨h0, h⟩
theorem w_mSc {vs : List Nat} {r : List CD} (h0 : ∀ j ∈ vs, isOw ρ[j]? = false) (h : mi ρ S (fun ds S1 => wOf vs ρ fun ρ' => loD f mt (stD (emdS ma) r) ρ' ds [] S1 PL) X) : mSc mi f mt vs r ma ρ S PL X := ⟨h0, h⟩
theorem w_mGen {τ : Type} {em : EmD τ} {t0 : τ} {fin : τ → D} {vs : List Nat} {r : List CD} (h0 : ∀ j ∈ vs, isOw ρ[j]? = false) (h : mi ρ S (fun ds S1 => wOf vs ρ fun ρ' => loD f mt (stD em r) ρ' ds t0 S1 fun t S2 => P (fin t) S2) X) : mGen mi f mt vs r em t0 fin ρ S P X := ⟨h0, h⟩
theorem w_mYes (h : PB true S) : mYes ρ S PB X := h
theorem w_mSo (h : ma ρ S (fun d S1 => r1 S1 d fun d' => asLT (fun ds => setOf ds ∧ ds.length + 1 < scanBound ∧ PL ds S1) d') X) : mSo ma ρ S PL X := h
theorem w_mLenX (h : mi ρ S (fun ds S1 => P (.int (nkLen ds : Nat)) S1) X) : mLenX mi ρ S P X := h
theorem w_mSortX (h : mi ρ S (fun ds S1 => sxK ds P S1) X) : mSortX mi ρ S P X := h
theorem w_mLock (h : ma ρ S (fun d S1 => asDic (fun _ _ => P d S1) d) X) : mLock ma ρ S P X := h
theorem w_mChain {fo go : D → D → (D → Prop) → Prop} (h : ma ρ S (fun a S1 => mb ρ S1 (fun b S2 => r1 S2 a fun a' => r1 S2 b fun b' => fo a' b' (asB fun t => if t = true then mc ρ S2 (fun c S3 => r1 S3 b fun b3 => r1 S3 c fun c3 => go b3 c3 fun d => P d S3) X else P (.bl false) S2)) X) X) : mChain fo go ma mb mc ρ S P X := h
theorem w_lcStep {Pq : Option D → Sto → Prop} (h : f d ρ fun ρ2 => mt ρ2 S (fun b S1 => if b = true then ma ρ2 S1 (fun y S2 => Pq (some y) S2) noX else Pq none S1) noX) : lcStep f mt ma ρ d S Pq := h
theorem w_ite_d {p : Prop} [Decidable p] {A B : Prop} (b : p) (h : A) : if (decide p) = true then A else B := by rw [if_pos (decide_eq_true b)]; exact h
theorem w_asL' {Pd : List D → Prop} (e : d = .lst ds) (h : Pd ds) : asL Pd d := by subst e; exact h
theorem w_asT' {Pd : List D → Prop} (e : d = .tup ds) (h : Pd ds) : asT Pd d := by subst e; exact h
theorem w_asLT_l' {Pd : List D → Prop} (e : d = .lst ds) (h : Pd ds) : asLT Pd d := by subst e; exact h
theorem w_asLT_t' {Pd : List D → Prop} (e : d = .tup ds) (h : Pd ds) : asLT Pd d := by subst e; exact h
theorem w_mgTup' (e : d = .tup ds) (h : fs ds ρ KE) : mgTup fs d ρ KE := by subst e; exact h
theorem w_mgTup_p' (e : d = .pr ds) (h : fs ds ρ KE) : mgTup fs d ρ KE := by subst e; exact h
theorem w_fLen_l' (e : d = .lst ds) (h : Q (.int (ds.length : Nat))) : fLen [d] Q := by subst e; exact h
theorem w_fLen_t' (e : d = .tup ds) (h : Q (.int (ds.length : Nat))) : fLen [d] Q := by subst e; exact h
theorem w_fListOf_l' (e : d = .lst ds) (h : Q (.lst ds)) : fListOf [d] Q := by subst e; exact h
theorem w_fListOf_t' (e : d = .tup ds) (h : Q (.lst ds)) : fListOf [d] Q := by subst e; exact h
theorem w_fTupleOf_l' (e : d = .lst ds) (h : Q (.tup ds)) : fTupleOf [d] Q := by subst e; exact h
theorem w_fTupleOf_t' (e : d = .tup ds) (h : Q (.tup ds)) : fTupleOf [d] Q := by subst e; exact h
theorem w_fSlL' {lo hi : Option Int} (e : d = .lst ds) (h : Q (.lst (cutL ds lo hi))) : fSlL d lo hi Q := by subst e; exact h
theorem w_fSlT' {lo hi : Option Int} (e : d = .tup ds) (h : Q (.tup (cutL ds lo hi))) : fSlT d lo hi Q := by subst e; exact h
theorem w_fAdd_l' (e1 : d = .lst ds) (e2 : d' = .lst es) (h : ds.length + es.length ≤ sizeLine ∧ Q (.lst (ds ++ es))) : fAdd d d' Q := by subst e1; subst e2; exact h
theorem w_fAdd_t' (e1 : d = .tup ds) (e2 : d' = .tup es) (h : ds.length + es.length ≤ sizeLine ∧ Q (.tup (ds ++ es))) : fAdd d d' Q := by subst e1; subst e2; exact h
theorem w_fIx_t0' (e : d' = .tup (d :: ds)) (h : Q d) : fIx d' (.int 0) Q := by subst e; unfold fIx; dsimp only; rw [atI_0]; exact h
theorem w_fIx_t1' {x0 : D} (e : d' = .tup (x0 :: d :: ds)) (h : Q d) : fIx d' (.int 1) Q := by subst e; unfold fIx; dsimp only; rw [atI_1]; exact h
theorem w_fIx_t2' {x0 x1 : D} (e : d' = .tup (x0 :: x1 :: d :: ds)) (h : Q d) : fIx d' (.int 2) Q := by subst e; unfold fIx; dsimp only; rw [atI_2]; exact h
theorem w_fI' {c : Int → Int → Prop} {g : Int → Int → D} {i j : Int} (c0 : c i j) (h : Q (g i j)) : fI c g (.int i) (.int j) Q := ⟨c0, h⟩
def lkK (ns : List Int) (P : D → Sto → Prop) (S : Sto) : D → Prop
  | .int k => k ∈ ns ∧ P (.int (ns.idxOf k : Nat)) S
  | _ => False
def liK (mb : ME) (ρ : Env) (P : D → Sto → Prop) (X : Ex → Sto → Prop) (S1 : Sto) (ds : List D) : Prop := ∃ ns : List Int, ds = ns.map D.int ∧ mb ρ S1 (fun y S2 => r1 S2 y fun y' => lkK ns P S2 y') X
theorem w_mLIdx (h : ma ρ S (fun d S1 => asL (fun ds => liK mb ρ P X S1 ds) d) X) : mLIdx ma mb ρ S P X := by
  have e : ∀ (ns : List Int) (y : D) (S2 : Sto), (∃ k : Int, S2.rs y = .int k ∧ k ∈ ns ∧ P (.int (ns.idxOf k : Nat)) S2) = (r1 S2 y fun y' => lkK ns P S2 y') := fun ns y S2 => by
    unfold r1
    generalize S2.rs y = z
    refine propext ⟨fun ⟨k, e, h1, h2⟩ => ?_, fun h => ?_⟩
    · subst e; exact ⟨h1, h2⟩
    · match z, h with
      | .int k, h => exact ⟨k, rfl, h.1, h.2⟩
  unfold mLIdx
  simp only [e]
  exact h
theorem w_mTIdx (h : ma ρ S (fun d S1 => asT (fun ds => liK mb ρ P X S1 ds) d) X) : mTIdx ma mb ρ S P X := by
  have e : ∀ (ns : List Int) (y : D) (S2 : Sto), (∃ k : Int, S2.rs y = .int k ∧ k ∈ ns ∧ P (.int (ns.idxOf k : Nat)) S2) = (r1 S2 y fun y' => lkK ns P S2 y') := fun ns y S2 => by
    unfold r1
    generalize S2.rs y = z
    refine propext ⟨fun ⟨k, e, h1, h2⟩ => ?_, fun h => ?_⟩
    · subst e; exact ⟨h1, h2⟩
    · match z, h with
      | .int k, h => exact ⟨k, rfl, h.1, h.2⟩
  unfold mTIdx
  simp only [e]
  exact h
def lkB (ns : List Bool) (P : D → Sto → Prop) (S : Sto) : D → Prop
  | .bl k => k ∈ ns ∧ P (.int (ns.idxOf k : Nat)) S
  | _ => False
def liB (mb : ME) (ρ : Env) (P : D → Sto → Prop) (X : Ex → Sto → Prop) (S1 : Sto) (ds : List D) : Prop := ∃ ns : List Bool, ds = ns.map D.bl ∧ mb ρ S1 (fun y S2 => r1 S2 y fun y' => lkB ns P S2 y') X
theorem w_mLIdxB (h : ma ρ S (fun d S1 => asL (fun ds => liB mb ρ P X S1 ds) d) X) : mLIdxB ma mb ρ S P X := by
  have e : ∀ (ns : List Bool) (y : D) (S2 : Sto), (∃ k : Bool, S2.rs y = .bl k ∧ k ∈ ns ∧ P (.int (ns.idxOf k : Nat)) S2) = (r1 S2 y fun y' => lkB ns P S2 y') := fun ns y S2 => by
    unfold r1
    generalize S2.rs y = z
    refine propext ⟨fun ⟨k, e, h1, h2⟩ => ?_, fun h => ?_⟩
    · subst e; exact ⟨h1, h2⟩
    · match z, h with
      | .bl k, h => exact ⟨k, rfl, h.1, h.2⟩
  unfold mLIdxB
  simp only [e]
  exact h
theorem w_liB {ns : List Bool} (h : mb ρ S (fun y S2 => r1 S2 y fun y' => lkB ns P S2 y') X) : liB mb ρ P X S (ns.map .bl) := ⟨ns, rfl, h⟩
theorem w_lkB {ns : List Bool} {k : Bool} (h : k ∈ ns ∧ P (.int (ns.idxOf k : Nat)) S) : lkB ns P S (.bl k) := h
theorem w_liK {ns : List Int} (h : mb ρ S (fun y S2 => r1 S2 y fun y' => lkK ns P S2 y') X) : liK mb ρ P X S (ns.map .int) := ⟨ns, rfl, h⟩
theorem w_lkK {ns : List Int} {k : Int} (h : k ∈ ns ∧ P (.int (ns.idxOf k : Nat)) S) : lkK ns P S (.int k) := h
def shOf (ρ : Env) (KE : Env → Prop) : Prop := KE (shut ρ)
theorem w_sh_nil (h : KE []) : shOf [] KE := h
theorem w_sh_va (h : shOf l fun l' => KE (.va d :: l')) : shOf (.va d :: l) KE := h
theorem w_sh_un (h : shOf l fun l' => KE (.un :: l')) : shOf (.un :: l) KE := h
theorem w_sh_ow (h : shOf l fun l' => KE (.un :: l')) : shOf (.ow d :: l) KE := h
theorem w_mLamI {RC : List Str} {cds : List (List Str × Option Str)} (h : shOf ρ fun ρ' => ma ρ' S (fun _ S1 => P .non S1) (fun x S1 => catD RC cds x P S1)) : mLamI RC cds ma ρ S P X := h
def stK (ds : List D) (n : Nat) (KE : Env → Prop) : Prop := KE (stEnv ds n)
theorem w_run {np n : Nat} (e : ds.length = np) (h : stK ds n fun ρ => m ρ S ⟨fun _ S' => P .non S', P, fun _ _ => False, fun _ _ => False, X⟩) : runM np n m ds S P X := ⟨e, h⟩
theorem w_runF {np n : Nat} (e : ds.length = np) (h : stK ds n fun ρ => m ρ S ⟨fun _ _ => False, P, fun _ _ => False, fun _ _ => False, X⟩) : runF np n m ds S P X := ⟨e, h⟩
theorem w_stK_cons {n : Nat} (h : stK ds n fun l => KE (.va d :: l)) : stK (d :: ds) n KE := h
theorem w_stK_0 (h : KE []) : stK [] 0 KE := h
theorem w_stK_s {n : Nat} (h : stK [] n fun l => KE (.un :: l)) : stK [] (n + 1) KE := by unfold stK stEnv at h ⊢; exact h
def i2K (t1 t2 : String) (d : D) (Pb : Bool → Prop) : Prop := match d.ty with
  | some s => Pb (isT s t1 || isT s t2)
  | none => False
theorem w_mIsi2 {t1 t2 : String} (h : ma ρ S (fun d S1 => r1 S1 d fun d' => i2K t1 t2 d' fun b => P (.bl b) S1) X) : mIsi2 t1 t2 ma ρ S P X := h
theorem w_i2K_non_list  {Pb : Bool → Prop} (h : Pb false) : i2K "list" "tuple" (.non) Pb := by show Pb (isT "NoneType" "list" || isT "NoneType" "tuple"); simp only [isT_all]; exact h
theorem w_i2K_non_int  {Pb : Bool → Prop} (h : Pb false) : i2K "int" "str" (.non) Pb := by show Pb (isT "NoneType" "int" || isT "NoneType" "str"); simp only [isT_all]; exact h
theorem w_i2K_bl_list {x : Bool} {Pb : Bool → Prop} (h : Pb false) : i2K "list" "tuple" (.bl x) Pb := by show Pb (isT "bool" "list" || isT "bool" "tuple"); simp only [isT_all]; exact h
theorem w_i2K_bl_int {x : Bool} {Pb : Bool → Prop} (h : Pb true) : i2K "int" "str" (.bl x) Pb := by show Pb (isT "bool" "int" || isT "bool" "str"); simp only [isT_all]; exact h
theorem w_i2K_int_list {x : Int} {Pb : Bool → Prop} (h : Pb false) : i2K "list" "tuple" (.int x) Pb := by show Pb (isT "int" "list" || isT "int" "tuple"); simp only [isT_all]; exact h
theorem w_i2K_int_int {x : Int} {Pb : Bool → Prop} (h : Pb true) : i2K "int" "str" (.int x) Pb := by show Pb (isT "int" "int" || isT "int" "str"); simp only [isT_all]; exact h
theorem w_i2K_str_list {x : Str} {Pb : Bool → Prop} (h : Pb false) : i2K "list" "tuple" (.str x) Pb := by show Pb (isT "str" "list" || isT "str" "tuple"); simp only [isT_all]; exact h
theorem w_i2K_str_int {x : Str} {Pb : Bool → Prop} (h : Pb true) : i2K "int" "str" (.str x) Pb := by show Pb (isT "str" "int" || isT "str" "str"); simp only [isT_all]; exact h
theorem w_i2K_lst_list  {Pb : Bool → Prop} (h : Pb true) : i2K "list" "tuple" (.lst ds) Pb := by show Pb (isT "list" "list" || isT "list" "tuple"); simp only [isT_all]; exact h
theorem w_i2K_lst_int  {Pb : Bool → Prop} (h : Pb false) : i2K "int" "str" (.lst ds) Pb := by show Pb (isT "list" "int" || isT "list" "str"); simp only [isT_all]; exact h
theorem w_i2K_tup_list  {Pb : Bool → Prop} (h : Pb true) : i2K "list" "tuple" (.tup ds) Pb := by show Pb (isT "tuple" "list" || isT "tuple" "tuple"); simp only [isT_all]; exact h
theorem w_i2K_tup_int  {Pb : Bool → Prop} (h : Pb false) : i2K "int" "str" (.tup ds) Pb := by show Pb (isT "tuple" "int" || isT "tuple" "str"); simp only [isT_all]; exact h
def sh1 : Sl → Sl
  | .ow _ => .un
  | s => s
theorem w_sh_g (h : shOf l fun l' => KE (sh1 a :: l')) : shOf (a :: l) KE := by unfold shOf shut at h ⊢; exact h
theorem w_mUp (h : ma ρ S (fun d S1 => asStr (fun z => z.length ≤ 5592405 ∧ P (.str (Txt.upper z)) S1) d) X) : mUp ma ρ S P X := h
def lnOf (ds : List D) (n : Nat) (A : Prop) : Prop := ds.length = n ∧ A
theorem w_lnOf {n : Nat} {A : Prop} (e : ds.length = n) (h : A) : lnOf ds n A := ⟨e, h⟩
theorem w_mCallN {n k : Nat} {mm : List D → M D} {mr' : MA} (h : mr ρ S (fun ds S1 => lnOf ds n (mr' ρ S1 (fun zs S2 => lnOf zs k (aOf ds zs fun as => mm as S2 P X)) X)) X) : mCallN n k mm mr mr' ρ S P X := h
theorem w_mNeg (h : ma ρ S (fun d S1 => asI (fun z => P (.int (-z)) S1) d) X) : mNeg ma ρ S P X := h
theorem w_mMakeN {c : Str} {n k : Nat} {mm : List D → M D} {mr' : MA} (h : mr ρ S (fun ds S1 => lnOf ds n (mr' ρ S1 (fun zs S2 => lnOf zs k (aOf ds zs fun as => mm (.ob S2.length :: as) (S2 ++ [.ins c []]) (moK P S2) X)) X)) X) : mMakeN c n k mm mr mr' ρ S P X := h
abbrev mlK (P : D → Sto → Prop) : List D → Sto → Prop := fun out S2 => P (.lst out) S2
theorem w_mMapLam {RC : List Str} {cds : List (List Str × Option Str)} {ms : List ME} {v : Nat} (e0 : isOw ρ[v]? = false) (e1 : v < ρ.length) (h : shOf ρ fun ρ' => mi ρ S (fun ds S1 => mapLm RC cds ms ρ' ds [] S1 (mlK P)) X) : mMapLam RC cds ms mi v ρ S P X := ⟨⟨e0, e1⟩, h⟩
theorem w_mapLm_nil {RC : List Str} {cds : List (List Str × Option Str)} {ms : List ME} {acc : List D} (h : PL acc S) : mapLm RC cds ms ρ [] acc S PL := by unfold mapLm; exact h
theorem w_mapLm_cons {RC : List Str} {cds : List (List Str × Option Str)} {ms : List ME} {acc : List D} {j : Nat} {m0 : ME} (e : ms[j]? = some m0) (e1 : acc.length < sizeLine) (h : m0 ρ S (fun _ S1 => mapLm RC cds ms ρ ds (acc ++ [.non]) S1 PL) (fun x S1 => catD RC cds x (fun d S2 => mapLm RC cds ms ρ ds (acc ++ [d]) S2 PL) S1)) : mapLm RC cds ms ρ (.clo j :: ds) acc S PL := by unfold mapLm; simp only [e]; exact ⟨e1, h⟩
theorem szle {n : Nat} (h : n ≤ 16777216) : n ≤ sizeLine := by rw [sizeLine_eq]; exact h
theorem szlt {n : Nat} (h : n < 16777216) : n < sizeLine := by rw [sizeLine_eq]; exact h
theorem forD_i {τ : Type} (r : τ → D) (xs : List τ) (I : List τ → Env → Sto → Prop) (h : ∀ dn x rest ρ S, xs = dn ++ x :: rest → I dn ρ S → ∀ N : Env → Sto → Prop, (∀ ρ' S', I (dn ++ [x]) ρ' S' → N ρ' S') → f (r x) ρ fun ρ1 => m ρ1 S ⟨N, rt, nx, N, X⟩)
    (h0 : I [] ρ S) (hP : ∀ ρ S, I xs ρ S → nx ρ S) : forD f m (xs.map r) ρ S ⟨nx, rt, bk, ct, X⟩ := forD_inv r xs I h h0 hP
theorem forD_r {n : Nat} {lo : Int} (I : Nat → Env → Sto → Prop) (h : ∀ j ρ S, j < n → I j ρ S → ∀ N : Env → Sto → Prop, (∀ ρ' S', I (j + 1) ρ' S' → N ρ' S') → f (.int (lo + (j : Int))) ρ fun ρ1 => m ρ1 S ⟨N, rt, nx, N, X⟩)
    (h0 : I 0 ρ S) (hP : ∀ ρ S, I n ρ S → nx ρ S) : forD f m (rngD lo n) ρ S ⟨nx, rt, bk, ct, X⟩ := by
  unfold rngD
  refine forD_i (fun i : Nat => D.int (lo + (i : Int))) (List.range n) (fun dn ρ S => I dn.length ρ S) (fun dn x rest ρ S e i N k => ?_) h0 fun ρ S i => hP ρ S (by rw [List.length_range] at i; exact i)
  have hx : x = dn.length := by
    have h1 : (List.range n)[dn.length]? = some x := by rw [e]; simp
    obtain ⟨h2, h3⟩ := List.getElem?_eq_some_iff.mp h1
    rw [List.getElem_range] at h3
    exact h3.symm
  subst hx
  refine h _ _ _ ?_ i N fun ρ' S' i' => k _ _ (by rw [List.length_append]; exact i')
  have := congrArg List.length e
  simp at this
  omega
end
end Nc

/-! one step of a reading -/
local macro_rules | `(tactic| walk_at "sq") => `(tactic| first
  | assumption | exact L2.SqL.of (by assumption) | exact L2.SqL.of L2.upd_same | exact L2.Same.seq Nc.same_del (by assumption) | exact L2.SqT.of (by assumption) | exact L2.SqT.of L2.upd_same)
local macro_rules | `(tactic| walk_at "ar") => `(tactic| first
  | (show (0 : Int) < _; omega)
  | exact Or.inl ⟨by omega, by omega⟩
  | exact Or.inr ⟨by omega, by omega⟩
  | exact ⟨by omega, by assumption⟩
  | exact ⟨by omega, by decide⟩
  | exact ⟨by omega, by omega, by omega⟩)
local macro_rules | `(tactic| walk_at "n") => `(tactic| first
  | with_reducible refine Nc.w_asg ?_
  | with_reducible refine Nc.w_gName ?_
  | ((with_reducible refine Nc.w_var (v := ?v0) ?h1 ?h2); (case h1 => exact rfl))
  | with_reducible refine Nc.w_c ?_
  | with_reducible refine Nc.w_op ?_
  | with_reducible refine Nc.w_I0 ?_
  | with_reducible refine Nc.w_cons ?_
  | with_reducible refine Nc.w_nil ?_
  | with_reducible refine Nc.w_CB ?_
  | with_reducible refine Nc.w_call ?_
  | with_reducible refine Nc.w_if ?_
  | with_reducible refine Nc.w_tTest ?_
  | with_reducible refine Nc.w_tB ?_
  | with_reducible refine Nc.w_bl ?_
  | with_reducible refine Nc.w_tNot ?_
  | with_reducible refine Nc.w_tAnd ?_
  | with_reducible refine Nc.w_tOr ?_
  | with_reducible refine Nc.w_ret ?_
  | with_reducible refine Nc.w_drop ?_
  | with_reducible refine Nc.w_next ?_
  | with_reducible refine Nc.w_retN ?_
  | with_reducible refine Nc.w_tup ?_
  | with_reducible refine Nc.w_lst ?_
  | with_reducible refine Nc.w_ifE ?_
  | with_reducible refine Nc.w_andV ?_
  | with_reducible refine Nc.w_orV ?_
  | with_reducible refine Nc.w_notV ?_
  | with_reducible refine Nc.w_chain ?_
  | with_reducible refine Nc.w_sl ?_
  | with_reducible refine Nc.w_noPart ?_
  | with_reducible refine Nc.w_part ?_
  | with_reducible refine Nc.w_int ?_
  | with_reducible refine Nc.w_un ?_
  | with_reducible refine Nc.w_BM ?_
  | with_reducible refine Nc.w_BM0 ?_
  | with_reducible refine Nc.w_gSub ?_
  | with_reducible refine Nc.w_par ?_
  | with_reducible refine Nc.w_yes ?_
  | ((with_reducible refine Nc.w_ixL (xs := ?xs0) (v := ?v0) ?h1 ?h2 ?h3); (case h1 => walk_at "sq"); (case h2 => exact rfl))
  | ((with_reducible refine Nc.w_setL (xs := ?xs0) (j := ?j0) ?h1 ?h2 ?h3); (case h1 => assumption); (case h2 => exact rfl); intro _ _ _)
  | ((with_reducible refine Nc.w_len (xs := ?xs0) ?h1 ?h2); (case h1 => walk_at "sq"))
  | with_reducible refine L2.iteF ?_
  | with_reducible refine Nc.w_iteNT ?_
  | with_reducible refine Nc.w_iteNF ?_
  | with_reducible refine Nc.w_for ?_
  | with_reducible refine Nc.w_lc ?_
  | with_reducible refine Nc.w_iList ?_
  | with_reducible refine Nc.w_iStr ?_
  | with_reducible refine Nc.w_iStrR ?_
  | with_reducible refine Nc.w_iZipS ?_
  | with_reducible refine Nc.w_iRng1 ?_
  | with_reducible refine Nc.w_iEnum ?_
  | with_reducible refine Nc.w_isN_non ?_
  | with_reducible refine Nc.w_isN_int ?_
  | with_reducible refine Nc.w_isN_str ?_
  | with_reducible refine Nc.w_isN_bl ?_
  | with_reducible refine Nc.w_isN_ref ?_
  | with_reducible refine Nc.w_notN_non ?_
  | with_reducible refine Nc.w_notN_int ?_
  | with_reducible refine Nc.w_notN_str ?_
  | with_reducible refine Nc.w_notN_bl ?_
  | with_reducible refine Nc.w_notN_ref ?_
  | with_reducible refine Nc.w_dsetdT ?_
  | with_reducible refine Nc.w_dgetT ?_
  | ((with_reducible refine Nc.w_isDK (kvs := ?xs0) ?h1 ?h2); (case h1 => assumption))
  | ((with_reducible refine Nc.w_lenDN (kvs := ?xs0) ?h1 ?h2); (case h1 => assumption))
  | ((with_reducible refine Nc.w_isiInt (d := ?d0) ?h1 ?h2); (case h1 => assumption))
  | ((with_reducible refine Nc.w_isiBool (d := ?d0) ?h1 ?h2); (case h1 => assumption))
  | ((with_reducible refine Nc.w_isiStr (d := ?d0) ?h1 ?h2); (case h1 => assumption))
  | ((with_reducible refine Nc.w_isiTup (d := ?d0) ?h1 ?h2); (case h1 => assumption))
  | ((with_reducible refine Nc.w_isiList (d := ?d0) ?h1 ?h2); (case h1 => assumption))
  | ((with_reducible refine Nc.w_iRngR ?h1 ?h2 ?h3); (case h1 => omega); (case h2 => omega))
  | with_reducible refine Nc.w_M1 ?_
  | with_reducible refine Nc.w_strAnd ?_
  | with_reducible refine Nc.w_lstRg ?_
  | with_reducible refine Nc.w_rg1 ?_
  | with_reducible refine Nc.w_gCons ?_
  | with_reducible refine Nc.w_gNil ?_
  | with_reducible refine Nc.w_geStr ?_
  | ((with_reducible refine Nc.w_gTup (xs := ?xs0) ?h1 ?h2 ?h3); (case h1 => walk_at "sq"); (case h2 => exact rfl))
  | ((with_reducible refine Nc.w_tyL (xs := ?xs0) ?h1 ?h2); (case h1 => walk_at "sq"))
  | ((with_reducible refine Nc.w_iListR (xs := ?xs0) ?h1 ?h2); (case h1 => walk_at "sq"))
  | ((with_reducible refine Nc.w_iEnumR (xs := ?xs0) ?h1 ?h2); (case h1 => walk_at "sq"))
  | with_reducible refine L2.iteT ?_
  | with_reducible refine Nc.w_inSign ?_
  | with_reducible refine Nc.w_notInSign ?_
  | ((with_reducible refine Nc.w_I ?h1 ?h2); (case h1 => walk_at "ar"))
  | ((with_reducible refine Nc.w_EqSame ?h1 ?h2); (case h1 => exact rfl))
  | ((with_reducible refine Nc.w_NeSame ?h1 ?h2); (case h1 => exact rfl))
  | ((with_reducible refine Nc.w_Eq ?h1 ?h2); (case h1 => exact rfl))
  | ((with_reducible refine Nc.w_Ne ?h1 ?h2); (case h1 => exact rfl))
  | ((with_reducible refine Nc.w_iteT (b := Nc.isIntD _) ?h1 ?h2); (case h1 => exact rfl))
  | ((with_reducible refine Nc.w_iteF (b := Nc.isIntD _) ?h1 ?h2); (case h1 => exact rfl))
  | ((with_reducible refine Nc.w_iteT (b := Nc.isBoolD _) ?h1 ?h2); (case h1 => exact rfl))
  | ((with_reducible refine Nc.w_iteF (b := Nc.isBoolD _) ?h1 ?h2); (case h1 => exact rfl))
  | ((with_reducible refine Nc.w_iteT (b := Nc.isStrD _) ?h1 ?h2); (case h1 => exact rfl))
  | ((with_reducible refine Nc.w_iteF (b := Nc.isStrD _) ?h1 ?h2); (case h1 => exact rfl))
  | ((with_reducible refine Nc.w_iteT (b := Nc.isTupD _) ?h1 ?h2); (case h1 => exact rfl))
  | ((with_reducible refine Nc.w_iteF (b := Nc.isTupD _) ?h1 ?h2); (case h1 => exact rfl))
  | ((with_reducible refine Nc.w_iteT (b := Nc.isListD _) ?h1 ?h2); (case h1 => exact rfl))
  | ((with_reducible refine Nc.w_iteF (b := Nc.isListD _) ?h1 ?h2); (case h1 => exact rfl))
  | ((with_reducible refine Nc.w_iteT (b := (Nc.isBoolD _ || Nc.isBoolD _)) ?h1 ?h2); (case h1 => exact rfl))
  | ((with_reducible refine Nc.w_iteF (b := (Nc.isBoolD _ || Nc.isBoolD _)) ?h1 ?h2); (case h1 => exact rfl))
  | ((with_reducible refine Nc.w_iteT (b := (!Nc.isTupD _)) ?h1 ?h2); (case h1 => exact rfl))
  | ((with_reducible refine Nc.w_iteF (b := (!Nc.isTupD _)) ?h1 ?h2); (case h1 => exact rfl))
  | ((with_reducible refine Nc.w_iteT (b := (!Nc.isStrD _)) ?h1 ?h2); (case h1 => exact rfl))
  | ((with_reducible refine Nc.w_iteF (b := (!Nc.isStrD _)) ?h1 ?h2); (case h1 => exact rfl)))
local macro_rules | `(tactic| walk_at "s") => `(tactic| first | with_reducible refine Nc.w_seq ?_ | walk_at "n")
local macro_rules | `(tactic| walk_at "S") => `(tactic| ((repeat walk_at "s"); try dsimp only))
local macro_rules | `(tactic| walk_at "N") => `(tactic| ((repeat walk_at "n"); try dsimp only))
local macro_rules | `(tactic| walk_at "D") => `(tactic| dsimp only [L2.cxOf, L2.start, List.map_cons, List.map, List.map_nil, List.length_cons, List.length_nil, Nat.reduceAdd, Nat.reduceSub, List.replicate, List.cons_append, List.nil_append])
local macro_rules | `(tactic| walk_at "B") => `(tactic| (dsimp only [L2.cxOf, L2.start, List.map_cons, List.map, List.map_nil, List.length_cons, List.length_nil, Nat.reduceAdd, Nat.reduceSub, List.replicate, List.cons_append, List.nil_append]; walk_at "S"))

/-! one step of a meaning -/
local macro_rules | `(tactic| walk_at "M") => `(tactic| try simp (implicitDefEqProofs := false) only [↓Nc.fS, ↓Nc.x_mSc, ↓Nc.x_mGen, ↓Nc.x_mDc, ↓Nc.x_kParOw, ↓Nc.x_kDPut, ↓Nc.x_kFrzD, ↓Nc.x_kRetOwD, ↓Nc.mLstR1, ↓Nc.fRep, ↓Nc.mTIdx, ↓Nc.mLenX, ↓Nc.mSo, ↓Nc.asLT, ↓Nc.mSortX, ↓Nc.mXGet, ↓Nc.mXIn, ↓Nc.mXGet1, ↓Nc.mXGet2, ↓Nc.mLock, ↓Nc.asDic, ↓Nc.mIKX, ↓Nc.mIVX, ↓Nc.mIIX, ne_eq, ↓Nc.runM, ↓Nc.runF, ↓Nc.stEnv, ↓Nc.x_kSeq, ↓Nc.x_kNext, ↓Nc.x_kBreak, ↓Nc.x_kCont, ↓Nc.x_kNever, ↓Nc.x_kAsg, ↓Nc.x_kRet, ↓Nc.x_kRetN, ↓Nc.x_kDrop, ↓Nc.x_kIf, ↓Nc.x_kOwn, ↓Nc.x_kFrz, ↓Nc.frz, ↓Nc.x_kRetOw, ↓Nc.x_kApp, ↓Nc.x_kExt, ↓Nc.x_kFor, ↓Nc.x_kPar, ↓Nc.x_kAug, ↓Nc.x_kAsgS, ↓Nc.x_kRaise1, ↓Nc.x_kRaise0, ↓Nc.mC, ↓Nc.mVar, ↓Nc.mVarQ, ↓Nc.mOp, ↓Nc.mNil, ↓Nc.mCons, ↓Nc.mTup, ↓Nc.mLst, ↓Nc.x_mCall, ↓Nc.x_mMeth, ↓Nc.x_mMake, ↓Nc.x_mMakeV, ↓Nc.x_kFSet, ↓Nc.x_kFAug, ↓Nc.mFld, Nc.ob_get, Nc.ob_set, Nc.ob_take, Nc.fields_ob, Nc.fields_ins, Nc.putD_nil, Nc.putD_cons, Option.bind_some, ↓Nc.mNew, ↓Nc.Ob.of, ↓Nc.mIC, ↓Nc.mIZZ, ↓Nc.mIZS, ↓Nc.mIZL, ↓Nc.asZZ, ↓Nc.asZS, ↓Nc.asZL, Nc.srcD, ↓Nc.fStrA, ↓Nc.fAddS, ↓Nc.fIntS, ↓Nc.mSw, ↓Nc.mFmt, ↓Nc.mJoined, ↓Nc.mJs, ↓Nc.x_mNotInTbl, ↓Nc.x_lcn, ↓Nc.x_lcc, ↓Nc.x_forn, ↓Nc.x_forc, List.lookup_cons, List.lookup_nil, Nc.strBeqLit, Nc.vD_int, Nc.inV_nil, Nc.inV_cons, Nc.eqV_ss, Nc.eqV_ii, Nc.v_str, Nc.v_int, Nc.v_non, Nc.v_bl, Nc.flat_str, Nc.flat_int, Nc.flat_non, Nc.flat_bl, Nc.cutL_1c, Nc.cutL_1n, Nc.cutL_all, Nc.vD_str, Option.isSome_some, Option.isSome_none, Option.getD_some, Option.getD_none, ↓Nc.stS_0, ↓Nc.stS_s, ↓Nc.x_kWhile, ↓Nc.mCB, ↓Nc.mNo, ↓Nc.mSome, ↓Nc.mSl, ↓Nc.mB, ↓Nc.mNot, ↓Nc.mAnd, ↓Nc.mOr, ↓Nc.mAndV, ↓Nc.mOrV, ↓Nc.mNotV, ↓Nc.mIf, ↓Nc.mChain, ↓Nc.mIL, ↓Nc.mIT, ↓Nc.mIS, ↓Nc.mIR1, ↓Nc.mIR2, ↓Nc.mIE, ↓Nc.x_mLc, ↓Nc.mYes, ↓Nc.mIsi2, ↓Nc.mJoin, ↓Nc.mMaxDef, ↓Nc.x_mInTbl, ↓Nc.x_mIxTbl, ↓Nc.x_mDispGet, Nc.lkp_cons, Nc.lkp_nil, ↓Nc.mSortSet, ↓Nc.fI, ↓Nc.fI0, ↓Nc.fLen, ↓Nc.fAll, ↓Nc.fAny, ↓Nc.fSum, ↓Nc.fListOf, ↓Nc.fListText, ↓Nc.fIx, ↓Nc.fSlL, ↓Nc.fSlT, ↓Nc.fSlS, ↓Nc.fAdd, ↓Nc.fEq, ↓Nc.fIs, ↓Nc.fIn, ↓Nc.fIsi, ↓Nc.fSortS, ↓Nc.fSortI, ↓Nc.fMax2, ↓Nc.fMin2, ↓Nc.fInt1, ↓Nc.fTupleOf, ↓Nc.fMaxL, ↓Nc.asI, ↓Nc.asL, ↓Nc.asT, ↓Nc.asS, ↓Nc.asB, ↓Nc.asE, ↓Nc.asR1, ↓Nc.asR2, ↓Nc.asStr, ↓Nc.mName, ↓Nc.mgNil, ↓Nc.mgCons, ↓Nc.mgTup, ↓Nc.wipeD, ↓Nc.isOw, ↓Nc.rs_non, ↓Nc.rs_bl, ↓Nc.rs_int, ↓Nc.rs_str, ↓Nc.rs_lst, ↓Nc.rs_tup, ↓Nc.rs_dic, ↓Nc.rs_ins, ↓Nc.rs_bag, ↓Nc.rs_raw, Nc.ty_non, Nc.ty_bl, Nc.ty_int, Nc.ty_str, Nc.ty_lst, Nc.ty_tup, Nc.isN_non, Nc.isN_bl, Nc.isN_int, Nc.isN_str, Nc.isN_lst, Nc.isN_tup, Nc.tyMem, Nc.isT_all, Nc.litOk, Nc.atI_0, Nc.atI_1, Nc.atI_2, Nc.nc0, Nc.nc1, Nc.nc2, Nc.nc3, Nc.nc4, Nc.nc5, Nc.eqv_lnil, Nc.eqv_lnl, Nc.ok_lnil, Nc.sg_len, Nc.ofL_len, Nc.sg_toL, Nc.ofL_toL, List.isEmpty_nil, List.isEmpty_cons, String.reduceEq, Int.reduceEq, Int.reduceNe, Nc.strEqLit, Nc.ok_int, Nc.ok_bl, Nc.ok_non, Nc.ok_str, Nc.eqv_int, Nc.eqv_str, Nc.eqv_bl, Nc.eqv_non, List.map_cons, List.map_nil, List.cons_append, List.nil_append, List.append_nil, List.length_cons, List.length_nil, List.getElem?_cons_zero, List.getElem?_cons_succ, List.set_cons_zero, List.set_cons_succ, List.replicate_succ, List.replicate_zero, List.take_succ_cons, List.take_zero, List.drop_succ_cons, List.drop_zero, List.mem_cons, List.not_mem_nil, List.forall_mem_cons, forall_eq_or_imp, forall_eq, Bool.false_eq_true, ↓reduceIte, ↓reduceDIte, true_and, and_true, false_and, and_false, Bool.not_true, Bool.not_false, decide_true, decide_false, decide_eq_true_eq, not_true_eq_false, not_false_eq_true, reduceCtorEq, Nat.reduceAdd, Nat.reduceLeDiff, Nat.reduceLT, Nat.reduceEqDiff, Nat.zero_add, forall_const, implies_true, Nat.lt_add_one, Nat.succ_ne_self, Nat.add_one_sub_one, Nc.szl, List.forall_mem_nil, or_false, false_or, or_true, true_or, Bool.and_true, Bool.true_and, Bool.and_false, Bool.false_and, Bool.or_true, Bool.true_or, Bool.or_false, Bool.false_or, eq_self, Bool.not_eq_true, Bool.decide_eq_true, Nat.le_refl, Int.natCast_add, Int.reduceAdd, Int.reduceLT, Int.reduceLE])
local macro_rules | `(tactic| walk_at "R") => `(tactic| try simp (implicitDefEqProofs := false) only [↓Nc.fS, ↓Nc.x_mSc, ↓Nc.x_mGen, ↓Nc.x_mDc, ↓Nc.x_kParOw, ↓Nc.x_kDPut, ↓Nc.x_kFrzD, ↓Nc.x_kRetOwD, ↓Nc.mLstR1, ↓Nc.fRep, ↓Nc.mTIdx, ↓Nc.mLenX, ↓Nc.mSo, ↓Nc.asLT, ↓Nc.mSortX, ↓Nc.mXGet, ↓Nc.mXIn, ↓Nc.mXGet1, ↓Nc.mXGet2, ↓Nc.mLock, ↓Nc.asDic, ↓Nc.mIKX, ↓Nc.mIVX, ↓Nc.mIIX, ne_eq, ↓Nc.runM, ↓Nc.runF, ↓Nc.stEnv, ↓Nc.x_kSeq, ↓Nc.x_kNext, ↓Nc.x_kBreak, ↓Nc.x_kCont, ↓Nc.x_kNever, ↓Nc.x_kAsg, ↓Nc.x_kRet, ↓Nc.x_kRetN, ↓Nc.x_kDrop, ↓Nc.x_kIf, ↓Nc.x_kOwn, ↓Nc.x_kFrz, ↓Nc.frz, ↓Nc.x_kRetOw, ↓Nc.x_kApp, ↓Nc.x_kExt, ↓Nc.x_kFor, ↓Nc.x_kPar, ↓Nc.x_kAug, ↓Nc.x_kAsgS, ↓Nc.x_kRaise1, ↓Nc.x_kRaise0, ↓Nc.mC, ↓Nc.mVar, ↓Nc.mVarQ, ↓Nc.mOp, ↓Nc.mNil, ↓Nc.mCons, ↓Nc.mTup, ↓Nc.mLst, Nc.let_eq, Nc.tl_dash, Nc.tl_sq, Nc.tl_cu, Nc.tl_an, Nc.nl_dash, Nc.nl_sq, Nc.nl_cu, Nc.nl_an, ↓Nc.x_mCall, ↓Nc.x_mMeth, ↓Nc.x_mMake, ↓Nc.x_mMakeV, ↓Nc.x_kFSet, ↓Nc.x_kFAug, ↓Nc.mFld, Nc.ob_get, Nc.ob_set, Nc.ob_take, Nc.fields_ob, Nc.fields_ins, Nc.putD_nil, Nc.putD_cons, Option.bind_some, ↓Nc.mNew, ↓Nc.Ob.of, ↓Nc.mIC, ↓Nc.mIZZ, ↓Nc.mIZS, ↓Nc.mIZL, ↓Nc.asZZ, ↓Nc.asZS, ↓Nc.asZL, Nc.srcD, ↓Nc.fStrA, ↓Nc.fAddS, ↓Nc.fIntS, ↓Nc.mSw, ↓Nc.mFmt, ↓Nc.mJoined, ↓Nc.mJs, ↓Nc.x_mNotInTbl, ↓Nc.x_lcn, ↓Nc.x_lcc, ↓Nc.x_forn, ↓Nc.x_forc, List.lookup_cons, List.lookup_nil, Nc.strBeqLit, Nc.vD_int, Nc.inV_nil, Nc.inV_cons, Nc.eqV_ss, Nc.eqV_ii, Nc.v_str, Nc.v_int, Nc.v_non, Nc.v_bl, Nc.flat_str, Nc.flat_int, Nc.flat_non, Nc.flat_bl, Nc.cutL_1c, Nc.cutL_1n, Nc.cutL_all, Nc.vD_str, Option.isSome_some, Option.isSome_none, Option.getD_some, Option.getD_none, ↓Nc.stS_0, ↓Nc.stS_s, ↓Nc.x_kWhile, ↓Nc.mCB, ↓Nc.mNo, ↓Nc.mSome, ↓Nc.mSl, ↓Nc.mB, ↓Nc.mNot, ↓Nc.mAnd, ↓Nc.mOr, ↓Nc.mAndV, ↓Nc.mOrV, ↓Nc.mNotV, ↓Nc.mIf, ↓Nc.mChain, ↓Nc.mIL, ↓Nc.mIT, ↓Nc.mIS, ↓Nc.mIR1, ↓Nc.mIR2, ↓Nc.mIE, ↓Nc.x_mLc, ↓Nc.mYes, ↓Nc.mIsi2, ↓Nc.mJoin, ↓Nc.mMaxDef, ↓Nc.x_mInTbl, ↓Nc.x_mIxTbl, ↓Nc.x_mDispGet, Nc.lkp_cons, Nc.lkp_nil, ↓Nc.mSortSet, ↓Nc.fI, ↓Nc.fI0, ↓Nc.fLen, ↓Nc.fAll, ↓Nc.fAny, ↓Nc.fSum, ↓Nc.fListOf, ↓Nc.fListText, ↓Nc.fIx, ↓Nc.fSlL, ↓Nc.fSlT, ↓Nc.fSlS, ↓Nc.fAdd, ↓Nc.fEq, ↓Nc.fIs, ↓Nc.fIn, ↓Nc.fIsi, ↓Nc.fSortS, ↓Nc.fSortI, ↓Nc.fMax2, ↓Nc.fMin2, ↓Nc.fInt1, ↓Nc.fTupleOf, ↓Nc.fMaxL, ↓Nc.asI, ↓Nc.asL, ↓Nc.asT, ↓Nc.asS, ↓Nc.asB, ↓Nc.asE, ↓Nc.asR1, ↓Nc.asR2, ↓Nc.asStr, ↓Nc.mName, ↓Nc.mgNil, ↓Nc.mgCons, ↓Nc.mgTup, ↓Nc.wipeD, ↓Nc.isOw, ↓Nc.rs_non, ↓Nc.rs_bl, ↓Nc.rs_int, ↓Nc.rs_str, ↓Nc.rs_lst, ↓Nc.rs_tup, ↓Nc.rs_dic, ↓Nc.rs_ins, ↓Nc.rs_bag, ↓Nc.rs_raw, Nc.ty_non, Nc.ty_bl, Nc.ty_int, Nc.ty_str, Nc.ty_lst, Nc.ty_tup, Nc.isN_non, Nc.isN_bl, Nc.isN_int, Nc.isN_str, Nc.isN_lst, Nc.isN_tup, Nc.tyMem, Nc.isT_all, Nc.litOk, Nc.atI_0, Nc.atI_1, Nc.atI_2, Nc.nc0, Nc.nc1, Nc.nc2, Nc.nc3, Nc.nc4, Nc.nc5, Nc.eqv_lnil, Nc.eqv_lnl, Nc.ok_lnil, Nc.sg_len, Nc.ofL_len, Nc.sg_toL, Nc.ofL_toL, List.isEmpty_nil, List.isEmpty_cons, String.reduceEq, Int.reduceEq, Int.reduceNe, Nc.strEqLit, Nc.ok_int, Nc.ok_bl, Nc.ok_non, Nc.ok_str, Nc.eqv_int, Nc.eqv_str, Nc.eqv_bl, Nc.eqv_non, List.map_cons, List.map_nil, List.cons_append, List.nil_append, List.append_nil, List.length_cons, List.length_nil, List.getElem?_cons_zero, List.getElem?_cons_succ, List.set_cons_zero, List.set_cons_succ, List.replicate_succ, List.replicate_zero, List.take_succ_cons, List.take_zero, List.drop_succ_cons, List.drop_zero, List.mem_cons, List.not_mem_nil, List.forall_mem_cons, forall_eq_or_imp, forall_eq, Bool.false_eq_true, ↓reduceIte, ↓reduceDIte, true_and, and_true, false_and, and_false, Bool.not_true, Bool.not_false, decide_true, decide_false, decide_eq_true_eq, not_true_eq_false, not_false_eq_true, reduceCtorEq, Nat.reduceAdd, Nat.reduceLeDiff, Nat.reduceLT, Nat.reduceEqDiff, Nat.zero_add, forall_const, implies_true, Nat.lt_add_one, Nat.succ_ne_self, Nat.add_one_sub_one, Nc.szl, List.forall_mem_nil, or_false, false_or, or_true, true_or, Bool.and_true, Bool.true_and, Bool.and_false, Bool.false_and, Bool.or_true, Bool.true_or, Bool.or_false, Bool.false_or, eq_self, Bool.not_eq_true, Bool.decide_eq_true, Nat.le_refl, Int.natCast_add, Int.reduceAdd, Int.reduceLT, Int.reduceLE])
local macro_rules | `(tactic| walk_at "F") => `(tactic| try simp (implicitDefEqProofs := false) only [↓Nc.fS, ↓Nc.x_mSc, ↓Nc.x_mGen, ↓Nc.x_mDc, ↓Nc.x_kParOw, ↓Nc.x_kDPut, ↓Nc.x_kFrzD, ↓Nc.x_kRetOwD, ↓Nc.mLstR1, ↓Nc.fRep, ↓Nc.mTIdx, ↓Nc.mLenX, ↓Nc.mSo, ↓Nc.asLT, ↓Nc.mSortX, ↓Nc.mXGet, ↓Nc.mXIn, ↓Nc.mXGet1, ↓Nc.mXGet2, ↓Nc.mLock, ↓Nc.asDic, ↓Nc.mIKX, ↓Nc.mIVX, ↓Nc.mIIX, ne_eq, ↓Nc.runM, ↓Nc.runF, ↓Nc.stEnv, ↓Nc.x_kSeq, ↓Nc.x_kNext, ↓Nc.x_kBreak, ↓Nc.x_kCont, ↓Nc.x_kNever, ↓Nc.x_kAsg, ↓Nc.x_kRet, ↓Nc.x_kRetN, ↓Nc.x_kDrop, ↓Nc.x_kIf, ↓Nc.x_kOwn, ↓Nc.x_kFrz, ↓Nc.frz, ↓Nc.x_kRetOw, ↓Nc.x_kApp, ↓Nc.x_kExt, ↓Nc.x_kFor, ↓Nc.x_kPar, ↓Nc.x_kAug, ↓Nc.x_kAsgS, ↓Nc.x_kRaise1, ↓Nc.x_kRaise0, ↓Nc.mC, ↓Nc.mVar, ↓Nc.mVarQ, ↓Nc.mOp, ↓Nc.mNil, ↓Nc.mCons, ↓Nc.mTup, ↓Nc.mLst, ↓Nc.x_mCall, ↓Nc.x_mMeth, ↓Nc.x_mMake, ↓Nc.x_mMakeV, ↓Nc.x_kFSet, ↓Nc.x_kFAug, ↓Nc.mFld, Nc.ob_get, Nc.ob_set, Nc.ob_take, Nc.fields_ob, Nc.fields_ins, Nc.putD_nil, Nc.putD_cons, Option.bind_some, ↓Nc.mNew, ↓Nc.Ob.of, ↓Nc.mIC, ↓Nc.mIZZ, ↓Nc.mIZS, ↓Nc.mIZL, ↓Nc.asZZ, ↓Nc.asZS, ↓Nc.asZL, Nc.srcD, ↓Nc.fStrA, ↓Nc.fAddS, ↓Nc.fIntS, ↓Nc.mSw, ↓Nc.mFmt, ↓Nc.mJoined, ↓Nc.mJs, ↓Nc.x_mNotInTbl, ↓Nc.x_lcn, ↓Nc.x_lcc, List.lookup_cons, List.lookup_nil, Nc.strBeqLit, Nc.vD_int, Nc.inV_nil, Nc.inV_cons, Nc.eqV_ss, Nc.eqV_ii, Nc.v_str, Nc.v_int, Nc.v_non, Nc.v_bl, Nc.flat_str, Nc.flat_int, Nc.flat_non, Nc.flat_bl, Nc.cutL_1c, Nc.cutL_1n, Nc.cutL_all, Nc.vD_str, Option.isSome_some, Option.isSome_none, Option.getD_some, Option.getD_none, ↓Nc.stS_0, ↓Nc.stS_s, ↓Nc.x_kWhile, ↓Nc.mCB, ↓Nc.mNo, ↓Nc.mSome, ↓Nc.mSl, ↓Nc.mB, ↓Nc.mNot, ↓Nc.mAnd, ↓Nc.mOr, ↓Nc.mAndV, ↓Nc.mOrV, ↓Nc.mNotV, ↓Nc.mIf, ↓Nc.mChain, ↓Nc.mIL, ↓Nc.mIT, ↓Nc.mIS, ↓Nc.mIR1, ↓Nc.mIR2, ↓Nc.mIE, ↓Nc.x_mLc, ↓Nc.mYes, ↓Nc.mIsi2, ↓Nc.mJoin, ↓Nc.mMaxDef, ↓Nc.x_mInTbl, ↓Nc.x_mIxTbl, ↓Nc.x_mDispGet, Nc.lkp_cons, Nc.lkp_nil, ↓Nc.mSortSet, ↓Nc.fI, ↓Nc.fI0, ↓Nc.fLen, ↓Nc.fAll, ↓Nc.fAny, ↓Nc.fSum, ↓Nc.fListOf, ↓Nc.fListText, ↓Nc.fIx, ↓Nc.fSlL, ↓Nc.fSlT, ↓Nc.fSlS, ↓Nc.fAdd, ↓Nc.fEq, ↓Nc.fIs, ↓Nc.fIn, ↓Nc.fIsi, ↓Nc.fSortS, ↓Nc.fSortI, ↓Nc.fMax2, ↓Nc.fMin2, ↓Nc.fInt1, ↓Nc.fTupleOf, ↓Nc.fMaxL, ↓Nc.asI, ↓Nc.asL, ↓Nc.asT, ↓Nc.asS, ↓Nc.asB, ↓Nc.asE, ↓Nc.asR1, ↓Nc.asR2, ↓Nc.asStr, ↓Nc.mName, ↓Nc.mgNil, ↓Nc.mgCons, ↓Nc.mgTup, ↓Nc.wipeD, ↓Nc.isOw, ↓Nc.rs_non, ↓Nc.rs_bl, ↓Nc.rs_int, ↓Nc.rs_str, ↓Nc.rs_lst, ↓Nc.rs_tup, ↓Nc.rs_dic, ↓Nc.rs_ins, ↓Nc.rs_bag, ↓Nc.rs_raw, Nc.ty_non, Nc.ty_bl, Nc.ty_int, Nc.ty_str, Nc.ty_lst, Nc.ty_tup, Nc.isN_non, Nc.isN_bl, Nc.isN_int, Nc.isN_str, Nc.isN_lst, Nc.isN_tup, Nc.tyMem, Nc.isT_all, Nc.litOk, Nc.atI_0, Nc.atI_1, Nc.atI_2, Nc.nc0, Nc.nc1, Nc.nc2, Nc.nc3, Nc.nc4, Nc.nc5, Nc.eqv_lnil, Nc.eqv_lnl, Nc.ok_lnil, Nc.sg_len, Nc.ofL_len, Nc.sg_toL, Nc.ofL_toL, List.isEmpty_nil, List.isEmpty_cons, String.reduceEq, Int.reduceEq, Int.reduceNe, Nc.strEqLit, Nc.ok_int, Nc.ok_bl, Nc.ok_non, Nc.ok_str, Nc.eqv_int, Nc.eqv_str, Nc.eqv_bl, Nc.eqv_non, List.map_cons, List.map_nil, List.cons_append, List.nil_append, List.append_nil, List.length_cons, List.length_nil, List.getElem?_cons_zero, List.getElem?_cons_succ, List.set_cons_zero, List.set_cons_succ, List.replicate_succ, List.replicate_zero, List.take_succ_cons, List.take_zero, List.drop_succ_cons, List.drop_zero, List.mem_cons, List.not_mem_nil, List.forall_mem_cons, forall_eq_or_imp, forall_eq, Bool.false_eq_true, ↓reduceIte, ↓reduceDIte, true_and, and_true, false_and, and_false, Bool.not_true, Bool.not_false, decide_true, decide_false, decide_eq_true_eq, not_true_eq_false, not_false_eq_true, reduceCtorEq, Nat.reduceAdd, Nat.reduceLeDiff, Nat.reduceLT, Nat.reduceEqDiff, Nat.zero_add, forall_const, implies_true, Nat.lt_add_one, Nat.succ_ne_self, Nat.add_one_sub_one, Nc.szl, List.forall_mem_nil, or_false, false_or, or_true, true_or, Bool.and_true, Bool.true_and, Bool.and_false, Bool.false_and, Bool.or_true, Bool.true_or, Bool.or_false, Bool.false_or, eq_self, Bool.not_eq_true, Bool.decide_eq_true, Nat.le_refl, Int.natCast_add, Int.reduceAdd, Int.reduceLT, Int.reduceLE])
local macro_rules | `(tactic| walk_at "N") => `(tactic| try simp only [↓Nc.fS, ↓Nc.x_mSc, ↓Nc.x_mGen, ↓Nc.x_mDc, ↓Nc.x_kParOw, ↓Nc.x_kDPut, ↓Nc.x_kFrzD, ↓Nc.x_kRetOwD, ↓Nc.mLstR1, ↓Nc.fRep, ↓Nc.mTIdx, ↓Nc.mLenX, ↓Nc.mSo, ↓Nc.asLT, ↓Nc.mSortX, ↓Nc.mXGet, ↓Nc.mXIn, ↓Nc.mXGet1, ↓Nc.mXGet2, ↓Nc.mLock, ↓Nc.asDic, ↓Nc.mIKX, ↓Nc.mIVX, ↓Nc.mIIX, ne_eq, ↓Nc.runM, ↓Nc.runF, ↓Nc.stEnv, ↓Nc.x_kSeq, ↓Nc.x_kNext, ↓Nc.x_kBreak, ↓Nc.x_kCont, ↓Nc.x_kNever, ↓Nc.x_kAsg, ↓Nc.x_kRet, ↓Nc.x_kRetN, ↓Nc.x_kDrop, ↓Nc.x_kIf, ↓Nc.x_kOwn, ↓Nc.x_kFrz, ↓Nc.frz, ↓Nc.x_kRetOw, ↓Nc.x_kApp, ↓Nc.x_kExt, ↓Nc.x_kFor, ↓Nc.x_kPar, ↓Nc.x_kAug, ↓Nc.x_kAsgS, ↓Nc.x_kRaise1, ↓Nc.x_kRaise0, ↓Nc.mC, ↓Nc.mVar, ↓Nc.mVarQ, ↓Nc.mOp, ↓Nc.mNil, ↓Nc.mCons, ↓Nc.mTup, ↓Nc.mLst, ↓Nc.x_mCall, ↓Nc.x_mMeth, ↓Nc.x_mMake, ↓Nc.x_mMakeV, ↓Nc.x_kFSet, ↓Nc.x_kFAug, ↓Nc.mFld, Nc.ob_get, Nc.ob_set, Nc.ob_take, Nc.fields_ob, Nc.fields_ins, Nc.putD_nil, Nc.putD_cons, Option.bind_some, ↓Nc.mNew, ↓Nc.Ob.of, ↓Nc.mIC, ↓Nc.mIZZ, ↓Nc.mIZS, ↓Nc.mIZL, ↓Nc.asZZ, ↓Nc.asZS, ↓Nc.asZL, Nc.srcD, ↓Nc.fStrA, ↓Nc.fAddS, ↓Nc.fIntS, ↓Nc.mSw, ↓Nc.mFmt, ↓Nc.mJoined, ↓Nc.mJs, ↓Nc.x_mNotInTbl, ↓Nc.x_lcn, ↓Nc.x_lcc, ↓Nc.x_forn, ↓Nc.x_forc, List.lookup_cons, List.lookup_nil, Nc.strBeqLit, Nc.vD_int, Nc.inV_nil, Nc.inV_cons, Nc.eqV_ss, Nc.eqV_ii, Nc.v_str, Nc.v_int, Nc.v_non, Nc.v_bl, Nc.flat_str, Nc.flat_int, Nc.flat_non, Nc.flat_bl, Nc.cutL_1c, Nc.cutL_1n, Nc.cutL_all, Nc.vD_str, Option.isSome_some, Option.isSome_none, Option.getD_some, Option.getD_none, ↓Nc.stS_0, ↓Nc.stS_s, ↓Nc.x_kWhile, ↓Nc.mCB, ↓Nc.mNo, ↓Nc.mSome, ↓Nc.mSl, ↓Nc.mB, ↓Nc.mNot, ↓Nc.mAnd, ↓Nc.mOr, ↓Nc.mAndV, ↓Nc.mOrV, ↓Nc.mNotV, ↓Nc.mIf, ↓Nc.mChain, ↓Nc.mIL, ↓Nc.mIT, ↓Nc.mIS, ↓Nc.mIR1, ↓Nc.mIR2, ↓Nc.mIE, ↓Nc.x_mLc, ↓Nc.mYes, ↓Nc.mIsi2, ↓Nc.mJoin, ↓Nc.mMaxDef, ↓Nc.x_mInTbl, ↓Nc.x_mIxTbl, ↓Nc.x_mDispGet, Nc.lkp_cons, Nc.lkp_nil, ↓Nc.mSortSet, ↓Nc.fI, ↓Nc.fI0, ↓Nc.fLen, ↓Nc.fAll, ↓Nc.fAny, ↓Nc.fSum, ↓Nc.fListOf, ↓Nc.fListText, ↓Nc.fIx, ↓Nc.fSlL, ↓Nc.fSlT, ↓Nc.fSlS, ↓Nc.fAdd, ↓Nc.fEq, ↓Nc.fIs, ↓Nc.fIn, ↓Nc.fIsi, ↓Nc.fSortS, ↓Nc.fSortI, ↓Nc.fMax2, ↓Nc.fMin2, ↓Nc.fInt1, ↓Nc.fTupleOf, ↓Nc.fMaxL, ↓Nc.asI, ↓Nc.asL, ↓Nc.asT, ↓Nc.asS, ↓Nc.asB, ↓Nc.asE, ↓Nc.asR1, ↓Nc.asR2, ↓Nc.asStr, ↓Nc.mName, ↓Nc.mgNil, ↓Nc.mgCons, ↓Nc.mgTup, ↓Nc.wipeD, ↓Nc.isOw, ↓Nc.rs_non, ↓Nc.rs_bl, ↓Nc.rs_int, ↓Nc.rs_str, ↓Nc.rs_lst, ↓Nc.rs_tup, ↓Nc.rs_dic, ↓Nc.rs_ins, ↓Nc.rs_bag, ↓Nc.rs_raw, Nc.ty_non, Nc.ty_bl, Nc.ty_int, Nc.ty_str, Nc.ty_lst, Nc.ty_tup, Nc.isN_non, Nc.isN_bl, Nc.isN_int, Nc.isN_str, Nc.isN_lst, Nc.isN_tup, Nc.tyMem, Nc.isT_all, Nc.litOk, Nc.atI_0, Nc.atI_1, Nc.atI_2, Nc.nc0, Nc.nc1, Nc.nc2, Nc.nc3, Nc.nc4, Nc.nc5, Nc.eqv_lnil, Nc.eqv_lnl, Nc.ok_lnil, Nc.sg_len, Nc.ofL_len, Nc.sg_toL, Nc.ofL_toL, List.isEmpty_nil, List.isEmpty_cons, String.reduceEq, Int.reduceEq, Int.reduceNe, Nc.strEqLit, Nc.ok_int, Nc.ok_bl, Nc.ok_non, Nc.ok_str, Nc.eqv_int, Nc.eqv_str, Nc.eqv_bl, Nc.eqv_non, List.map_cons, List.map_nil, List.cons_append, List.nil_append, List.append_nil, List.length_cons, List.length_nil, List.getElem?_cons_zero, List.getElem?_cons_succ, List.set_cons_zero, List.set_cons_succ, List.replicate_succ, List.replicate_zero, List.take_succ_cons, List.take_zero, List.drop_succ_cons, List.drop_zero, List.mem_cons, List.not_mem_nil, List.forall_mem_cons, forall_eq_or_imp, forall_eq, Bool.false_eq_true, ↓reduceIte, ↓reduceDIte, true_and, and_true, false_and, and_false, Bool.not_true, Bool.not_false, decide_true, decide_false, decide_eq_true_eq, not_true_eq_false, not_false_eq_true, reduceCtorEq, Nat.reduceAdd, Nat.reduceLeDiff, Nat.reduceLT, Nat.reduceEqDiff, Nat.zero_add, forall_const, implies_true, Nat.lt_add_one, Nat.succ_ne_self, Nat.add_one_sub_one, Nc.szl, List.forall_mem_nil, or_false, false_or, or_true, true_or, Bool.and_true, Bool.true_and, Bool.and_false, Bool.false_and, Bool.or_true, Bool.true_or, Bool.or_false, Bool.false_or, eq_self, Bool.not_eq_true, Bool.decide_eq_true, Nat.le_refl, Int.natCast_add, Int.reduceAdd, Int.reduceLT, Int.reduceLE])
local macro_rules | `(tactic| walk_at "W") => `(tactic| repeat (first | with_reducible apply Nc.w_mVar_z | with_reducible apply Nc.w_mVar_s | with_reducible apply Nc.w_mVarQ_z | with_reducible apply Nc.w_mVarQ_o | with_reducible apply Nc.w_mVarQ_s | with_reducible apply Nc.w_mName_z | with_reducible apply Nc.w_mName_s | with_reducible apply Nc.w_gOf_z | with_reducible apply Nc.w_gOf_s | with_reducible apply Nc.w_sOf_z | with_reducible apply Nc.w_sOf_s | with_reducible apply Nc.w_mC | with_reducible apply Nc.w_mNil | with_reducible apply Nc.w_mCons | with_reducible apply Nc.w_kSeq | with_reducible apply Nc.w_kAsg | with_reducible apply Nc.w_mOp | (with_reducible apply Nc.w_r1; (· (with_unfolding_all (first | exact rfl | with_reducible assumption)))) | (with_reducible apply Nc.w_r1l; (· (with_unfolding_all (first | with_reducible assumption | exact Nc.ob_get _ _ | exact rfl)))) | (with_reducible apply Nc.w_r1d; (· (with_unfolding_all (first | with_reducible assumption | exact Nc.ob_get _ _ | exact rfl)))) | with_reducible apply Nc.w_rA_nil | with_reducible apply Nc.w_rA_cons | with_reducible apply Nc.w_aOf_nil | with_reducible apply Nc.w_aOf_cons | with_reducible apply Nc.w_mCall | with_reducible apply Nc.w_mCB | with_reducible apply Nc.w_kIf | with_reducible apply Nc.w_mB | with_reducible apply Nc.w_asB | with_reducible apply Nc.w_ite_t | with_reducible apply Nc.w_ite_f | with_reducible apply Nc.w_ite_nf | with_reducible apply Nc.w_ite_nt | with_reducible apply Nc.w_kRet | with_reducible apply Nc.w_kNext | with_reducible apply Nc.w_mNot | with_reducible apply Nc.w_mAnd | with_reducible apply Nc.w_mOr | with_reducible apply Nc.w_mAndV | with_reducible apply Nc.w_mOrV | with_reducible apply Nc.w_mNotV | with_reducible apply Nc.w_mIf | with_reducible apply Nc.w_mTup | with_reducible apply Nc.w_mLst | with_reducible apply Nc.w_fI0 | with_reducible apply Nc.w_fAdd_i | with_reducible apply Nc.w_fAdd_s | with_reducible apply Nc.w_fAdd_l | with_reducible apply Nc.w_fAdd_t | with_reducible apply Nc.w_fAddS | with_reducible apply Nc.w_fEq_if | with_reducible apply Nc.w_fEq_bf | (with_reducible apply Nc.w_fEq_sf; (· (with_unfolding_all (first | with_reducible assumption | with_reducible exact Nc.litOk _))); (· (with_unfolding_all (first | with_reducible assumption | with_reducible exact Nc.litOk _)))) | (with_reducible apply Nc.w_fIsf; (· (with_unfolding_all exact rfl))) | with_reducible apply Nc.w_fEq_it | with_reducible apply Nc.w_fEq_bt | (with_reducible apply Nc.w_fEq_st; (· (with_unfolding_all (first | with_reducible assumption | with_reducible exact Nc.litOk _))); (· (with_unfolding_all (first | with_reducible assumption | with_reducible exact Nc.litOk _)))) | (with_reducible apply Nc.w_fIst; (· (with_unfolding_all exact rfl))) | with_reducible apply Nc.w_fLen_l | with_reducible apply Nc.w_fLen_t | with_reducible apply Nc.w_fLen_s | with_reducible apply Nc.w_fAll | with_reducible apply Nc.w_fAny | with_reducible apply Nc.w_fSum | with_reducible apply Nc.w_fListOf_l | with_reducible apply Nc.w_fListOf_t | with_reducible apply Nc.w_fTupleOf_l | with_reducible apply Nc.w_fTupleOf_t | with_reducible apply Nc.w_fListText | with_reducible apply Nc.w_fInt1_i | with_reducible apply Nc.w_fInt1_b | with_reducible apply Nc.w_fMax2 | with_reducible apply Nc.w_fMin2 | with_reducible apply Nc.w_fIx_l0 | with_reducible apply Nc.w_fIx_t0 | with_reducible apply Nc.w_fIx_l1 | with_reducible apply Nc.w_fIx_t1 | with_reducible apply Nc.w_fIx_l2 | with_reducible apply Nc.w_fIx_t2 | with_reducible apply Nc.w_fIx_t3 | (with_reducible apply Nc.w_fIx_l; (· (with_unfolding_all (with_reducible assumption)))) | (with_reducible apply Nc.w_fIx_t; (· (with_unfolding_all (with_reducible assumption)))) | with_reducible apply Nc.w_fSlL | with_reducible apply Nc.w_fSlT | with_reducible apply Nc.w_fSlS | with_reducible apply Nc.w_fIsi_non_int | with_reducible apply Nc.w_fIsi_non_bool | with_reducible apply Nc.w_fIsi_non_str | with_reducible apply Nc.w_fIsi_non_tuple | with_reducible apply Nc.w_fIsi_non_list | with_reducible apply Nc.w_fIsi_bl_int | with_reducible apply Nc.w_fIsi_bl_bool | with_reducible apply Nc.w_fIsi_bl_str | with_reducible apply Nc.w_fIsi_bl_tuple | with_reducible apply Nc.w_fIsi_bl_list | with_reducible apply Nc.w_fIsi_int_int | with_reducible apply Nc.w_fIsi_int_bool | with_reducible apply Nc.w_fIsi_int_str | with_reducible apply Nc.w_fIsi_int_tuple | with_reducible apply Nc.w_fIsi_int_list | with_reducible apply Nc.w_fIsi_str_int | with_reducible apply Nc.w_fIsi_str_bool | with_reducible apply Nc.w_fIsi_str_str | with_reducible apply Nc.w_fIsi_str_tuple | with_reducible apply Nc.w_fIsi_str_list | with_reducible apply Nc.w_fIsi_lst_int | with_reducible apply Nc.w_fIsi_lst_bool | with_reducible apply Nc.w_fIsi_lst_str | with_reducible apply Nc.w_fIsi_lst_tuple | with_reducible apply Nc.w_fIsi_lst_list | with_reducible apply Nc.w_fIsi_tup_int | with_reducible apply Nc.w_fIsi_tup_bool | with_reducible apply Nc.w_fIsi_tup_str | with_reducible apply Nc.w_fIsi_tup_tuple | with_reducible apply Nc.w_fIsi_tup_list | with_reducible apply Nc.w_fStrA_i | with_reducible apply Nc.w_fStrA_s | with_reducible apply Nc.w_fS | with_reducible apply Nc.w_fRepT | with_reducible apply Nc.w_fRep | with_reducible apply Nc.w_mNo | with_reducible apply Nc.w_mSome | with_reducible apply Nc.w_asI | with_reducible apply Nc.w_mSl | with_reducible apply Nc.w_asL | with_reducible apply Nc.w_asT | with_reducible apply Nc.w_asS | with_reducible apply Nc.w_asStr | with_reducible apply Nc.w_asLT_l | with_reducible apply Nc.w_asLT_t | with_reducible apply Nc.w_asDic | with_reducible apply Nc.w_mIL | with_reducible apply Nc.w_mIT | with_reducible apply Nc.w_mIS | with_reducible apply Nc.w_mIR1 | with_reducible apply Nc.w_mIR2 | with_reducible apply Nc.w_mIE | with_reducible apply Nc.w_mIZS | with_reducible apply Nc.w_mIZL | with_reducible apply Nc.w_mIZZ | with_reducible apply Nc.w_mIC | with_reducible apply Nc.w_mIKX | with_reducible apply Nc.w_mIVX | with_reducible apply Nc.w_mIIX | with_reducible apply Nc.w_asR1 | (with_reducible apply Nc.w_asR2; (· (with_unfolding_all (omega)))) | with_reducible apply Nc.w_asE | with_reducible apply Nc.w_asZS | with_reducible apply Nc.w_asZL | (with_reducible apply Nc.w_asZZ; (· (with_unfolding_all exact rfl)); (· (with_unfolding_all exact rfl))) | with_reducible apply Nc.w_mgNil | with_reducible apply Nc.w_mgCons | with_reducible apply Nc.w_mgTup | with_reducible apply Nc.w_mgTup_p | with_reducible apply Nc.w_kDrop | with_reducible apply Nc.w_kRetN | with_reducible apply Nc.w_kBreak | with_reducible apply Nc.w_kCont | with_reducible apply Nc.w_kFor | (with_reducible apply Nc.w_kOwn; (· (with_unfolding_all (first | decide | (simp only [List.length_cons, List.length_nil]; omega) | (rw [List.length_cons]; omega))))) | with_reducible apply Nc.w_kApp | with_reducible apply Nc.w_apK | with_reducible apply Nc.w_kExt | with_reducible apply Nc.w_exK | with_reducible apply Nc.w_kRetOw | with_reducible apply Nc.w_roK | with_reducible apply Nc.w_kRetOwD | with_reducible apply Nc.w_rdK | with_reducible apply Nc.w_kFrz | with_reducible apply Nc.w_fzK | with_reducible apply Nc.w_fzKv | with_reducible apply Nc.w_kFrzD | with_reducible apply Nc.w_fdK | with_reducible apply Nc.w_kPar | with_reducible apply Nc.w_paK | with_reducible apply Nc.w_kParOw | with_reducible apply Nc.w_kAug | with_reducible apply Nc.w_auK | with_reducible apply Nc.w_kDPut | with_reducible apply Nc.w_dpK | with_reducible apply Nc.w_kSetd | with_reducible apply Nc.w_sdK | with_reducible apply Nc.w_mXGet | (with_reducible apply Nc.w_xgK; (· (with_unfolding_all (with_reducible assumption)))) | with_reducible apply Nc.w_mXIn | with_reducible apply Nc.w_mXGet2 | with_reducible apply Nc.w_mDEq | with_reducible apply Nc.w_mDictF | with_reducible apply Nc.w_mNew | with_reducible apply Nc.w_nwK_d | with_reducible apply Nc.w_nwK_l | with_reducible apply Nc.w_kClear | (with_reducible apply Nc.w_clK; (· (with_unfolding_all (first | with_reducible assumption | exact Nc.ob_get _ _)))) | with_reducible apply Nc.w_mJoin | with_reducible apply Nc.w_ite_ff | with_reducible apply Nc.w_ite_tt | with_reducible apply Nc.w_ite_st | (with_reducible apply Nc.w_ite_sf; (· (with_unfolding_all (decide)))) | with_reducible apply Nc.w_ite_nst | (with_reducible apply Nc.w_ite_nsf; (· (with_unfolding_all (decide)))) | with_reducible apply Nc.w_mSIn | with_reducible apply Nc.w_siK | with_reducible apply Nc.w_kSAdd | with_reducible apply Nc.w_saK | with_reducible apply Nc.w_mLenD | with_reducible apply Nc.w_kRaise0 | with_reducible apply Nc.w_kRaise1 | with_reducible apply Nc.w_ra1K | with_reducible apply Nc.w_kAsgS | with_reducible apply Nc.w_stS_0 | with_reducible apply Nc.w_stS_s | with_reducible apply Nc.w_mFld | (with_reducible apply Nc.w_flK; (· (with_unfolding_all (with_reducible assumption)))) | with_reducible apply Nc.w_mMeth | with_reducible apply Nc.w_mLenO | with_reducible apply Nc.w_mMakeV | with_reducible apply Nc.w_mMake | (with_reducible apply Nc.w_mLc; (· (with_unfolding_all (repeat (first | exact List.forall_mem_nil _ | refine List.forall_mem_cons.mpr ⟨rfl, ?_⟩))))) | with_reducible apply Nc.w_wOf_nil | with_reducible apply Nc.w_wOf_cons | (with_reducible apply Nc.w_mDc; (· (with_unfolding_all (repeat (first | exact List.forall_mem_nil _ | refine List.forall_mem_cons.mpr ⟨rfl, ?_⟩))))) | (with_reducible apply Nc.w_mSc; (· (with_unfolding_all (repeat (first | exact List.forall_mem_nil _ | refine List.forall_mem_cons.mpr ⟨rfl, ?_⟩))))) | (with_reducible apply Nc.w_mGen; (· (with_unfolding_all (repeat (first | exact List.forall_mem_nil _ | refine List.forall_mem_cons.mpr ⟨rfl, ?_⟩))))) | with_reducible apply Nc.w_mYes | with_reducible apply Nc.w_mSo | with_reducible apply Nc.w_mLenX | with_reducible apply Nc.w_mSortX | with_reducible apply Nc.w_mLock | with_reducible apply Nc.w_mChain | with_reducible apply Nc.w_lcStep | (with_reducible apply Nc.w_ite_d; (· (with_unfolding_all (with_reducible assumption)))) | (with_reducible apply Nc.w_asL'; (· (with_unfolding_all (exact rfl)))) | (with_reducible apply Nc.w_asT'; (· (with_unfolding_all (exact rfl)))) | (with_reducible apply Nc.w_asLT_l'; (· (with_unfolding_all (exact rfl)))) | (with_reducible apply Nc.w_asLT_t'; (· (with_unfolding_all (exact rfl)))) | (with_reducible apply Nc.w_mgTup'; (· (with_unfolding_all (exact rfl)))) | (with_reducible apply Nc.w_mgTup_p'; (· (with_unfolding_all (exact rfl)))) | (with_reducible apply Nc.w_fLen_l'; (· (with_unfolding_all (exact rfl)))) | (with_reducible apply Nc.w_fLen_t'; (· (with_unfolding_all (exact rfl)))) | (with_reducible apply Nc.w_fListOf_l'; (· (with_unfolding_all (exact rfl)))) | (with_reducible apply Nc.w_fListOf_t'; (· (with_unfolding_all (exact rfl)))) | (with_reducible apply Nc.w_fTupleOf_l'; (· (with_unfolding_all (exact rfl)))) | (with_reducible apply Nc.w_fTupleOf_t'; (· (with_unfolding_all (exact rfl)))) | (with_reducible apply Nc.w_fSlL'; (· (with_unfolding_all (exact rfl)))) | (with_reducible apply Nc.w_fSlT'; (· (with_unfolding_all (exact rfl)))) | (with_reducible apply Nc.w_fAdd_l'; (· (with_unfolding_all (exact rfl))); (· (with_unfolding_all (exact rfl)))) | (with_reducible apply Nc.w_fAdd_t'; (· (with_unfolding_all (exact rfl))); (· (with_unfolding_all (exact rfl)))) | (with_reducible apply Nc.w_fIx_t0'; (· (with_unfolding_all (exact rfl)))) | (with_reducible apply Nc.w_fIx_t1'; (· (with_unfolding_all (exact rfl)))) | (with_reducible apply Nc.w_fIx_t2'; (· (with_unfolding_all (exact rfl)))) | (with_reducible apply Nc.w_fI'; (· (with_unfolding_all (first | with_reducible assumption | (unfold L2.CPow; decide +kernel) | exact Or.inl ⟨by omega, by omega⟩ | exact Or.inr ⟨by omega, by omega⟩ | decide | omega)))) | with_reducible apply Nc.w_mLIdx | with_reducible apply Nc.w_mTIdx | with_reducible apply Nc.w_mLIdxB | with_reducible apply Nc.w_liB | with_reducible apply Nc.w_lkB | with_reducible apply Nc.w_liK | with_reducible apply Nc.w_lkK | with_reducible apply Nc.w_sh_nil | with_reducible apply Nc.w_sh_va | with_reducible apply Nc.w_sh_un | with_reducible apply Nc.w_sh_ow | with_reducible apply Nc.w_mLamI | (with_reducible apply Nc.w_run; (· (with_unfolding_all exact rfl))) | (with_reducible apply Nc.w_runF; (· (with_unfolding_all exact rfl))) | with_reducible apply Nc.w_stK_cons | with_reducible apply Nc.w_stK_0 | with_reducible apply Nc.w_stK_s | with_reducible apply Nc.w_mIsi2 | with_reducible apply Nc.w_i2K_non_list | with_reducible apply Nc.w_i2K_non_int | with_reducible apply Nc.w_i2K_bl_list | with_reducible apply Nc.w_i2K_bl_int | with_reducible apply Nc.w_i2K_int_list | with_reducible apply Nc.w_i2K_int_int | with_reducible apply Nc.w_i2K_str_list | with_reducible apply Nc.w_i2K_str_int | with_reducible apply Nc.w_i2K_lst_list | with_reducible apply Nc.w_i2K_lst_int | with_reducible apply Nc.w_i2K_tup_list | with_reducible apply Nc.w_i2K_tup_int | with_reducible apply Nc.w_sh_g | with_reducible apply Nc.w_mUp | (with_reducible apply Nc.w_lnOf; (· (with_unfolding_all exact rfl))) | with_reducible apply Nc.w_mCallN | with_reducible apply Nc.w_mNeg | with_reducible apply Nc.w_mMakeN | (with_reducible apply Nc.w_mMapLam; (· (with_unfolding_all exact rfl)); (· (with_unfolding_all (exact of_decide_eq_true rfl)))) | with_reducible apply Nc.w_mapLm_nil | (with_reducible apply Nc.w_mapLm_cons; (· (with_unfolding_all exact rfl)); (· (with_unfolding_all (exact Nc.szlt (of_decide_eq_true rfl))))) | (with_reducible apply And.intro; · first | with_reducible assumption | (with_reducible apply Nc.szle; (try simp only [List.length_cons, List.length_nil, List.length_map, List.length_append, List.length_range, List.length_singleton, List.length_drop, List.length_take, List.length_replicate, Nat.zero_add, Nat.reduceAdd]); omega) | (with_reducible apply Nc.szlt; (try simp only [List.length_cons, List.length_nil, List.length_map, List.length_append, List.length_range, List.length_singleton, List.length_drop, List.length_take, List.length_replicate, Nat.zero_add, Nat.reduceAdd]); omega) | omega | decide)))

namespace Nc
open PySem PySem.Spec PyProof.Rows L2
abbrev RCs : List Str := ["BadNumber", "BadKinds", "TooLong", "BadRow"]
abbrev cdsV : List (List Str × Option Str) := [(["BadKinds"], some "text"), ([], some "kind"), (["BadRow"], some "at"), (["TooLong"], some "most"), ([], some "flaw"), (["BadNumber"], some "number"), ([], some "name"), ([], some "word"), ([], none)]
/-! ### is_number -/
def m_is_number : List D → M D := runM 1 0
    (kRet (mAndV (mCB fIsi (mCons (mVarQ 0) (mCons (mC (.raw (.ty "int"))) mNil))) (mNotV (mCB fIsi (mCons (mVarQ 0) (mCons (mC (.raw (.ty "bool"))) mNil))))))
/-! ### is_letter -/
def m_is_letter : List D → M D := runM 2 0
    (kRet (mAndV (mCB fIsi (mCons (mVarQ 0) (mCons (mC (.raw (.ty "str"))) mNil))) (mAndV (mOp (fEq false) (mCB fLen (mCons (mVarQ 0) mNil)) (mC (.int 1))) (mOp (fIn false) (mVarQ 0) (mVarQ 1)))))
/-! ### need_kinds -/
def m_need_kinds : List D → M D := runM 1 3
    (kSeq (kIf (mOr (mNot (mB (mChain (fI0 fun i j => .bl (decide (i ≤ j))) (fI0 fun i j => .bl (decide (i ≤ j))) (mC (.int 1)) (mCB fLen (mCons (mVarQ 0) mNil)) (mC (.int 4))))) (mNot (mB (mCB fAll (mCons (mLc (mIS (mVar 0)) (mName 3) mYes (mOp (fIn false) (mVarQ 3) (mC (.str "abcdefghijklmnopqrstuvwxyz"))) [3]) mNil))))) (kRaise1 "BadKinds" "BadKinds" "text" (mCons (mVar 0) mNil)) kNext)
    (kIf (mB (mCB fAny (mCons (mLc (mIZS (mCons (mVar 0) (mCons (mSl fSlS (mVarQ 0) (mSome (mC (.int 1))) mNo) mNil))) (mgTup (mgCons (mName 1) (mgCons (mName 2) mgNil))) mYes (mOp (fS gGe) (mVarQ 1) (mVarQ 2)) [1, 2]) mNil))) (kRaise1 "BadKinds" "BadKinds" "text" (mCons (mVar 0) mNil)) kNext))
/-! ### is_happening -/
def m_is_happening : List D → M D := runM 2 0
    (kSeq (kIf (mOr (mNot (mB (mCB fIsi (mCons (mVarQ 1) (mCons (mC (.raw (.ty "tuple"))) mNil))))) (mB (mOp (fEq true) (mCB fLen (mCons (mVarQ 1) mNil)) (mC (.int 2))))) (kRet (mC (.bl false))) kNext)
    (kRet (mAndV (mCall m_is_letter [] (mCons (mOp fIx (mVarQ 1) (mC (.int 0))) (mCons (mVar 0) mNil))) (mAndV (mCall m_is_number [] (mCons (mOp fIx (mVarQ 1) (mC (.int 1))) mNil)) (mOp (fI0 fun i j => .bl (decide (j ≤ i))) (mOp fIx (mVarQ 1) (mC (.int 1))) (mC (.int 0)))))))
/-! ### need_row -/
def m_need_row : List D → M D := runM 2 2
    (kSeq (kIf (mB (mOp (fI0 fun i j => .bl (decide (j < i))) (mCB fLen (mCons (mVarQ 1) mNil)) (mC (.int 40)))) (kRaise1 "TooLong" "TooLong" "most" (mCons (mC (.int 40)) mNil)) kNext)
    (kFor (mIE (mCons (mVar 1) mNil)) (mgTup (mgCons (mName 2) (mgCons (mName 3) mgNil))) (kIf (mNot (mB (mCall m_is_happening [] (mCons (mVar 0) (mCons (mVar 3) mNil))))) (kRaise1 "BadRow" "BadRow" "at" (mCons (mVar 2) mNil)) kNext)))
/-! ### renamed -/
def m_renamed : List D → M D := runM 3 3
    (kSeq (kDrop (mCall m_need_kinds [] (mCons (mVar 0) mNil)))
    (kSeq (kDrop (mCall m_need_row [] (mCons (mVar 0) (mCons (mVar 1) mNil))))
    (kSeq (kOwn 3 (mC (.pr [.lst []])))
    (kSeq (kFor (mIL (mSortX (mSc (mIL (mVar 1)) (mgTup (mgCons (mName 5) (mgCons (mName 4) mgNil))) mYes [5, 4] [] (mVar 4)))) (mName 4) (kSeq (kIf (mB (mSIn false 3 (mXGet2 (mVarQ 2) (mVar 4) (mVar 4)))) (kRaise1 "BadNumber" "BadNumber" "number" (mCons (mVar 4) mNil)) kNext)
    (kSAdd 3 (mXGet2 (mVarQ 2) (mVar 4) (mVar 4)))))
    (kRet (mLc (mIL (mVar 1)) (mgTup (mgCons (mName 5) (mgCons (mName 4) mgNil))) mYes (mTup (mCons (mVar 5) (mCons (mXGet2 (mVarQ 2) (mVar 4) (mVar 4)) mNil))) [5, 4]))))))
/-! ### own_kinds -/
def m_own_kinds : List D → M D := runM 3 2
    (kSeq (kDrop (mCall m_need_kinds [] (mCons (mVar 0) mNil)))
    (kSeq (kDrop (mCall m_need_row [] (mCons (mVar 0) (mCons (mVar 1) mNil))))
    (kRet (mJoin (mC (.str "")) (mLc (mIL (mVar 1)) (mgTup (mgCons (mName 3) (mgCons (mName 4) mgNil))) (mB (mOp (fEq false) (mVarQ 4) (mVarQ 2))) (mVar 3) [3, 4])))))
/-! ### _law_bag -/

/-! ### _law_pick -/
abbrev m__law_pick : List D → M D := mPick
/-! ### _law_of -/
def m__law_of : List D → M D := runM 2 0
    (kRet (mOp fIx (mVarQ 1) (mCall m__law_pick [] (mCons (mVar 0) (mCons (mCB fLen (mCons (mVarQ 1) mNil)) mNil)))))
/-! ### _law_shuffled -/
abbrev m__law_shuffled : List D → M D := mShuffled
/-! ### _law_same -/
def b__law_same_ (self : List D → M D) : List D → M D := runM 2 1
    (kSeq (kIf (mB (mOp (fIs false) (mVarQ 1) (mC .non))) (kRet (mOp (fIs false) (mVarQ 0) (mC .non))) kNext)
    (kSeq (kIf (mOr (mB (mCB fIsi (mCons (mVarQ 1) (mCons (mC (.raw (.ty "bool"))) mNil)))) (mB (mCB fIsi (mCons (mVarQ 0) (mCons (mC (.raw (.ty "bool"))) mNil))))) (kRet (mAndV (mCB fIsi (mCons (mVarQ 1) (mCons (mC (.raw (.ty "bool"))) mNil))) (mAndV (mCB fIsi (mCons (mVarQ 0) (mCons (mC (.raw (.ty "bool"))) mNil))) (mOp (fEq false) (mVarQ 0) (mVarQ 1))))) kNext)
    (kSeq (kIf (mB (mIsi2 "int" "str" (mVarQ 1))) (kRet (mAndV (mIsi2 "int" "str" (mVarQ 0)) (mAndV (mOp (fEq false) (mCB fIsi (mCons (mVarQ 0) (mCons (mC (.raw (.ty "int"))) mNil))) (mCB fIsi (mCons (mVarQ 1) (mCons (mC (.raw (.ty "int"))) mNil)))) (mOp (fEq false) (mVarQ 0) (mVarQ 1))))) kNext)
    (kSeq (kIf (mOr (mB (mOp (fEq true) (mCB fIsi (mCons (mVarQ 1) (mCons (mC (.raw (.ty "list"))) mNil))) (mCB fIsi (mCons (mVarQ 0) (mCons (mC (.raw (.ty "list"))) mNil))))) (mB (mOp (fEq true) (mCB fIsi (mCons (mVarQ 1) (mCons (mC (.raw (.ty "tuple"))) mNil))) (mCB fIsi (mCons (mVarQ 0) (mCons (mC (.raw (.ty "tuple"))) mNil)))))) (kRet (mC (.bl false))) kNext)
    (kSeq (kIf (mOr (mNot (mB (mIsi2 "list" "tuple" (mVarQ 0)))) (mB (mOp (fEq true) (mCB fLen (mCons (mVarQ 0) mNil)) (mCB fLen (mCons (mVarQ 1) mNil))))) (kRet (mC (.bl false))) kNext)
    (kRet (mCB fAll (mCons (mLc (mIR1 (mCons (mCB fLen (mCons (mVarQ 1) mNil)) mNil)) (mName 2) mYes (mCall self [] (mCons (mOp fIx (mVarQ 0) (mVarQ 2)) (mCons (mOp fIx (mVarQ 1) (mVarQ 2)) mNil))) [2]) mNil))))))))
def m__law_same : Nat → List D → M D
  | 0 => fun _ _ _ _ => False
  | n + 1 => b__law_same_ (m__law_same n)
theorem e__law_same (n : Nat) : m__law_same (n + 1) = b__law_same_ (m__law_same n) := rfl
/-! ### _law_signs -/
def m__law_signs : List D → M D := runM 2 1
    (kSeq (kAsg (mCB fListText (mCons (mC (.str "abcdefghijklmnopqrstuvwxyz")) mNil)) (mName 2))
    (kSeq (kIf (mB (mOp (fEq false) (mCall m__law_pick [] (mCons (mVar 0) (mCons (mC (.int 2)) mNil))) (mC (.int 0)))) (kAsg (mSl fSlL (mVarQ 2) mNo (mSome (mC (.int 5)))) (mName 2)) kNext)
    (kRet (mJoin (mC (.str "")) (mCB fSortS (mCons (mSl fSlL (mCall m__law_shuffled [] (mCons (mVar 0) (mCons (mVar 2) mNil))) mNo (mSome (mOp fAdd (mC (.int 1)) (mCall m__law_pick [] (mCons (mVar 0) (mCons (mVar 1) mNil)))))) mNil))))))
/-! ### _law_names -/
def m__law_names : List D → M D := runM 2 3
    (kSeq (kIf (mB (mOp (fEq false) (mCall m__law_pick [] (mCons (mVar 0) (mCons (mC (.int 2)) mNil))) (mC (.int 0)))) (kRet (mCall m__law_shuffled [] (mCons (mVar 0) (mCons (mLstR1 (mVarQ 1)) mNil)))) kNext)
    (kSeq (kAsg (mTup (mCons (mCall m__law_pick [] (mCons (mVar 0) (mCons (mOp (fI CPow fun i j => .int (i ^ j.toNat)) (mC (.int 10)) (mC (.int 12))) mNil))) (mCons (mOp fAdd (mC (.int 1)) (mCall m__law_pick [] (mCons (mVar 0) (mCons (mOp (fI CPow fun i j => .int (i ^ j.toNat)) (mC (.int 10)) (mC (.int 25))) mNil)))) mNil))) (mgTup (mgCons (mName 2) (mgCons (mName 3) mgNil))))
    (kRet (mCall m__law_shuffled [] (mCons (mVar 0) (mCons (mLc (mIR1 (mCons (mVarQ 1) mNil)) (mName 4) mYes (mOp fAdd (mVarQ 2) (mOp (fI CMul fun i j => .int (i * j)) (mVarQ 4) (mVarQ 3))) [4]) mNil))))))
/-! ### _law_row -/
def m__law_row : List D → M D := runM 3 2
    (kSeq (kAsg (mCall m__law_names [] (mCons (mVar 0) (mCons (mOp fAdd (mC (.int 1)) (mCall m__law_pick [] (mCons (mVar 0) (mCons (mC (.int 6)) mNil)))) mNil))) (mName 3))
    (kRet (mLc (mIR1 (mCons (mCall m__law_pick [] (mCons (mVar 0) (mCons (mOp fAdd (mVarQ 2) (mC (.int 1))) mNil))) mNil)) (mName 4) mYes (mTup (mCons (mCall m__law_of [] (mCons (mVar 0) (mCons (mVar 1) mNil))) (mCons (mCall m__law_of [] (mCons (mVar 0) (mCons (mVar 3) mNil))) mNil))) [4])))
/-! ### law -/
def lwU : MS :=
  (kSeq (kFor (mIL (mOp fAdd (mVarQ 5) (mLst (mCons (mOp (fI CPow fun i j => .int (i ^ j.toNat)) (mC (.int 10)) (mC (.int 39))) mNil)))) (mName 8) (kIf (mNot (mB (mCall (m__law_same 70) [] (mCons (mCall m_own_kinds [] (mCons (mVar 3) (mCons (mVar 9) (mCons (mVar 8) mNil)))) (mCons (mJoin (mC (.str "")) (mLc (mIL (mVar 4)) (mgTup (mgCons (mName 16) (mgCons (mName 17) mgNil))) (mB (mOp (fEq false) (mVarQ 17) (mVarQ 8))) (mVar 16) [16, 17])) mNil))))) (kRet (mC (.bl false))) kNext))
    (kIf (mOr (mB (mOp (fEq true) (mVarQ 9) (mVarQ 4))) (mB (mDEq true (mVarQ 10) (mVarQ 7)))) (kRet (mC (.bl false))) kNext))
def lwT : MS :=
  (kSeq (kAsg (mLc (mIL (mVar 5)) (mName 8) mYes (mXGet2 (mVarQ 7) (mVar 8) (mVar 8)) [8]) (mName 11))
    (kSeq (kAsg (mLc (mIR1 (mCons (mCB fLen (mCons (mVarQ 5) mNil)) mNil)) (mName 15) (mB (mOp (fIn false) (mOp fIx (mVarQ 11) (mVarQ 15)) (mSl fSlL (mVarQ 11) mNo (mSome (mVarQ 15))))) (mOp fIx (mVarQ 5) (mVarQ 15)) [15]) (mName 12))
    (kSeq (kIf (mB (mOp (fEq true) (mVarQ 12) (mLst mNil))) (kIf (mNot (mB (mCall (m__law_same 70) [] (mCons (mLamI RCs cdsV (mCall m_renamed [] (mCons (mVar 3) (mCons (mVar 9) (mCons (mVar 10) mNil))))) (mCons (mTup (mCons (mC (.str "BadNumber")) (mCons (mOp fIx (mVarQ 12) (mC (.int 0))) mNil))) mNil))))) (kRet (mC (.bl false))) kNext) (kSeq (kAsg (mLc (mIL (mVar 4)) (mgTup (mgCons (mName 16) (mgCons (mName 8) mgNil))) mYes (mTup (mCons (mVar 16) (mCons (mXGet2 (mVarQ 7) (mVar 8) (mVar 8)) mNil))) [16, 8]) (mName 13))
    (kSeq (kAsg (mCall m_renamed [] (mCons (mVar 3) (mCons (mVar 9) (mCons (mVar 10) mNil)))) (mName 14))
    (kSeq (kClear (mVar 10))
    (kSeq (kIf (mNot (mB (mCall (m__law_same 70) [] (mCons (mVar 14) (mCons (mVar 13) mNil))))) (kRet (mC (.bl false))) kNext)
    (kAsg (mNew (mDictF (mVarQ 7))) (mName 10)))))))
    lwU)))
def m_law : MS :=
  (kSeq (kFor (mIR1 (mCons (mC (.int 4)) mNil)) (mName 2) (kSeq (kAsg (mCall m__law_signs [] (mCons (mVar 1) (mCons (mC (.int 4)) mNil))) (mName 3))
    (kSeq (kAsg (mCall m__law_row [] (mCons (mVar 1) (mCons (mVar 3) (mCons (mC (.int 40)) mNil)))) (mName 4))
    (kSeq (kAsg (mSortX (mSo (mLc (mIL (mVar 4)) (mgTup (mgCons (mName 16) (mgCons (mName 8) mgNil))) mYes (mVar 8) [16, 8]))) (mName 5))
    (kSeq (kAsg (mCall m__law_shuffled [] (mCons (mVar 1) (mCons (mOp fAdd (mVarQ 5) (mCall m__law_names [] (mCons (mVar 1) (mCons (mC (.int 3)) mNil)))) mNil))) (mName 6))
    (kSeq (kOwn 7 (mC (.dic [] [])))
    (kSeq (kFor (mIL (mVar 5)) (mName 8) (kIf (mB (mOp (fI0 fun i j => .bl (decide (j < i))) (mCall m__law_pick [] (mCons (mVar 1) (mCons (mC (.int 3)) mNil))) (mC (.int 0)))) (kDPut 7 (mVar 8) (mIf (mB (mOp (fEq false) (mCall m__law_pick [] (mCons (mVar 1) (mCons (mC (.int 6)) mNil))) (mC (.int 0)))) (mCall m__law_of [] (mCons (mVar 1) (mCons (mVar 6) mNil))) (mOp fIx (mVarQ 6) (mLIdx (mVar 5) (mVarQ 8))))) kNext))
    (kFrzD 7 (kSeq (kAsg (mTup (mCons (mCB fListOf (mCons (mVarQ 4) mNil)) (mCons (mNew (mDictF (mVarQ 7))) mNil))) (mgTup (mgCons (mName 9) (mgCons (mName 10) mgNil))))
    lwT)))))))))
    (kRet (mC (.bl true))))
end Nc
namespace Nc
open PySem PySem.Spec PyProof.Rows L2
/-! ## what the laws draw with -/
section
variable {P : D → Sto → Prop} {X : Ex → Sto → Prop} {S : Sto}
theorem atI_k {τ : Type} {xs : List τ} {k : Nat} (h : k < xs.length) : L2.atI xs (k : Int) = some xs[k] := L2.atI_nat (List.getElem?_eq_getElem h)
theorem law_of_str {cs : List Nat} (h1 : 1 ≤ cs.length) (h2 : cs.length ≤ 100000) (h : ∀ c ∈ cs, P (.str (sg c)) S) : m__law_of [.bag, .str (ofL cs)] S P X := by
  unfold m__law_of
  walk_at "M"
  refine pick_ok (by omega) (by omega) fun d d0 d1 => ?_
  walk_at "M"
  obtain ⟨k, rfl⟩ := Int.eq_ofNat_of_zero_le d0
  have hk : k < cs.length := by omega
  rw [atI_k hk]
  exact h _ (List.getElem_mem hk)
theorem law_of_lst {ds : List D} (h1 : 1 ≤ ds.length) (h2 : ds.length ≤ 100000) (h : ∀ d ∈ ds, P d S) : m__law_of [.bag, .lst ds] S P X := by
  unfold m__law_of
  walk_at "M"
  refine pick_ok (by omega) (by omega) fun d d0 d1 => ?_
  walk_at "M"
  obtain ⟨k, rfl⟩ := Int.eq_ofNat_of_zero_le d0
  have hk : k < ds.length := by omega
  rw [atI_k hk]
  exact h _ (List.getElem_mem hk)
theorem nodup_let : LET.Nodup := by decide +kernel
theorem law_signs_ok {cap : Nat} (hc : 1 ≤ cap) (hc2 : cap ≤ 26) (h : ∀ cs, GoodL cs → cs.length ≤ cap → P (.str (ofL cs)) S) : m__law_signs [.bag, .int cap] S P X := by
  have fin : ∀ (L zs : List Nat), (∀ c ∈ L, c ∈ LET) → L.Nodup → 1 ≤ L.length → L.length ≤ 26 → zs.Perm L → ∀ d : Int, 0 ≤ d → d < cap →
      ∃ xs : List Str, cutL (zs.map fun c => D.str ⟨#[c]⟩) none (some (1 + d)) = xs.map .str ∧ xs.length < 64 ∧ ∀ ys : List Str, ys.Perm xs → sortedS ys = true →
        ∃ zs : List Str, ys.map D.str = zs.map .str ∧ (zs.map (·.length)).sum + zs.length * ("" : Str).length ≤ 16777216 ∧ P (.str (Str.join "" zs)) S := by
    intro L zs hL hN h1 h26 hz d d0 d1
    obtain ⟨k, rfl⟩ := Int.eq_ofNat_of_zero_le d0
    have hlen := hz.length_eq
    refine ⟨(zs.take (1 + k)).map sg, ?_, ?_, fun ys hp hs => ?_⟩
    · rw [show (1 + (k : Int)) = ((1 + k : Nat) : Int) by omega, cutL_to, ← List.map_take, List.map_map]
      rfl
    · rw [List.length_map, List.length_take]; omega
    · obtain ⟨ws, rfl, hw⟩ := perm_map_inv hp
      have hsub : ∀ c ∈ ws, c ∈ L := fun c hc => hz.mem_iff.mp (List.mem_of_mem_take (hw.mem_iff.mp hc))
      have hwl : ws.length = min (1 + k) zs.length := by rw [hw.length_eq, List.length_take]
      have hnd : ws.Nodup := hw.nodup_iff.mpr ((hz.nodup_iff.mpr hN).sublist (List.take_sublist _ _))
      refine ⟨ws.map sg, rfl, ?_, ?_⟩
      · rw [sum_sg, List.length_map, show ("" : Str).length = 0 from rfl]; omega
      · rw [joinS_sg]
        exact h ws ⟨by omega, fun c hc => hL c (hsub c hc), strict_of (sorted_sg ws hs) hnd⟩ (by omega)
  unfold m__law_signs
  walk_at "M"
  refine pick_ok (by omega) (by omega) fun d d0 d1 => ?_
  walk_at "M"
  rw [let_eq]
  split
  · rw [show cutL (LET.map fun c => D.str ⟨#[c]⟩) none (some 5) = (LET.take 5).map fun c => D.str ⟨#[c]⟩ by rw [show (5 : Int) = ((5 : Nat) : Int) from rfl, cutL_to, List.map_take]]
    refine ⟨by decide, fun ys hp => ?_⟩
    obtain ⟨zs, rfl, hz⟩ := perm_map_inv hp
    walk_at "M"
    refine pick_ok (by omega) (by omega) fun d d0 d1 => ?_
    walk_at "M"
    exact fin (LET.take 5) zs (fun c hc => List.mem_of_mem_take hc) (nodup_let.sublist (List.take_sublist _ _)) (by decide) (by decide) hz d d0 d1
  · refine ⟨by decide, fun ys hp => ?_⟩
    obtain ⟨zs, rfl, hz⟩ := perm_map_inv hp
    walk_at "M"
    refine pick_ok (by omega) (by omega) fun d d0 d1 => ?_
    walk_at "M"
    exact fin LET zs (fun c hc => hc) nodup_let (by decide) (by decide) hz d d0 d1
end
end Nc

namespace Nc
open PySem PySem.Spec PyProof.Rows L2
/-! ## nothing is unlike itself -/
section
variable {P : D → Sto → Prop} {X : Ex → Sto → Prop} {S : Sto}
mutual
/-- no list longer than a thousand -/
def D.smallB : D → Bool
  | .lst ds | .tup ds => decide (ds.length ≤ 100000) && D.smallBs ds
  | _ => true
def D.smallBs : List D → Bool
  | [] => true
  | d :: ds => d.smallB && D.smallBs ds
end
def D.small (d : D) : Prop := d.smallB = true
theorem okd_sub {m : Nat} {ds : List D} (h : D.okd m (.lst ds)) : ∀ x ∈ ds, x.okd m ∧ PyData.depth x.py < PyData.depth (D.lst ds).py := by
  have key : ∀ ds : List D, D.arePy ds = true → PyData.canLayAll0 (D.pys ds) = true → ∀ x ∈ ds, x.isPy = true ∧ PyData.canLay0 x.py = true ∧ PyData.depth x.py ≤ PyData.depthAll (D.pys ds) := by
    intro ds
    induction ds with
    | nil => intro _ _ x hx; cases hx
    | cons d ds ih =>
      intro h1 h2 x hx
      simp only [D.arePy, D.pys, PyData.canLayAll0, Bool.and_eq_true, PyData.depthAll] at h1 h2 ⊢
      rcases List.mem_cons.mp hx with rfl | hx
      · exact ⟨h1.1, h2.1, by omega⟩
      · obtain ⟨a, b, c⟩ := ih h1.2 h2.2 x hx
        exact ⟨a, b, by omega⟩
  intro x hx
  obtain ⟨h1, h2, h3⟩ := h
  have e : PyData.depth (D.lst ds).py = PyData.depthAll (D.pys ds) + 1 := by simp only [D.py, PyData.depth]
  obtain ⟨a, b, c⟩ := key ds (by simpa [D.isPy] using h1) (by simpa [D.py, PyData.canLay0] using h2) x hx
  exact ⟨⟨a, b, by omega⟩, by omega⟩
theorem okd_lt {m : Nat} {ds : List D} (h : D.okd m (.tup ds)) : D.okd m (.lst ds) := by
  obtain ⟨h1, h2, h3⟩ := h
  unfold D.okd
  simp only [D.isPy, D.py, PyData.canLay0, PyData.depth] at h1 h2 h3 ⊢
  exact ⟨h1, h2, h3⟩
theorem small_sub {ds : List D} (h : D.small (.lst ds)) : ds.length ≤ 100000 ∧ ∀ x ∈ ds, x.small := by
  have key : ∀ ds : List D, D.smallBs ds = true → ∀ x ∈ ds, x.small := by
    intro ds
    induction ds with
    | nil => intro _ x hx; cases hx
    | cons d ds ih =>
      intro h x hx
      simp only [D.smallBs, Bool.and_eq_true] at h
      rcases List.mem_cons.mp hx with rfl | hx
      · exact h.1
      · exact ih h.2 x hx
  unfold D.small D.smallB at h
  rw [Bool.and_eq_true, decide_eq_true_eq] at h
  exact ⟨h.1, key ds h.2⟩
theorem okd_ty {m : Nat} {d : D} (h : d.okd m) (S : Sto) : S.rs d = d := by
  cases d with
  | ob i => exact absurd h.1 (by simp [D.isPy])
  | _ => rfl
/-- nothing is unlike itself -/
theorem law_same_ok : ∀ (n m : Nat) (d : D) {P : D → Sto → Prop} {X : Ex → Sto → Prop} {S : Sto}, d.okd m → PyData.depth d.py < n → m ≤ 64 → D.small d → P (.bl true) S → m__law_same n [d, d] S P X := by
  intro n
  induction n with
  | zero => intro m d P X S h hd; omega
  | succ n ih =>
    intro m d P X S h hd hm hsm hP
    have go : ∀ ds : List D, D.okd m (.lst ds) → PyData.depth (D.lst ds).py < n + 1 → D.small (.lst ds) → ∀ a : D, (a = .lst ds ∨ a = .tup ds) →
        -2 ^ 62 ≤ (ds.length : Int) ∧ (ds.length : Int) < 2 ^ 62 ∧ (rngD 0 (ds.length : Int).toNat).length ≤ 16777216 ∧
        lcD (mName 2) mYes (mCall (m__law_same n) [] (mCons (mOp fIx (mVarQ 0) (mVarQ 2)) (mCons (mOp fIx (mVarQ 1) (mVarQ 2)) mNil))) [.va a, .va a, .un] (rngD 0 (ds.length : Int).toNat) [] S
          (fun out S2 => mCB fAll (fun _ S P _ => P [.lst out] S) [] S2 P X) := by
      intro ds h hd hsm a ha
      obtain ⟨s1, s2⟩ := small_sub hsm
      have hsub := okd_sub h
      refine ⟨by omega, by omega, by simp [rngD]; omega, ?_⟩
      unfold rngD
      rw [Int.toNat_natCast]
      refine lcD_map _ (fun _ => .bl true) _ (fun i hi P hP => ?_) ?_
      · have hi := List.mem_range.mp hi
        have hg : ds[i] ∈ ds := List.getElem_mem hi
        unfold lcStep
        rcases ha with rfl | rfl
        · walk_at "M"
          rw [Int.zero_add, atI_k hi]
          walk_at "M"
          exact ih m _ (hsub _ hg).1 (by have := (hsub _ hg).2; omega) hm (s2 _ hg) hP
        · walk_at "M"
          rw [Int.zero_add, atI_k hi]
          walk_at "M"
          exact ih m _ (hsub _ hg).1 (by have := (hsub _ hg).2; omega) hm (s2 _ hg) hP
      · show ∃ bs : List Bool, _ = bs.map D.bl ∧ P (D.bl (bs.all id)) S
        refine ⟨List.replicate ds.length true, ?_, ?_⟩
        · rw [List.map_replicate]
          simp only [List.nil_append]
          rw [List.map_const', List.length_range]
        · rw [show (List.replicate ds.length true).all id = true by simp]
          exact hP
    rw [e__law_same]
    unfold b__law_same_
    cases d with
    | non => walk_at "M"; exact hP
    | bl b => walk_at "M"; exact hP
    | int i => walk_at "M"; exact hP
    | str z =>
      have h1 : z.cps.all (· < 0x110000) = true := by
        have := (ok_iff.mpr (h.le hm))
        rwa [ok_str] at this
      walk_at "M"
      exact ⟨h1, h1, hP⟩
    | lst ds =>
      walk_at "M"
      exact go ds h hd hsm _ (.inl rfl)
    | tup ds =>
      walk_at "M"
      exact go ds (okd_lt h) (by simpa [D.py, PyData.depth] using hd) (by unfold D.small D.smallB at hsm ⊢; exact hsm) _ (.inr rfl)
    | pr _ | dic _ _ | ins _ _ _ | ob _ | bag | raw _ | clo _ => exact absurd h.1 (by simp [D.isPy])
end
end Nc

namespace Nc
open PySem PySem.Spec PyProof.Rows L2
/-! ## kinds, rows -/
theorem signs_ofL (cs : List Nat) : signs (ofL cs) = cs.map fun c => D.str (sg c) := by
  unfold signs
  rw [ofL_toL]
  rfl
theorem zipD_map {α β : Type} (f : α → D) (g : β → D) : ∀ (xs : List α) (ys : List β), zipD (xs.map f) (ys.map g) = (xs.zip ys).map fun p => .pr [f p.1, g p.2]
  | [], _ => by simp [zipD]
  | _ :: _, [] => by simp [zipD]
  | x :: xs, y :: ys => by
    rw [List.map_cons, List.map_cons, List.zip_cons_cons, List.map_cons, ← zipD_map f g xs ys]
    rfl
theorem cutS_1 (cs : List Nat) : cutS (ofL cs) (some 1) none = ofL (cs.drop 1) := by
  refine str_ext ?_
  have e : (cutS (ofL cs) (some 1) none).cps.toList = cutL cs (some 1) none := by
    unfold cutS cutL
    rw [ofL_len, ofL_toL]
  rw [e, cutL_1, ofL_toL]
section
variable {P : D → Sto → Prop} {X : Ex → Sto → Prop} {S : Sto}
theorem zip_lt : ∀ {cs : List Nat}, cs.Pairwise (· < ·) → ∀ p ∈ cs.zip (cs.drop 1), p.1 < p.2
  | [], _, p, hp => by simp at hp
  | [_], _, p, hp => by simp at hp
  | a :: b :: r, h, p, hp => by
    rw [List.pairwise_cons] at h
    simp only [List.drop_succ_cons, List.drop_zero, List.zip_cons_cons, List.mem_cons] at hp
    rcases hp with rfl | hp
    · exact h.1 b (List.mem_cons_self ..)
    · exact zip_lt (cs := b :: r) h.2 p (by simpa using hp)
theorem need_kinds_ok {cs : List Nat} (h : GoodL cs) (h4 : cs.length ≤ 4) (hP : P .non S) : m_need_kinds [.str (ofL cs)] S P X := by
  have h1 := h.one
  unfold m_need_kinds
  walk_at "M"
  rw [if_pos (show (1 : Int) ≤ cs.length by omega), if_neg (by simp; omega), signs_ofL]
  refine ⟨by rw [List.length_map]; omega, ?_⟩
  refine lcD_map (fun c => D.str (sg c)) (fun _ => .bl true) cs (fun c hc P hP => ?_) ?_
  · unfold lcStep
    walk_at "M"
    rw [let_eq, decide_eq_true (h.lets c hc)]
    exact hP
  walk_at "M"
  refine ⟨cs.map fun _ => true, by rw [List.map_map]; rfl, ?_⟩
  rw [show ((cs.map fun _ => true).all id) = true by simp]
  walk_at "M"
  rw [cutS_1, signs_ofL, signs_ofL, zipD_map]
  refine ⟨by rw [List.length_map, List.length_zip]; omega, ?_⟩
  refine lcD_map (fun p : Nat × Nat => .pr [D.str (sg p.1), D.str (sg p.2)]) (fun _ => .bl false) _ (fun p hp P hP => ?_) ?_
  · unfold lcStep
    walk_at "M"
    have := zip_lt h.rise p hp
    rw [show gGe (sg p.1) (sg p.2) = false by
      show (!decide ([p.1] < [p.2])) = false
      rw [decide_eq_true (single_lt.mpr this)]
      rfl]
    exact hP
  walk_at "M"
  refine ⟨(cs.zip (cs.drop 1)).map fun _ => false, by rw [List.map_map]; rfl, ?_⟩
  rw [show (((cs.zip (cs.drop 1)).map fun _ => false).any id) = false by simp]
  walk_at "M"
  exact hP
end
end Nc

namespace Nc
open PySem PySem.Spec PyProof.Rows L2
/-! ## rows -/
section
variable {P : D → Sto → Prop} {X : Ex → Sto → Prop} {S : Sto}
theorem isLetter_ok {c : Nat} {z : Str} (hP : P (.bl (decide (c ∈ z.cps.toList))) S) : m_is_letter [.str (sg c), .str z] S P X := by
  unfold m_is_letter
  walk_at "M"
  exact hP
theorem isNumber_ok {i : Int} (hP : P (.bl true) S) : m_is_number [.int i] S P X := by
  unfold m_is_number
  walk_at "M"
  exact hP
/-- a happening, a row -/
def hpD (p : Nat × Int) : D := .tup [.str (sg p.1), .int p.2]
def rowD (xs : List (Nat × Int)) : D := .lst (xs.map hpD)
structure GoodRow (cs : List Nat) (xs : List (Nat × Int)) : Prop where
  few : xs.length ≤ 40
  ks : ∀ p ∈ xs, p.1 ∈ cs
  ns : ∀ p ∈ xs, 0 ≤ p.2
theorem enumD_map {τ : Type} (r : τ → D) : ∀ (xs : List τ) (n : Nat), enumD n (xs.map r) = (xs.zipIdx n).map fun p => .pr [.int (p.2 : Nat), r p.1]
  | [], _ => rfl
  | x :: xs, n => by
    rw [List.map_cons, List.zipIdx_cons, List.map_cons, ← enumD_map r xs (n + 1)]
    rfl
end
end Nc

namespace Nc
open PySem PySem.Spec PyProof.Rows L2
section
variable {P : D → Sto → Prop} {X : Ex → Sto → Prop} {S : Sto}
theorem isHappening_ok {cs : List Nat} {p : Nat × Int} (h1 : p.1 ∈ cs) (h2 : 0 ≤ p.2) (hP : P (.bl true) S) : m_is_happening [.str (ofL cs), hpD p] S P X := by
  unfold m_is_happening hpD
  walk_at "M"
  refine isLetter_ok ?_
  rw [ofL_toL, decide_eq_true h1]
  walk_at "M"
  refine isNumber_ok ?_
  walk_at "M"
  rw [decide_eq_true h2]
  exact hP
theorem need_row_ok {cs : List Nat} {xs : List (Nat × Int)} (h : GoodRow cs xs) (hP : P .non S) : m_need_row [.str (ofL cs), rowD xs] S P X := by
  have h1 := h.few
  unfold m_need_row rowD
  walk_at "N"
  rw [if_neg (by rw [List.length_map]; omega), enumD_map]
  refine forD_inv (fun p : (Nat × Int) × Nat => .pr [.int (p.2 : Nat), hpD p.1]) _ (fun _ ρ S' => S' = S ∧ ∃ a b, ρ = [.va (.str (ofL cs)), .va (.lst (xs.map hpD)), a, b]) (fun dn x rest ρ S' e hI N hN => ?_) ⟨rfl, _, _, rfl⟩ fun ρ S' hI => ?_
  · obtain ⟨rfl, a, b, rfl⟩ := hI
    have hx : x.1 ∈ xs := List.fst_mem_of_mem_zipIdx (by rw [e]; simp)
    walk_at "N"
    refine isHappening_ok (h.ks _ hx) (h.ns _ hx) ?_
    walk_at "N"
    exact hN _ _ ⟨rfl, _, _, rfl⟩
  · obtain ⟨rfl, a, b, rfl⟩ := hI
    walk_at "N"
    exact hP
end
end Nc

namespace Nc
open PySem PySem.Spec PyProof.Rows L2
section
variable {P : D → Sto → Prop} {X : Ex → Sto → Prop} {S : Sto}
theorem rg_ints (k : Nat) : rgD 0 (k : Nat) = ((List.range k).map fun i : Nat => ((i : Nat) : Int)).map .int := by
  unfold rgD
  rw [List.map_map, Int.sub_zero, Int.toNat_natCast]
  exact List.map_congr_left fun i _ => by
    show D.int (0 + (i : Int)) = D.int (i : Int)
    rw [Int.zero_add]
theorem perm_ints {ys : List D} {L : List Int} (h : ys.Perm (L.map .int)) : ∃ ns : List Int, ys = ns.map .int ∧ ns.Perm L := by
  obtain ⟨zs, rfl, hz⟩ := perm_map_inv h
  exact ⟨zs, rfl, hz⟩
end
end Nc

namespace Nc
open PySem PySem.Spec PyProof.Rows L2
section
variable {P : D → Sto → Prop} {X : Ex → Sto → Prop} {S : Sto}
theorem law_names_ok {k : Nat} (hk : k ≤ 500) (h : ∀ ns : List Int, ns.length = k → (∀ n ∈ ns, 0 ≤ n) → P (.lst (ns.map .int)) S) : m__law_names [.bag, .int (k : Nat)] S P X := by
  unfold m__law_names
  walk_at "M"
  refine pick_ok (by omega) (by omega) fun d d0 d1 => ?_
  walk_at "M"
  have fin : ∀ L : List Int, L.length = k → (∀ n ∈ L, 0 ≤ n) → m__law_shuffled [.bag, .lst (L.map .int)] S P X := fun L hl hn => by
    refine ⟨by rw [List.length_map]; omega, fun ys hp => ?_⟩
    obtain ⟨ns, rfl, hz⟩ := perm_ints hp
    exact h ns (by rw [hz.length_eq, hl]) fun n hn2 => hn n (hz.mem_iff.mp hn2)
  split
  · refine ⟨by omega, by omega, ?_⟩
    rw [rg_ints]
    exact fin _ (by simp) fun n hn => by
      obtain ⟨i, _, rfl⟩ := List.mem_map.mp hn
      omega
  · refine ⟨by unfold CPow; decide +kernel, ?_⟩
    refine pick_ok (by decide +kernel) (by decide +kernel) fun b b0 b1 => ?_
    walk_at "M"
    refine ⟨by unfold CPow; decide +kernel, ?_⟩
    refine pick_ok (by decide +kernel) (by decide +kernel) fun c c0 c1 => ?_
    walk_at "M"
    refine ⟨by omega, by omega, by unfold rngD; rw [List.length_map, List.length_range]; omega, ?_⟩
    unfold rngD
    rw [Int.toNat_natCast]
    refine lcD_map _ (fun i : Nat => .int (b + (i : Int) * (1 + c))) _ (fun i hi P hP => ?_) ?_
    · unfold lcStep
      walk_at "M"
      rw [Int.zero_add]
      have hi := List.mem_range.mp hi
      refine ⟨?_, hP⟩
      have : (1 + c) < 2 ^ 84 := by
        have : (10 : Int) ^ Int.toNat 25 < 2 ^ 84 - 1 := by decide +kernel
        omega
      exact .inl ⟨by omega, by omega⟩
    · rw [show ([] ++ (List.range k).map fun i : Nat => D.int (b + (i : Int) * (1 + c))) = ((List.range k).map fun i : Nat => b + (i : Int) * (1 + c)).map D.int by rw [List.nil_append, List.map_map]; rfl]
      exact fin _ (by simp) fun n hn => by
        obtain ⟨i, _, rfl⟩ := List.mem_map.mp hn
        have : 0 ≤ (i : Int) * (1 + c) := Int.mul_nonneg (by omega) (by omega)
        omega
end
end Nc

namespace Nc
open PySem PySem.Spec PyProof.Rows L2
/-! ## rows drawn -/
section
variable {P : D → Sto → Prop} {X : Ex → Sto → Prop} {S : Sto}
theorem law_row_ok {cs : List Nat} {cap : Nat} (hL : GoodL cs) (h4 : cs.length ≤ 4) (hc : cap ≤ 40) (h : ∀ xs, GoodRow cs xs → xs.length ≤ cap → P (rowD xs) S) : m__law_row [.bag, .str (ofL cs), .int (cap : Nat)] S P X := by
  have h1 := hL.one
  unfold m__law_row
  walk_at "M"
  refine pick_ok (by omega) (by omega) fun d d0 d1 => ?_
  walk_at "M"
  obtain ⟨d, rfl⟩ := Int.eq_ofNat_of_zero_le d0
  rw [show (1 : Int) + (d : Int) = ((1 + d : Nat) : Int) by omega]
  refine law_names_ok (by omega) fun ns nl n0 => ?_
  walk_at "M"
  refine pick_ok (by omega) (by omega) fun n m0 m1 => ?_
  walk_at "M"
  obtain ⟨n, rfl⟩ := Int.eq_ofNat_of_zero_le m0
  rw [Int.toNat_natCast]
  refine ⟨by omega, by omega, by unfold rngD; rw [List.length_map, List.length_range]; omega, ?_⟩
  unfold rngD
  refine lcD_inv (fun i : Nat => D.int (0 + (i : Int))) (List.range n) (fun dn acc S' => S' = S ∧ ∃ xs : List (Nat × Int), acc = xs.map hpD ∧ xs.length = dn.length ∧ ∀ p ∈ xs, p.1 ∈ cs ∧ 0 ≤ p.2) (fun dn x rest acc S' e hI P hk => ?_) ⟨rfl, [], rfl, rfl, fun _ h => (by cases h)⟩ fun acc S' hI => ?_
  · obtain ⟨rfl, xs, rfl, hl, hv⟩ := hI
    walk_at "W"
    refine law_of_str h1 (by omega) fun c hc => ?_
    walk_at "W"
    refine law_of_lst (by rw [List.length_map]; omega) (by rw [List.length_map]; omega) fun v hv2 => ?_
    obtain ⟨m, hm, rfl⟩ := List.mem_map.mp hv2
    walk_at "W"
    refine hk (some (hpD (c, m))) S' ⟨rfl, xs ++ [(c, m)], by rw [List.map_append]; rfl, by simp [hl], fun p hp => ?_⟩
    rcases List.mem_append.mp hp with hp | hp
    · exact hv p hp
    · rw [List.mem_singleton.mp hp]
      exact ⟨hc, n0 m hm⟩
  · obtain ⟨rfl, xs, rfl, hl, hv⟩ := hI
    rw [List.length_range] at hl
    exact h xs ⟨by omega, fun p hp => (hv p hp).1, fun p hp => (hv p hp).2⟩ (by omega)
end
end Nc

namespace Nc
open PySem PySem.Spec PyProof.Rows L2
/-! ## texts by their signs; data that are like themselves -/
theorem ofL_cat (a b : List Nat) : ofL a ++ ofL b = ofL (a ++ b) := str_ext (by
  show (ofL a ++ ofL b).cps.toList = _
  rw [show (ofL a ++ ofL b).cps = (ofL a).cps ++ (ofL b).cps from rfl, Array.toList_append, ofL_toL, ofL_toL, ofL_toL])
theorem ofL_sg (c : Nat) : (⟨#[c]⟩ : Str) = ofL [c] := rfl
theorem cutS_to1 (cs : List Nat) : cutS (ofL cs) none (some 1) = ofL (cs.take 1) := by
  refine str_ext ?_
  have e : (cutS (ofL cs) none (some 1)).cps.toList = cutL cs none (some 1) := by
    unfold cutS cutL
    rw [ofL_len, ofL_toL]
  rw [e, show (1 : Int) = ((1 : Nat) : Int) from rfl, cutL_to, ofL_toL]
theorem upper_ofL {cs : List Nat} (h : ∀ c ∈ cs, c < 128) : Txt.upper (ofL cs) = ofL (cs.map PyProof.Rows.up1) := SX.upper_S (List.all_eq_true.mpr fun c hc => decide_eq_true (h c hc))
section
variable {Q : D → Prop}
theorem atI_last {τ : Type} {xs : List τ} {x : τ} (h : 1 ≤ xs.length) (e : xs[xs.length - 1]? = some x) : L2.atI xs (-1) = some x := by
  unfold L2.atI ixN
  rw [if_neg (by decide), if_pos (by omega)]
  show xs[((-1 : Int) + xs.length).toNat]? = _
  rw [show ((-1 : Int) + xs.length).toNat = xs.length - 1 by omega]
  exact e
theorem fIx_last {cs : List Nat} (h : 1 ≤ cs.length) (hQ : Q (.str (ofL [cs.getD (cs.length - 1) 0]))) : fIx (.str (ofL cs)) (.int (-1)) Q := by
  unfold fIx
  dsimp only
  rw [ofL_toL, atI_last (x := cs.getD (cs.length - 1) 0) h (by rw [List.getD_eq_getElem?_getD, List.getElem?_eq_getElem (show cs.length - 1 < cs.length by omega)]; rfl)]
  exact hQ
theorem fIx_s0 {cs : List Nat} (h : 1 ≤ cs.length) (hQ : Q (.str (sg (cs.getD 0 0)))) : fIx (.str (ofL cs)) (.int 0) Q := by
  unfold fIx
  dsimp only
  rw [ofL_toL, show L2.atI cs 0 = some (cs.getD 0 0) from L2.atI_nat (by rw [List.getD_eq_getElem?_getD, List.getElem?_eq_getElem (show 0 < cs.length by omega)]; rfl)]
  exact hQ
theorem getD0_mem {cs : List Nat} (h : 1 ≤ cs.length) : cs.getD 0 0 ∈ cs := by
  rw [List.getD_eq_getElem?_getD, List.getElem?_eq_getElem (show 0 < cs.length by omega)]
  exact List.getElem_mem _
theorem fIx_s1 {cs : List Nat} (h : 1 ≤ cs.length) (hQ : Q (.str (ofL [cs.getD 0 0]))) : fIx (.str (ofL cs)) (.int 0) Q := fIx_s0 h hQ
theorem fEq_self {n : Nat} {d : D} (h : D.okd n d) (hn : n ≤ 64) (hQ : Q (.bl false)) : fEq true d d Q := by
  have ho := h.le hn
  refine ⟨ok_iff.mpr ho, ok_iff.mpr ho, ?_⟩
  show Q (.bl (!(D.eqv d d)))
  rw [ho.self]
  exact hQ
theorem fEqS {n : Nat} {d : D} (h : D.okd n d) (hn : n ≤ 64) (hQ : Q (.bl true)) : fEq false d d Q := by
  have ho := h.le hn
  refine ⟨ok_iff.mpr ho, ok_iff.mpr ho, ?_⟩
  show Q (.bl (D.eqv d d))
  rw [ho.self]
  exact hQ
theorem lits (cs : List Nat) (h : ∀ c ∈ cs, c < 128) : (ofL cs).cps.all (· < 0x110000) = true := by
  rw [Array.all_eq_true']
  intro c hc
  have : c ∈ cs := by
    have := Array.mem_toList_iff.mpr hc
    rwa [ofL_toL] at this
  have := h c this
  exact decide_eq_true (by omega)
theorem cat_len (a b : List Nat) (h : a.length + b.length ≤ 1000) : (ofL a).length + (ofL b).length ≤ sizeLine := by
  rw [ofL_len, ofL_len]
  exact szle (by omega)
end
end Nc

namespace Nc
open PySem PySem.Spec PyProof.Rows L2
/-! ## rows with their names told anew; a name's own kinds -/
/-- a row's names, rising -/
def nmsOf (xs : List (Nat × Int)) : List Int := sortI (foldK (xs.map (·.2)))
def kI (ps : List (Int × Int)) : List D := ps.map fun p => .int p.1
def vI (ps : List (Int × Int)) : List D := ps.map fun p => .int p.2
/-- a name as a dict tells it -/
def toldI (ps : List (Int × Int)) (n : Int) : Int := ((ps.find? fun p => decide (p.1 = n)).map (·.2)).getD n
theorem nk_ii (a b : Int) : decide ((D.int a).nk = (D.int b).nk) = decide (a = b) := by
  have h : ∀ i : Int, (D.int i).nk = some (.num i) := fun i => by unfold D.nk; rfl
  rw [h, h]
  by_cases e : a = b
  · subst e; simp
  · rw [decide_eq_false e, decide_eq_false (fun z => e (by cases z; rfl))]
theorem look_i (ps : List (Int × Int)) (n : Int) : (dlook (kI ps) (vI ps) (.int n)).getD (.int n) = .int (toldI ps n) := by
  unfold kI vI toldI
  rw [dlook_map, show (fun x : Int × Int => decide ((D.int x.1).nk = (D.int n).nk)) = fun p => decide (p.1 = n) from funext fun p => nk_ii _ _]
  cases ps.find? fun p => decide (p.1 = n) <;> rfl
theorem all_kI (ps : List (Int × Int)) : (kI ps).all D.flatK = true := by
  unfold kI
  rw [List.all_map, List.all_eq_true]
  exact fun _ _ => rfl
theorem all_vI (ps : List (Int × Int)) : (vI ps).all D.isI = true := by
  unfold vI
  rw [List.all_map, List.all_eq_true]
  exact fun _ _ => rfl
theorem dcov_i (ps : List (Int × Int)) (n : Int) : dcov (kI ps) (.int n) = true := by
  unfold dcov
  rw [all_kI]
  rfl
theorem any_i (n : Int) : ∀ seen : List Int, ((seen.map D.int).any fun k' => decide (k'.nk = (D.int n).nk)) = decide (n ∈ seen)
  | [] => rfl
  | a :: seen => by
    rw [List.map_cons, List.any_cons, any_i n seen, nk_ii]
    by_cases e : a = n
    · subst e; simp
    · have : ¬ n = a := fun z => e z.symm
      simp [e, this]
/-- the first name that is told as one ahead of it -/
def fb (g : Int → Int) : List Int → List Int → Option Int
  | _, [] => none
  | seen, n :: r => if g n ∈ seen then some n else fb g (seen ++ [g n]) r
def bnE (n : Int) : Ex := ⟨"BadNumber", [("number", .int n), ("called", .str "BadNumber")]⟩
theorem inV_i (n : Int) : ∀ ns : List Int, inV (.int n) ((ns.map D.int).map D.v) = decide (n ∈ ns)
  | [] => rfl
  | a :: ns => by
    rw [List.map_cons, List.map_cons, inV_cons, inV_i n ns, v_int, eqV_ii]
    by_cases e : a = n
    · subst e; simp
    · have : ¬ n = a := fun z => e z.symm
      simp [e, this]
theorem flat_i (ns : List Int) : ∀ d ∈ ns.map D.int, d.flat = true := fun d hd => by
  obtain ⟨i, _, rfl⟩ := List.mem_map.mp hd
  rfl
theorem fin_il {ns : List Int} {n : Int} {Q : D → Prop} (h : Q (.bl (decide (n ∈ ns)))) : fIn false (.int n) (.lst (ns.map .int)) Q := by
  refine w_fIn_l rfl (flat_i ns) ?_
  rw [v_int, inV_i]
  exact h
theorem foldK_le {κ : Type} [DecidableEq κ] (xs : List κ) : (foldK xs).length ≤ xs.length := by
  have := foldK_len xs []
  rw [List.length_nil, Nat.zero_add] at this
  exact this
theorem nms_len (xs : List (Nat × Int)) : (nmsOf xs).length ≤ xs.length := by
  unfold nmsOf sortI
  rw [List.length_mergeSort]
  have := foldK_le (xs.map (·.2))
  rwa [List.length_map] at this
theorem foldK_nd {κ : Type} [DecidableEq κ] (xs : List κ) : (foldK xs).Nodup := by
  have g : ∀ (xs acc : List κ), acc.Nodup → (xs.foldl insK acc).Nodup := fun xs => by
    induction xs with
    | nil => exact fun acc h => h
    | cons x xs ih =>
      intro acc h
      refine ih _ ?_
      unfold insK
      split
      · exact h
      · rename_i hx
        rw [List.nodup_append]
        exact ⟨h, by simp, fun a ha b hb q => hx (by rw [List.mem_singleton.mp hb] at q; first | exact q ▸ ha | simpa [q] using ha)⟩
  exact g xs [] List.nodup_nil
theorem nms_nd (xs : List (Nat × Int)) : (nmsOf xs).Nodup := (List.mergeSort_perm _ _).nodup_iff.mpr (foldK_nd _)
section
variable {P : D → Sto → Prop} {X : Ex → Sto → Prop} {S : Sto} {cs : List Nat} {xs : List (Nat × Int)} {nx : Env → Sto → Prop} {rt : D → Sto → Prop} {bk ct : Env → Sto → Prop}
theorem forD_c {f : TgM} {m : MS} {d : D} {ds : List D} {ρ : Env}
    (h : f d ρ fun ρ1 => m ρ1 S ⟨fun ρ2 S2 => forD f m ds ρ2 S2 ⟨nx, rt, bk, ct, X⟩, rt, nx, fun ρ2 S2 => forD f m ds ρ2 S2 ⟨nx, rt, bk, ct, X⟩, X⟩) : forD f m (d :: ds) ρ S ⟨nx, rt, bk, ct, X⟩ := h
theorem forD_n {f : TgM} {m : MS} {ρ : Env} (h : nx ρ S) : forD f m [] ρ S ⟨nx, rt, bk, ct, X⟩ := h
abbrev rnB : MS := kSeq (kIf (mB (mSIn false 3 (mXGet2 (mVarQ 2) (mVar 4) (mVar 4)))) (kRaise1 "BadNumber" "BadNumber" "number" (mCons (mVar 4) mNil)) kNext) (kSAdd 3 (mXGet2 (mVarQ 2) (mVar 4) (mVar 4)))
theorem ren_loop {i : Nat} {ps : List (Int × Int)} {a b : D} (hS : S[i]? = some (.dic (kI ps) (vI ps))) : ∀ (L seen : List Int) (y4 y5 : Sl), isOw (some y4) = false → seen.length + L.length < 4000 →
    (fb (toldI ps) seen L = none → ∀ s y4, isOw (some y4) = false → nx [.va a, .va b, .va (.ob i), .ow (.pr [.lst s]), y4, y5] S) → (∀ n, fb (toldI ps) seen L = some n → X (bnE n) S) →
    forD (mName 4) rnB (L.map .int) [.va a, .va b, .va (.ob i), .ow (.pr [.lst (seen.map .int)]), y4, y5] S ⟨nx, rt, bk, ct, X⟩
  | [], seen, y4, y5, ho, _, hg, _ => forD_n (hg rfl _ _ ho)
  | n :: L, seen, y4, y5, ho, hl, hg, hb => by
    rw [List.length_cons] at hl
    refine forD_c ?_
    unfold rnB
    walk_at "W"
    refine ⟨dcov_i ps n, ?_⟩
    rw [look_i]
    walk_at "W"
    refine ⟨rfl, ?_⟩
    rw [any_i]
    by_cases hm : toldI ps n ∈ seen
    · rw [decide_eq_true hm]
      walk_at "W"
      refine hb n ?_
      unfold fb
      rw [if_pos hm]
    · rw [decide_eq_false hm]
      walk_at "W"
      refine ⟨dcov_i ps n, ?_⟩
      rw [look_i]
      walk_at "W"
      refine ⟨rfl, by rw [List.length_map]; omega, ?_⟩
      walk_at "W"
      have e : fb (toldI ps) seen (n :: L) = fb (toldI ps) (seen ++ [toldI ps n]) L := by
        show (if toldI ps n ∈ seen then some n else fb (toldI ps) (seen ++ [toldI ps n]) L) = _
        rw [if_neg hm]
      rw [e] at hg
      simp only [e] at hb
      rw [show seen.map D.int ++ [D.int (toldI ps n)] = (seen ++ [toldI ps n]).map D.int by rw [List.map_append]; rfl]
      exact ren_loop hS L (seen ++ [toldI ps n]) _ _ rfl (by rw [List.length_append, List.length_singleton]; omega) hg hb
theorem renamed_ok {i : Nat} {ps : List (Int × Int)} (hL : GoodL cs) (h4 : cs.length ≤ 4) (hr : GoodRow cs xs) (hS : S[i]? = some (.dic (kI ps) (vI ps)))
    (hg : fb (toldI ps) [] (nmsOf xs) = none → P (.lst (xs.map fun p => hpD (p.1, toldI ps p.2))) S) (hb : ∀ n, fb (toldI ps) [] (nmsOf xs) = some n → X (bnE n) S) : m_renamed [.str (ofL cs), .lst (xs.map hpD), .ob i] S P X := by
  have h40 := hr.few
  unfold m_renamed
  walk_at "W"
  refine need_kinds_ok hL h4 ?_
  walk_at "W"
  refine need_row_ok hr ?_
  walk_at "W"
  refine loD_set hpD (fun p => .int p.2) xs (fun x hx P N hP => ?_) (fun ys x zs e P hP => ?_) ?_
  · unfold hpD
    walk_at "W"
    exact hP
  · refine .inl ⟨x.2, rfl, ys.map (·.2), by rw [List.map_map]; rfl, ?_, hP⟩
    have : scanBound = 4096 := rfl
    have := congrArg List.length e
    rw [List.length_append, List.length_cons] at this
    rw [List.length_map]
    omega
  refine .inl ⟨xs.map (·.2), by rw [List.map_map]; rfl, by rw [List.length_map]; omega, ?_⟩
  walk_at "W"
  have hn := nms_len xs
  refine ren_loop hS (nmsOf xs) [] _ _ rfl (by rw [List.length_nil]; omega) (fun h s y4 ho => ?_) hb
  walk_at "W"
  refine w_mLc (fun j hj => ?_) ?_
  · rcases List.mem_cons.mp hj with rfl | hj
    · rfl
    · rw [List.mem_singleton.mp hj]; exact ho
  walk_at "W"
  refine lcD_map hpD (fun p => hpD (p.1, toldI ps p.2)) xs (fun p hp P hP => ?_) ?_
  · unfold hpD
    walk_at "W"
    refine ⟨dcov_i ps p.2, ?_⟩
    rw [look_i]
    walk_at "W"
    exact hP
  rw [List.nil_append]
  walk_at "W"
  exact hg h
/-- a name's own kinds -/
def ownL (xs : List (Nat × Int)) (n : Int) : List Str := (xs.filter fun p => decide (p.2 = n)).map fun p => sg p.1
theorem ownL_len (xs : List (Nat × Int)) (n : Int) (h : xs.length ≤ 40) : ((ownL xs n).map (·.length)).sum + (ownL xs n).length * ("" : Str).length ≤ 16777216 := by
  have h1 : ∀ L : List (Nat × Int), ((L.map fun p => sg p.1).map (·.length)).sum = L.length := fun L => by
    induction L with
    | nil => rfl
    | cons p L ih => rw [List.map_cons, List.map_cons, List.sum_cons, ih, List.length_cons, sg_len]; omega
  have h2 : (xs.filter fun p => decide (p.2 = n)).length ≤ xs.length := List.length_filter_le ..
  unfold ownL
  rw [h1, show ("" : Str).length = 0 from rfl]
  omega
theorem own_fm (n : Int) : ∀ xs : List (Nat × Int), xs.filterMap (fun p => if p.2 = n then some (D.str (sg p.1)) else none) = (ownL xs n).map .str
  | [] => rfl
  | p :: xs => by
    rw [List.filterMap_cons]
    unfold ownL
    rw [List.filter_cons]
    by_cases e : p.2 = n
    · rw [if_pos e, if_pos (decide_eq_true e), own_fm n xs]; rfl
    · rw [if_neg e, if_neg (by simpa using e), own_fm n xs]; rfl
theorem own_kinds_ok {n : Int} (hL : GoodL cs) (h4 : cs.length ≤ 4) (hr : GoodRow cs xs) (hP : P (.str (Str.join "" (ownL xs n))) S) : m_own_kinds [.str (ofL cs), .lst (xs.map hpD), .int n] S P X := by
  have h40 := hr.few
  unfold m_own_kinds
  walk_at "W"
  refine need_kinds_ok hL h4 ?_
  walk_at "W"
  refine need_row_ok hr ?_
  walk_at "W"
  refine lcD_fm hpD (fun p => if p.2 = n then some (.str (sg p.1)) else none) xs (fun p hp P hP => ?_) ?_
  · unfold hpD
    walk_at "W"
    by_cases e : p.2 = n
    · rw [if_pos e] at hP
      rw [if_pos (decide_eq_true e)]
      walk_at "W"
      exact hP
    · rw [if_neg e] at hP
      rw [if_neg (by simpa using e)]
      exact hP
  rw [List.nil_append, own_fm]
  walk_at "W"
  refine ⟨ownL xs n, rfl, ownL_len xs n h40, ?_⟩
  walk_at "W"
  exact hP
end
end Nc

namespace Nc
open PySem PySem.Spec PyProof.Rows L2
theorem small_all : ∀ {ds : List D}, (∀ d ∈ ds, d.small) → D.smallBs ds = true
  | [], _ => by unfold D.smallBs; rfl
  | d :: ds, h => by
    unfold D.smallBs
    rw [show d.smallB = true from h d (List.mem_cons_self ..), small_all fun x hx => h x (List.mem_cons_of_mem _ hx)]
    rfl
theorem small_tup {ds : List D} (hl : ds.length ≤ 100000) (h : ∀ d ∈ ds, d.small) : D.small (.tup ds) := by
  unfold D.small D.smallB
  rw [small_all h, decide_eq_true hl]
  rfl
theorem small_lst {ds : List D} (hl : ds.length ≤ 100000) (h : ∀ d ∈ ds, d.small) : D.small (.lst ds) := by
  unfold D.small D.smallB
  rw [small_all h, decide_eq_true hl]
  rfl
theorem small_int (i : Int) : D.small (.int i) := by unfold D.small D.smallB; rfl
theorem small_bl (i : Bool) : D.small (.bl i) := by unfold D.small D.smallB; rfl
theorem small_str (z : Str) : D.small (.str z) := by unfold D.small D.smallB; rfl
/-! ## what is told: the same by the law and by the program -/
theorem letter128 {c : Nat} (h : c ∈ LET) : c < 128 := by
  unfold LET at h
  obtain ⟨i, hi, e⟩ := List.mem_map.mp h
  have := List.mem_range.mp hi
  omega
theorem find_nd : ∀ {ps : List (Int × Int)}, (ps.map (·.1)).Nodup → ∀ p ∈ ps, ps.find? (fun q => decide (q.1 = p.1)) = some p
  | [], _, p, hp => nomatch hp
  | q :: ps, h, p, hp => by
    rw [List.map_cons, List.nodup_cons] at h
    rw [List.find?_cons]
    rcases List.mem_cons.mp hp with rfl | hp
    · rw [decide_eq_true rfl]
    · have : q.1 ≠ p.1 := fun z => h.1 (by rw [z]; exact List.mem_map.mpr ⟨p, hp, rfl⟩)
      rw [decide_eq_false this]
      exact find_nd h.2 p hp
theorem deq_self {ps : List (Int × Int)} (h : (ps.map (·.1)).Nodup) : deqD (kI ps) (vI ps) (kI ps) (vI ps) = true := by
  unfold deqD
  rw [Bool.and_eq_true_iff]
  refine ⟨by simp, ?_⟩
  unfold kI vI
  rw [List.zip_map', List.all_map, List.all_eq_true]
  intro p hp
  show eqID (dlook _ _ (D.int p.1)) (.int p.2) = true
  rw [dlook_map, show (fun x : Int × Int => decide ((D.int x.1).nk = (D.int p.1).nk)) = fun q => decide (q.1 = p.1) from funext fun q => nk_ii _ _, find_nd h p hp]
  exact decide_eq_true rfl
theorem dput_new {ps : List (Int × Int)} {n v : Int} (h : n ∉ ps.map (·.1)) : dput (kI ps) (vI ps) (.int n) (.int v) = (kI (ps ++ [(n, v)]), vI (ps ++ [(n, v)])) := by
  unfold dput
  rw [if_neg]
  · unfold kI vI
    rw [List.map_append, List.map_append]
    rfl
  · rw [show kI ps = (ps.map (·.1)).map D.int by unfold kI; rw [List.map_map]; rfl, any_i, decide_eq_false h]
    decide
/-- the names that the law finds to be told as one ahead of them -/
def badF (g : Int → Int) (L : List Int) (j : Nat) : Option Int := if (L.map g).getD j 0 ∈ (L.map g).take j then some (L.getD j 0) else none
def badL (g : Int → Int) (L : List Int) : List Int := (List.range L.length).filterMap (badF g L)
theorem fb_head (g : Int → Int) (LL : List Int) : ∀ (suf pre : List Int), LL = pre ++ suf → fb g (pre.map g) suf = ((List.range' pre.length suf.length).filterMap (badF g LL)).head?
  | [], pre, e => rfl
  | n :: suf, pre, e => by
    rw [List.length_cons, List.range'_succ, List.filterMap_cons]
    have e1 : LL.getD pre.length 0 = n := by subst e; simp
    have e2 : (LL.map g).getD pre.length 0 = g n := by subst e; simp
    have e3 : (LL.map g).take pre.length = pre.map g := by subst e; simp
    have eb : badF g LL pre.length = if g n ∈ pre.map g then some n else none := by
      unfold badF
      rw [e1, e2, e3]
    rw [eb]
    show (if g n ∈ pre.map g then some n else fb g (pre.map g ++ [g n]) suf) = _
    by_cases h : g n ∈ pre.map g
    · rw [if_pos h, if_pos h]
      rfl
    · rw [if_neg h, if_neg h]
      have := fb_head g LL suf (pre ++ [n]) (by rw [e]; simp)
      rw [List.map_append, List.length_append] at this
      exact this
theorem bad_head (g : Int → Int) (L : List Int) : fb g [] L = (badL g L).head? := by
  have := fb_head g L L [] rfl
  rw [List.length_nil, ← List.range_eq_range'] at this
  exact this
section
variable {P : D → Sto → Prop} {X : Ex → Sto → Prop} {S : Sto} {cs : List Nat} {xs : List (Nat × Int)} {Q : D → Prop}
theorem cat_bn {n : Int} (h : P (.tup [.str "BadNumber", .int n]) S) : catD RCs cdsV (bnE n) P S := by
  have e0 : (bnE n).cls ∉ ([("BadKinds" : Str)] : List Str) := by show ("BadNumber" : Str) ∉ _; decide +kernel
  have e1 : (bnE n).cls ∉ ([] : List Str) := by show ("BadNumber" : Str) ∉ _; decide +kernel
  have e2 : (bnE n).cls ∉ ([("BadRow" : Str)] : List Str) := by show ("BadNumber" : Str) ∉ _; decide +kernel
  have e3 : (bnE n).cls ∉ ([("TooLong" : Str)] : List Str) := by show ("BadNumber" : Str) ∉ _; decide +kernel
  have e4 : (bnE n).cls ∈ ([("BadNumber" : Str)] : List Str) := by show ("BadNumber" : Str) ∈ _; decide +kernel
  refine ⟨by show ("BadNumber" : Str) ∈ _; decide +kernel, ?_⟩
  unfold catL
  rw [if_neg e0]
  unfold catL
  rw [if_neg e1]
  unfold catL
  rw [if_neg e2]
  unfold catL
  rw [if_neg e3]
  unfold catL
  rw [if_neg e1]
  unfold catL
  rw [if_pos e4]
  refine ⟨.str "BadNumber", .int n, ?_, ?_, h⟩
  · show List.lookup ("called" : Str) [(("number" : Str), D.int n), (("called" : Str), D.str "BadNumber")] = _
    rw [List.lookup_cons, strBeqLit, decide_eq_false (by decide), List.lookup_cons, strBeqLit, decide_eq_true rfl]
  · show List.lookup ("number" : Str) [(("number" : Str), D.int n), (("called" : Str), D.str "BadNumber")] = _
    rw [List.lookup_cons, strBeqLit, decide_eq_true rfl]
theorem same_bn (n : Int) (hP : P (.bl true) S) : m__law_same 70 [.tup [.str "BadNumber", .int n], .tup [.str "BadNumber", .int n]] S P X := by
  have ok : D.okd 1 (.tup [.str "BadNumber", .int n]) := okd_tup (n := 0) (List.forall_mem_cons.mpr ⟨okd_str (litOk _), List.forall_mem_cons.mpr ⟨okd_int, List.forall_mem_nil _⟩⟩)
  exact law_same_ok 70 1 _ ok (Nat.lt_of_le_of_lt ok.2.2 (by decide)) (by decide) (small_tup (show 2 ≤ 100000 by decide) (List.forall_mem_cons.mpr ⟨small_str _, List.forall_mem_cons.mpr ⟨small_int _, List.forall_mem_nil _⟩⟩)) hP
theorem okd_row (h : ∀ p ∈ xs, p.1 ∈ LET) : D.okd 2 (.lst (xs.map hpD)) := okd_lst fun d hd => by
  obtain ⟨p, hp, rfl⟩ := List.mem_map.mp hd
  exact okd_tup (n := 0) (List.forall_mem_cons.mpr ⟨okd_str (lits [p.1] fun x hx => by rw [List.mem_singleton.mp hx]; exact letter128 (h p hp)), List.forall_mem_cons.mpr ⟨okd_int, List.forall_mem_nil _⟩⟩)
theorem same_row (h : ∀ p ∈ xs, p.1 ∈ LET) (hl : xs.length ≤ 40) (hP : P (.bl true) S) : m__law_same 70 [.lst (xs.map hpD), .lst (xs.map hpD)] S P X := by
  have ok := okd_row h
  refine law_same_ok 70 2 _ ok (Nat.lt_of_le_of_lt ok.2.2 (by decide)) (by decide) (small_lst (by rw [List.length_map]; omega) fun d hd => ?_) hP
  obtain ⟨p, hp, rfl⟩ := List.mem_map.mp hd
  exact small_tup (show 2 ≤ 100000 by decide) (List.forall_mem_cons.mpr ⟨small_str _, List.forall_mem_cons.mpr ⟨small_int _, List.forall_mem_nil _⟩⟩)
theorem same_own (h : ∀ p ∈ xs, p.1 ∈ LET) (n : Int) (hP : P (.bl true) S) : m__law_same 70 [.str (Str.join "" (ownL xs n)), .str (Str.join "" (ownL xs n))] S P X := by
  have e : ownL xs n = ((xs.filter fun p => decide (p.2 = n)).map (·.1)).map sg := by unfold ownL; rw [List.map_map]; rfl
  rw [e, joinS_sg]
  have ok : D.okd 0 (.str (ofL ((xs.filter fun p => decide (p.2 = n)).map (·.1)))) := okd_str (lits _ fun x hx => by
    obtain ⟨p, hp, rfl⟩ := List.mem_map.mp hx
    exact letter128 (h p (List.mem_filter.mp hp).1))
  exact law_same_ok 70 0 _ ok (Nat.lt_of_le_of_lt ok.2.2 (by decide)) (by decide) (small_str _) hP
theorem fne_nil {ns : List Int} (hQ : Q (.bl (!ns.isEmpty))) : fEq true (.lst (ns.map .int)) (.lst []) Q := by
  have ok : D.okd 1 (.lst (ns.map .int)) := okd_lst (n := 0) fun d hd => by
    obtain ⟨i, _, rfl⟩ := List.mem_map.mp hd
    exact okd_int
  refine ⟨ok_iff.mpr (ok.le (by decide)), ok_lnil, ?_⟩
  show Q (.bl (!(D.eqv _ _)))
  rw [eqv_lnl, List.isEmpty_map]
  exact hQ
theorem own_side {y8 : Sl} (h8 : isOw (some y8) = false) {a0 a1 a2 a3 a4 a5 a6 a7 a9 a10 a11 a12 a13 a14 a15 a17 : Sl} : ∀ j ∈ [16, 8], isOw [a0, a1, a2, a3, a4, a5, a6, a7, y8, a9, a10, a11, a12, a13, a14, a15, Sl.un, a17][j]? = false := fun j hj => by
  rcases List.mem_cons.mp hj with rfl | hj
  · rfl
  · rw [List.mem_singleton.mp hj]; exact h8
theorem own_side1 {y8 : Sl} (h8 : isOw (some y8) = false) {a0 a1 a2 a3 a4 a5 a6 a7 a9 a10 a11 a12 a13 a14 a15 a16 a17 : Sl} : ∀ j ∈ [8], isOw [a0, a1, a2, a3, a4, a5, a6, a7, y8, a9, a10, a11, a12, a13, a14, a15, a16, a17][j]? = false := fun j hj => by
  rw [List.mem_singleton.mp hj]; exact h8
section
variable {N : Env → Sto → Prop} {rt : D → Sto → Prop} {bk ct : Env → Sto → Prop} {y2 y6 y8 y11 y12 y13 y14 : Sl} {ps : List (Int × Int)} {i : Nat}
theorem lwU_ok (hL : GoodL cs) (h4 : cs.length ≤ 4) (hr : GoodRow cs xs) (hS : S[i]? = some (.dic (kI ps) (vI ps))) (hd : (ps.map (·.1)).Nodup) {ns : List Int} (hns : ns.length ≤ 40) (h8 : isOw (some y8) = false)
    (hN : ∀ z8, isOw (some z8) = false → N [.un, .va .bag, y2, .va (.str (ofL cs)), .va (.lst (xs.map hpD)), .va (.lst (ns.map .int)), y6, .va (.dic (kI ps) (vI ps)), z8, .va (.lst (xs.map hpD)), .va (.ob i), y11, y12, y13, y14, .un, .un, .un] S) :
    lwU [.un, .va .bag, y2, .va (.str (ofL cs)), .va (.lst (xs.map hpD)), .va (.lst (ns.map .int)), y6, .va (.dic (kI ps) (vI ps)), y8, .va (.lst (xs.map hpD)), .va (.ob i), y11, y12, y13, y14, .un, .un, .un] S ⟨N, rt, bk, ct, X⟩ := by
  have hl : ∀ p ∈ xs, p.1 ∈ LET := fun p hp => hL.lets _ (hr.ks p hp)
  have h40 := hr.few
  unfold lwU
  walk_at "W"
  rw [show ns.map D.int ++ [D.int (10 ^ Int.toNat 39)] = (ns ++ [10 ^ Int.toNat 39]).map D.int by rw [List.map_append]; rfl]
  refine forD_i D.int (ns ++ [10 ^ Int.toNat 39]) (fun _ ρ S' => S' = S ∧ ∃ z8, isOw (some z8) = false ∧ ρ = [.un, .va .bag, y2, .va (.str (ofL cs)), .va (.lst (xs.map hpD)), .va (.lst (ns.map .int)), y6, .va (.dic (kI ps) (vI ps)), z8, .va (.lst (xs.map hpD)), .va (.ob i), y11, y12, y13, y14, .un, .un, .un]) (fun dn n rest ρ S' e hI N2 hN2 => ?_) ⟨rfl, _, h8, rfl⟩ fun ρ S' hI => ?_
  · obtain ⟨rfl, z8, ho, rfl⟩ := hI
    walk_at "W"
    refine own_kinds_ok hL h4 hr ?_
    walk_at "W"
    refine lcD_fm hpD (fun p => if p.2 = n then some (.str (sg p.1)) else none) xs (fun p hp P hP => ?_) ?_
    · unfold hpD
      walk_at "W"
      by_cases e : p.2 = n
      · rw [if_pos e] at hP
        rw [if_pos (decide_eq_true e)]
        walk_at "W"
        exact hP
      · rw [if_neg e] at hP
        rw [if_neg (by simpa using e)]
        exact hP
    rw [List.nil_append, own_fm]
    walk_at "W"
    refine ⟨ownL xs n, rfl, ownL_len xs n h40, ?_⟩
    walk_at "W"
    refine same_own hl n ?_
    walk_at "W"
    exact hN2 _ _ ⟨rfl, _, rfl, rfl⟩
  · obtain ⟨rfl, z8, ho, rfl⟩ := hI
    walk_at "W"
    refine fEq_self (okd_row hl) (by decide) ?_
    walk_at "W"
    refine ⟨all_kI ps, all_kI ps, all_vI ps, all_vI ps, ?_⟩
    rw [deq_self hd]
    walk_at "W"
    exact hN _ ho
theorem lwT_ok (hL : GoodL cs) (h4 : cs.length ≤ 4) (hr : GoodRow cs xs) (hS : S[i]? = some (.dic (kI ps) (vI ps))) (hd : (ps.map (·.1)).Nodup) (h8 : isOw (some y8) = false)
    (hN : ∀ z8 z10 z11 z12 z13 z14 S', isOw (some z8) = false → N [.un, .va .bag, y2, .va (.str (ofL cs)), .va (.lst (xs.map hpD)), .va (.lst ((nmsOf xs).map .int)), y6, .va (.dic (kI ps) (vI ps)), z8, .va (.lst (xs.map hpD)), z10, z11, z12, z13, z14, .un, .un, .un] S') :
    lwT [.un, .va .bag, y2, .va (.str (ofL cs)), .va (.lst (xs.map hpD)), .va (.lst ((nmsOf xs).map .int)), y6, .va (.dic (kI ps) (vI ps)), y8, .va (.lst (xs.map hpD)), .va (.ob i), y11, y12, y13, y14, .un, .un, .un] S ⟨N, rt, bk, ct, X⟩ := by
  have hl : ∀ p ∈ xs, p.1 ∈ LET := fun p hp => hL.lets _ (hr.ks p hp)
  have hn := nms_len xs
  have h40 := hr.few
  generalize hnm : nmsOf xs = nm at hN hn ⊢
  unfold lwT
  walk_at "W"
  refine w_mLc (own_side1 h8) ?_
  walk_at "W"
  refine lcD_map D.int (fun n => .int (toldI ps n)) nm (fun n hn P hP => ?_) ?_
  · walk_at "W"
    refine ⟨dcov_i ps n, ?_⟩
    rw [look_i]
    walk_at "W"
    exact hP
  rw [List.nil_append, show (nm.map fun n => D.int (toldI ps n)) = (nm.map (toldI ps)).map .int by rw [List.map_map]; rfl]
  walk_at "W"
  rw [List.length_map]
  walk_at "W"
  rw [Int.toNat_natCast]
  refine ⟨by unfold rngD; rw [List.length_map, List.length_range]; exact szle (by omega), ?_⟩
  unfold rngD
  walk_at "W"
  refine lcD_fm (fun j : Nat => D.int (0 + (j : Int))) (fun j => (badF (toldI ps) nm j).map .int) (List.range nm.length) (fun j hj P hP => ?_) ?_
  · have hj := List.mem_range.mp hj
    walk_at "W"
    rw [Int.zero_add]
    refine w_fIx_l (d := .int ((nm.map (toldI ps)).getD j 0)) (L2.atI_nat (by simp [List.getD, hj])) ?_
    walk_at "W"
    rw [cutL_to, ← List.map_take]
    refine fin_il ?_
    walk_at "W"
    unfold badF at hP
    by_cases hm : (nm.map (toldI ps)).getD j 0 ∈ (nm.map (toldI ps)).take j
    · rw [if_pos hm] at hP
      rw [if_pos (decide_eq_true hm)]
      walk_at "W"
      refine w_fIx_l (d := .int (nm.getD j 0)) (L2.atI_nat (by simp [List.getD, hj])) ?_
      exact hP
    · rw [if_neg hm] at hP
      rw [if_neg (by simpa using hm)]
      exact hP
  rw [List.nil_append, show (List.range nm.length).filterMap (fun j => (badF (toldI ps) nm j).map D.int) = (badL (toldI ps) nm).map .int by unfold badL; rw [List.map_filterMap]]
  have hb := bad_head (toldI ps) nm
  walk_at "W"
  refine fne_nil ?_
  cases hbad : badL (toldI ps) nm with
  | cons b bad =>
    rw [hbad] at hb
    walk_at "W"
    refine renamed_ok hL h4 hr hS (fun z => ?_) fun n z => ?_
    · rw [hnm, hb] at z; cases z
    · rw [hnm, hb] at z
      cases z
      refine cat_bn ?_
      rw [List.map_cons]
      walk_at "W"
      refine same_bn _ ?_
      walk_at "W"
      exact lwU_ok hL h4 hr hS hd (by omega) h8 fun z8 ho => hN _ _ _ _ _ _ _ ho
  | nil =>
    rw [hbad] at hb
    walk_at "W"
    rw [if_neg (by decide)]
    walk_at "W"
    refine w_mLc (own_side h8) ?_
    walk_at "W"
    refine lcD_map hpD (fun p => hpD (p.1, toldI ps p.2)) xs (fun p hp P hP => ?_) ?_
    · unfold hpD
      walk_at "W"
      refine ⟨dcov_i ps p.2, ?_⟩
      rw [look_i]
      walk_at "W"
      exact hP
    rw [List.nil_append]
    walk_at "W"
    refine renamed_ok hL h4 hr hS (fun z => ?_) fun n z => ?_
    · walk_at "W"
      refine ⟨all_kI ps, ?_⟩
      walk_at "W"
      rw [show (xs.map fun p => hpD (p.1, toldI ps p.2)) = (xs.map fun p => (p.1, toldI ps p.2)).map hpD by rw [List.map_map]; rfl]
      refine same_row (fun p hp => ?_) (by rw [List.length_map]; omega) ?_
      · obtain ⟨q, hq, rfl⟩ := List.mem_map.mp hp
        exact hl q hq
      walk_at "W"
      refine ⟨all_kI ps, ?_⟩
      walk_at "W"
      exact lwU_ok hL h4 hr (ob_get _ _) hd (by omega) h8 fun z8 ho => hN _ _ _ _ _ _ _ ho
    · rw [hnm, hb] at z; cases z
end
end
theorem law_m : m_law ([.un, .va .bag] ++ List.replicate 16 .un) [] okEnds := by
  show m_law [.un, .va .bag, .un, .un, .un, .un, .un, .un, .un, .un, .un, .un, .un, .un, .un, .un, .un, .un] [] ⟨fun _ _ => False, fun d _ => d = .bl true, fun _ _ => False, fun _ _ => False, fun _ _ => False⟩
  unfold m_law
  walk_at "W"
  refine forD_r (fun _ ρ S => ∃ y2 y3 y4 y5 y6 y7 y8 y9 y10 y11 y12 y13 y14 : Sl, isOw (some y8) = false ∧ ρ = [.un, .va .bag, y2, y3, y4, y5, y6, y7, y8, y9, y10, y11, y12, y13, y14, .un, .un, .un]) (fun j ρ S' _ hI N hN => ?_) ⟨_, _, _, _, _, _, _, _, _, _, _, _, _, rfl, rfl⟩ fun ρ S' hI => ?_
  · obtain ⟨y2, y3, y4, y5, y6, y7, y8, y9, y10, y11, y12, y13, y14, h8, rfl⟩ := hI
    walk_at "W"
    refine law_signs_ok (cap := 4) (by decide) (by decide) fun cs hL h4 => ?_
    have h1 := hL.one
    walk_at "W"
    refine law_row_ok (cap := 40) hL h4 (by decide) fun xs hr hx => ?_
    unfold rowD
    walk_at "W"
    refine w_mLc (own_side h8) ?_
    walk_at "W"
    refine lcD_map hpD (fun p => .int p.2) xs (fun p hp P hP => ?_) ?_
    · unfold hpD
      walk_at "W"
      exact hP
    rw [List.nil_append, show (xs.map fun p => D.int p.2) = (xs.map (·.2)).map .int by rw [List.map_map]; rfl]
    walk_at "W"
    refine ⟨.inl ⟨_, rfl⟩, by have : scanBound = 4096 := rfl; rw [List.length_map, List.length_map]; omega, ?_⟩
    refine .inl ⟨_, rfl, by rw [List.length_map]; omega, ?_⟩
    rw [show sortI (foldK (xs.map (·.2))) = nmsOf xs from rfl]
    walk_at "W"
    have hn := nms_len xs
    have hnd := nms_nd xs
    refine law_names_ok (k := 3) (by decide) fun ms hm _ => ?_
    walk_at "W"
    rw [← List.map_append]
    refine ⟨by rw [List.length_map, List.length_append]; omega, fun ys hp => ?_⟩
    obtain ⟨gs, rfl, hz⟩ := perm_ints hp
    have hgl : gs.length = (nmsOf xs).length + 3 := by rw [hz.length_eq, List.length_append, hm]
    walk_at "W"
    refine forD_i D.int (nmsOf xs) (fun dn ρ S2 => S2 = S' ∧ ∃ (ps : List (Int × Int)) (z8 : Sl), isOw (some z8) = false ∧ (∀ p ∈ ps, p.1 ∈ dn) ∧ (ps.map (·.1)).Nodup ∧ ps.length ≤ dn.length ∧ ρ = [.un, .va .bag, .va (.int (0 + (j : Nat))), .va (.str (ofL cs)), .va (.lst (xs.map hpD)), .va (.lst ((nmsOf xs).map .int)), .va (.lst (gs.map .int)), .ow (.dic (kI ps) (vI ps)), z8, y9, y10, y11, y12, y13, y14, .un, .un, .un]) (fun dn n rest ρ S2 e hI N2 hN2 => ?_) ⟨rfl, [], _, h8, (fun _ h => nomatch h), List.nodup_nil, Nat.le_refl _, rfl⟩ fun ρ S2 hI => ?_
    · obtain ⟨rfl, ps, z8, ho, hk, hd, hpl, rfl⟩ := hI
      have hnew : n ∉ ps.map (·.1) := fun z => by
        obtain ⟨p, hp, ep⟩ := List.mem_map.mp z
        have h2 := hk p hp
        rw [e, List.nodup_append] at hnd
        exact hnd.2.2 p.1 h2 n (List.mem_cons_self ..) ep
      have hmem : n ∈ nmsOf xs := by rw [e]; simp
      have hdl : dn.length ≤ 40 := by
        have := congrArg List.length e
        rw [List.length_append] at this
        omega
      have step : ∀ v : Int, (∀ p ∈ ps ++ [(n, v)], p.1 ∈ dn ++ [n]) ∧ ((ps ++ [(n, v)]).map (·.1)).Nodup ∧ (ps ++ [(n, v)]).length ≤ (dn ++ [n]).length := fun v => by
        refine ⟨fun p hp => ?_, ?_, by rw [List.length_append, List.length_append, List.length_singleton, List.length_singleton]; omega⟩
        · rcases List.mem_append.mp hp with hp | hp
          · exact List.mem_append_left _ (hk p hp)
          · rw [List.mem_singleton.mp hp]; simp
        · rw [List.map_append, List.nodup_append]
          exact ⟨hd, by simp, fun a ha b hb q => hnew (by rw [List.map_singleton, List.mem_singleton] at hb; rw [hb] at q; rw [show a = n from q] at ha; exact ha)⟩
      have hkl : (kI ps).length < sizeLine := szlt (by unfold kI; rw [List.length_map]; omega)
      walk_at "W"
      refine pick_ok (by decide) (by decide) fun q q0 q1 => ?_
      walk_at "W"
      by_cases hq : 0 < q
      · rw [if_pos (decide_eq_true hq)]
        walk_at "W"
        refine pick_ok (by decide) (by decide) fun w w0 w1 => ?_
        walk_at "W"
        by_cases hw : w = 0
        · rw [if_pos (decide_eq_true hw)]
          walk_at "W"
          refine law_of_lst (by rw [List.length_map]; omega) (by rw [List.length_map]; omega) fun v hv => ?_
          obtain ⟨v, _, rfl⟩ := List.mem_map.mp hv
          walk_at "W"
          refine ⟨dcov_i ps n, hkl, ?_⟩
          rw [dput_new hnew]
          walk_at "W"
          exact hN2 _ _ ⟨rfl, ps ++ [(n, v)], _, rfl, (step v).1, (step v).2.1, (step v).2.2, rfl⟩
        · rw [if_neg (by simpa using hw)]
          walk_at "W"
          have hix := List.idxOf_lt_length_iff.mpr hmem
          refine w_fIx_l (d := .int (gs.getD ((nmsOf xs).idxOf n) 0)) (L2.atI_nat (by simp [List.getD, show (nmsOf xs).idxOf n < gs.length by omega])) ?_
          walk_at "W"
          refine ⟨dcov_i ps n, hkl, ?_⟩
          rw [dput_new hnew]
          walk_at "W"
          exact hN2 _ _ ⟨rfl, ps ++ [(n, _)], _, rfl, (step _).1, (step _).2.1, (step _).2.2, rfl⟩
      · rw [if_neg (by simpa using hq)]
        walk_at "W"
        exact hN2 _ _ ⟨rfl, ps, _, rfl, fun p hp => List.mem_append_left _ (hk p hp), hd, by rw [List.length_append]; omega, rfl⟩
    · obtain ⟨rfl, ps, z8, ho, hk, hd, hpl, rfl⟩ := hI
      walk_at "W"
      refine ⟨all_kI ps, ?_⟩
      walk_at "W"
      exact lwT_ok hL h4 hr (ob_get _ _) hd ho fun w8 z10 z11 z12 z13 z14 S3 ho => hN _ _ ⟨_, _, _, _, _, _, _, _, _, _, _, _, _, ho, rfl⟩
  · obtain ⟨y2, y3, y4, y5, y6, y7, y8, y9, y10, y11, y12, y13, y14, h8, rfl⟩ := hI
    walk_at "W"
    rfl
end Nc

namespace Nc
open PySem PySem.Spec PyProof.Rows L2
structure Txt (w : World) (K : PySem.W.Frag) (mg : Str → Option Value) : Prop where
  c : He.SaysD fa fn K
  ex : ∃ h : Heap, K.In h ∧ h.Ns mainGlobals mg
  x : exB K = true
  s : SaysX fa fn exB tbs w K
section
variable {P : Program} {w : World} {ls : Clos} {K : PySem.W.Frag} {mg : Str → Option Value} {base : Heap}
theorem g_BadDeed (T : Txt w K mg) : mg "BadDeed" = some (.ref (He.fAd K ("BadDeed", none))) := let ⟨_, X, G⟩ := T.ex; He.glo_ok X G (T.c.fact 0 (f := .glo "BadDeed") rfl)
theorem g_BadHappening (T : Txt w K mg) : mg "BadHappening" = some (.ref (He.fAd K ("BadHappening", none))) := let ⟨_, X, G⟩ := T.ex; He.glo_ok X G (T.c.fact 1 (f := .glo "BadHappening") rfl)
theorem g_BadKind (T : Txt w K mg) : mg "BadKind" = some (.ref (He.fAd K ("BadKind", none))) := let ⟨_, X, G⟩ := T.ex; He.glo_ok X G (T.c.fact 2 (f := .glo "BadKind") rfl)
theorem g_BadKinds (T : Txt w K mg) : mg "BadKinds" = some (.ref (He.fAd K ("BadKinds", none))) := let ⟨_, X, G⟩ := T.ex; He.glo_ok X G (T.c.fact 3 (f := .glo "BadKinds") rfl)
theorem g_BadMachine (T : Txt w K mg) : mg "BadMachine" = some (.ref (He.fAd K ("BadMachine", none))) := let ⟨_, X, G⟩ := T.ex; He.glo_ok X G (T.c.fact 4 (f := .glo "BadMachine") rfl)
theorem g_BadName (T : Txt w K mg) : mg "BadName" = some (.ref (He.fAd K ("BadName", none))) := let ⟨_, X, G⟩ := T.ex; He.glo_ok X G (T.c.fact 5 (f := .glo "BadName") rfl)
theorem g_BadNumber (T : Txt w K mg) : mg "BadNumber" = some (.ref (He.fAd K ("BadNumber", none))) := let ⟨_, X, G⟩ := T.ex; He.glo_ok X G (T.c.fact 6 (f := .glo "BadNumber") rfl)
theorem g_BadOrder (T : Txt w K mg) : mg "BadOrder" = some (.ref (He.fAd K ("BadOrder", none))) := let ⟨_, X, G⟩ := T.ex; He.glo_ok X G (T.c.fact 7 (f := .glo "BadOrder") rfl)
theorem g_BadPattern (T : Txt w K mg) : mg "BadPattern" = some (.ref (He.fAd K ("BadPattern", none))) := let ⟨_, X, G⟩ := T.ex; He.glo_ok X G (T.c.fact 8 (f := .glo "BadPattern") rfl)
theorem g_BadRow (T : Txt w K mg) : mg "BadRow" = some (.ref (He.fAd K ("BadRow", none))) := let ⟨_, X, G⟩ := T.ex; He.glo_ok X G (T.c.fact 9 (f := .glo "BadRow") rfl)
theorem g_BadText (T : Txt w K mg) : mg "BadText" = some (.ref (He.fAd K ("BadText", none))) := let ⟨_, X, G⟩ := T.ex; He.glo_ok X G (T.c.fact 10 (f := .glo "BadText") rfl)
theorem g_BadWish (T : Txt w K mg) : mg "BadWish" = some (.ref (He.fAd K ("BadWish", none))) := let ⟨_, X, G⟩ := T.ex; He.glo_ok X G (T.c.fact 11 (f := .glo "BadWish") rfl)
theorem g_CoteError (T : Txt w K mg) : mg "CoteError" = some (.ref (He.fAd K ("CoteError", none))) := let ⟨_, X, G⟩ := T.ex; He.glo_ok X G (T.c.fact 12 (f := .glo "CoteError") rfl)
theorem g_InUse (T : Txt w K mg) : mg "InUse" = some (.ref (He.fAd K ("InUse", none))) := let ⟨_, X, G⟩ := T.ex; He.glo_ok X G (T.c.fact 13 (f := .glo "InUse") rfl)
theorem g_NoPlace (T : Txt w K mg) : mg "NoPlace" = some (.ref (He.fAd K ("NoPlace", none))) := let ⟨_, X, G⟩ := T.ex; He.glo_ok X G (T.c.fact 14 (f := .glo "NoPlace") rfl)
theorem g_NoStand (T : Txt w K mg) : mg "NoStand" = some (.ref (He.fAd K ("NoStand", none))) := let ⟨_, X, G⟩ := T.ex; He.glo_ok X G (T.c.fact 15 (f := .glo "NoStand") rfl)
theorem g_NoThing (T : Txt w K mg) : mg "NoThing" = some (.ref (He.fAd K ("NoThing", none))) := let ⟨_, X, G⟩ := T.ex; He.glo_ok X G (T.c.fact 16 (f := .glo "NoThing") rfl)
theorem g_NotAgainst (T : Txt w K mg) : mg "NotAgainst" = some (.ref (He.fAd K ("NotAgainst", none))) := let ⟨_, X, G⟩ := T.ex; He.glo_ok X G (T.c.fact 17 (f := .glo "NotAgainst") rfl)
theorem g_NothingLeft (T : Txt w K mg) : mg "NothingLeft" = some (.ref (He.fAd K ("NothingLeft", none))) := let ⟨_, X, G⟩ := T.ex; He.glo_ok X G (T.c.fact 18 (f := .glo "NothingLeft") rfl)
theorem g_OtherKinds (T : Txt w K mg) : mg "OtherKinds" = some (.ref (He.fAd K ("OtherKinds", none))) := let ⟨_, X, G⟩ := T.ex; He.glo_ok X G (T.c.fact 19 (f := .glo "OtherKinds") rfl)
theorem g_Taken (T : Txt w K mg) : mg "Taken" = some (.ref (He.fAd K ("Taken", none))) := let ⟨_, X, G⟩ := T.ex; He.glo_ok X G (T.c.fact 20 (f := .glo "Taken") rfl)
theorem g_TooLong (T : Txt w K mg) : mg "TooLong" = some (.ref (He.fAd K ("TooLong", none))) := let ⟨_, X, G⟩ := T.ex; He.glo_ok X G (T.c.fact 21 (f := .glo "TooLong") rfl)
theorem g_TooMany (T : Txt w K mg) : mg "TooMany" = some (.ref (He.fAd K ("TooMany", none))) := let ⟨_, X, G⟩ := T.ex; He.glo_ok X G (T.c.fact 22 (f := .glo "TooMany") rfl)
theorem g_TooWide (T : Txt w K mg) : mg "TooWide" = some (.ref (He.fAd K ("TooWide", none))) := let ⟨_, X, G⟩ := T.ex; He.glo_ok X G (T.c.fact 23 (f := .glo "TooWide") rfl)
theorem g_Unmade (T : Txt w K mg) : mg "Unmade" = some (.ref (He.fAd K ("Unmade", none))) := let ⟨_, X, G⟩ := T.ex; He.glo_ok X G (T.c.fact 24 (f := .glo "Unmade") rfl)
theorem g__law_bag (T : Txt w K mg) : mg "_law_bag" = some (.ref (He.fAd K ("_law_bag", none))) := let ⟨_, X, G⟩ := T.ex; He.glo_ok X G (T.c.fact 25 (f := .glo "_law_bag") rfl)
theorem g__law_names (T : Txt w K mg) : mg "_law_names" = some (.ref (He.fAd K ("_law_names", none))) := let ⟨_, X, G⟩ := T.ex; He.glo_ok X G (T.c.fact 26 (f := .glo "_law_names") rfl)
theorem g__law_of (T : Txt w K mg) : mg "_law_of" = some (.ref (He.fAd K ("_law_of", none))) := let ⟨_, X, G⟩ := T.ex; He.glo_ok X G (T.c.fact 27 (f := .glo "_law_of") rfl)
theorem g__law_pick (T : Txt w K mg) : mg "_law_pick" = some (.ref (He.fAd K ("_law_pick", none))) := let ⟨_, X, G⟩ := T.ex; He.glo_ok X G (T.c.fact 28 (f := .glo "_law_pick") rfl)
theorem g__law_row (T : Txt w K mg) : mg "_law_row" = some (.ref (He.fAd K ("_law_row", none))) := let ⟨_, X, G⟩ := T.ex; He.glo_ok X G (T.c.fact 29 (f := .glo "_law_row") rfl)
theorem g__law_same (T : Txt w K mg) : mg "_law_same" = some (.ref (He.fAd K ("_law_same", none))) := let ⟨_, X, G⟩ := T.ex; He.glo_ok X G (T.c.fact 30 (f := .glo "_law_same") rfl)
theorem g__law_shuffled (T : Txt w K mg) : mg "_law_shuffled" = some (.ref (He.fAd K ("_law_shuffled", none))) := let ⟨_, X, G⟩ := T.ex; He.glo_ok X G (T.c.fact 31 (f := .glo "_law_shuffled") rfl)
theorem g__law_signs (T : Txt w K mg) : mg "_law_signs" = some (.ref (He.fAd K ("_law_signs", none))) := let ⟨_, X, G⟩ := T.ex; He.glo_ok X G (T.c.fact 32 (f := .glo "_law_signs") rfl)
theorem g__law_value (T : Txt w K mg) : mg "_law_value" = some (.ref (He.fAd K ("_law_value", none))) := let ⟨_, X, G⟩ := T.ex; He.glo_ok X G (T.c.fact 33 (f := .glo "_law_value") rfl)
theorem g_is_happening (T : Txt w K mg) : mg "is_happening" = some (.ref (He.fAd K ("is_happening", none))) := let ⟨_, X, G⟩ := T.ex; He.glo_ok X G (T.c.fact 34 (f := .glo "is_happening") rfl)
theorem g_is_letter (T : Txt w K mg) : mg "is_letter" = some (.ref (He.fAd K ("is_letter", none))) := let ⟨_, X, G⟩ := T.ex; He.glo_ok X G (T.c.fact 35 (f := .glo "is_letter") rfl)
theorem g_is_number (T : Txt w K mg) : mg "is_number" = some (.ref (He.fAd K ("is_number", none))) := let ⟨_, X, G⟩ := T.ex; He.glo_ok X G (T.c.fact 36 (f := .glo "is_number") rfl)
theorem g_law (T : Txt w K mg) : mg "law" = some (.ref (He.fAd K ("law", none))) := let ⟨_, X, G⟩ := T.ex; He.glo_ok X G (T.c.fact 37 (f := .glo "law") rfl)
theorem g_need_kinds (T : Txt w K mg) : mg "need_kinds" = some (.ref (He.fAd K ("need_kinds", none))) := let ⟨_, X, G⟩ := T.ex; He.glo_ok X G (T.c.fact 38 (f := .glo "need_kinds") rfl)
theorem g_need_row (T : Txt w K mg) : mg "need_row" = some (.ref (He.fAd K ("need_row", none))) := let ⟨_, X, G⟩ := T.ex; He.glo_ok X G (T.c.fact 39 (f := .glo "need_row") rfl)
theorem g_own_kinds (T : Txt w K mg) : mg "own_kinds" = some (.ref (He.fAd K ("own_kinds", none))) := let ⟨_, X, G⟩ := T.ex; He.glo_ok X G (T.c.fact 40 (f := .glo "own_kinds") rfl)
theorem g_renamed (T : Txt w K mg) : mg "renamed" = some (.ref (He.fAd K ("renamed", none))) := let ⟨_, X, G⟩ := T.ex; He.glo_ok X G (T.c.fact 41 (f := .glo "renamed") rfl)
theorem fr_ValueError (T : Txt w K mg) : mg "ValueError" = none := let ⟨_, X, G⟩ := T.ex; He.free_ok X G (T.c.fact 42 (f := .free "ValueError") rfl)
theorem fr_all (T : Txt w K mg) : mg "all" = none := let ⟨_, X, G⟩ := T.ex; He.free_ok X G (T.c.fact 43 (f := .free "all") rfl)
theorem fr_any (T : Txt w K mg) : mg "any" = none := let ⟨_, X, G⟩ := T.ex; He.free_ok X G (T.c.fact 44 (f := .free "any") rfl)
theorem fr_bool (T : Txt w K mg) : mg "bool" = none := let ⟨_, X, G⟩ := T.ex; He.free_ok X G (T.c.fact 45 (f := .free "bool") rfl)
theorem fr_dict (T : Txt w K mg) : mg "dict" = none := let ⟨_, X, G⟩ := T.ex; He.free_ok X G (T.c.fact 46 (f := .free "dict") rfl)
theorem fr_enumerate (T : Txt w K mg) : mg "enumerate" = none := let ⟨_, X, G⟩ := T.ex; He.free_ok X G (T.c.fact 47 (f := .free "enumerate") rfl)
theorem fr_int (T : Txt w K mg) : mg "int" = none := let ⟨_, X, G⟩ := T.ex; He.free_ok X G (T.c.fact 48 (f := .free "int") rfl)
theorem fr_isinstance (T : Txt w K mg) : mg "isinstance" = none := let ⟨_, X, G⟩ := T.ex; He.free_ok X G (T.c.fact 49 (f := .free "isinstance") rfl)
theorem fr_len (T : Txt w K mg) : mg "len" = none := let ⟨_, X, G⟩ := T.ex; He.free_ok X G (T.c.fact 50 (f := .free "len") rfl)
theorem fr_list (T : Txt w K mg) : mg "list" = none := let ⟨_, X, G⟩ := T.ex; He.free_ok X G (T.c.fact 51 (f := .free "list") rfl)
theorem fr_range (T : Txt w K mg) : mg "range" = none := let ⟨_, X, G⟩ := T.ex; He.free_ok X G (T.c.fact 52 (f := .free "range") rfl)
theorem fr_set (T : Txt w K mg) : mg "set" = none := let ⟨_, X, G⟩ := T.ex; He.free_ok X G (T.c.fact 53 (f := .free "set") rfl)
theorem fr_sorted (T : Txt w K mg) : mg "sorted" = none := let ⟨_, X, G⟩ := T.ex; He.free_ok X G (T.c.fact 54 (f := .free "sorted") rfl)
theorem fr_str (T : Txt w K mg) : mg "str" = none := let ⟨_, X, G⟩ := T.ex; He.free_ok X G (T.c.fact 55 (f := .free "str") rfl)
theorem fr_tuple (T : Txt w K mg) : mg "tuple" = none := let ⟨_, X, G⟩ := T.ex; He.free_ok X G (T.c.fact 56 (f := .free "tuple") rfl)
theorem fr_zip (T : Txt w K mg) : mg "zip" = none := let ⟨_, X, G⟩ := T.ex; He.free_ok X G (T.c.fact 57 (f := .free "zip") rfl)
theorem gv_LETTERS (T : Txt w K mg) : ∃ u, mg "LETTERS" = some u ∧ RelV (V.str "abcdefghijklmnopqrstuvwxyz") u := let ⟨_, X, G⟩ := T.ex; let ⟨t, e⟩ := He.str_ok X G (T.c.fact 58 (f := .str "LETTERS" "abcdefghijklmnopqrstuvwxyz") rfl); ⟨_, e, t, rfl⟩
theorem gv_MOST_KINDS (T : Txt w K mg) : ∃ u, mg "MOST_KINDS" = some u ∧ RelV (V.int 4) u := let ⟨_, X, G⟩ := T.ex; let ⟨t, e⟩ := He.int_ok X G (T.c.fact 59 (f := .int "MOST_KINDS" 4) rfl); ⟨_, e, t, rfl⟩
theorem gv_MOST_ROW (T : Txt w K mg) : ∃ u, mg "MOST_ROW" = some u ∧ RelV (V.int 40) u := let ⟨_, X, G⟩ := T.ex; let ⟨t, e⟩ := He.int_ok X G (T.c.fact 60 (f := .int "MOST_ROW" 40) rfl); ⟨_, e, t, rfl⟩
theorem F_CoteError___init__ (T : Txt w K mg) : FunD K "__init__" "CoteError.__init__" (defArgs s_CoteError___init__) (defBody s_CoteError___init__) (defScope s_CoteError___init__) (d_CoteError___init__.dvs K) [] (He.fAd K ("CoteError", some "__init__")) (fdF K ("CoteError", some "__init__")) := funD_fd (T.c.def_ 0 (d := d_CoteError___init__) rfl)
theorem kp_CoteError___init__ (T : Txt w K mg) : PySem.W.keepIn K (.ref (He.fAd K ("CoteError", some "__init__"))) = true := (F_CoteError___init__ T).kp
theorem sc_CoteError___init__ : FnScope ["self", "called"] ["self", "called"] (defScope s_CoteError___init__) := ⟨rfl, rfl, rfl, by decide +kernel, rfl, by decide +kernel, by decide +kernel⟩
theorem b_CoteError___init___1 (T : Txt w K mg) : ∃ ds, Vals [V.str "CoteError"] ds ∧ Binds K (fdF K ("CoteError", some "__init__")) ["self", "called"] ds := FunD.binds1 (F_CoteError___init__ T) 1 0 (by simp [d_CoteError___init__, He.DefD.dvs]) rfl fun _ _ _ _ _ _ _ us its h1 h2 => match us, its, h1, h2 with | [_], [_], _, _ => ⟨_, rfl, rfl⟩
theorem b_CoteError___init__ (T : Txt w K mg) : Binds K (fdF K ("CoteError", some "__init__")) ["self", "called"] [] := funD_bindsD (F_CoteError___init__ T) (by simp [d_CoteError___init__, He.DefD.dvs]) fun _ _ _ _ _ _ _ us hl => match us, hl with | [_, _], _ => ⟨_, rfl, fun its hl => match its, hl with | [_], _ => rfl⟩
theorem F_BadNumber___init__ (T : Txt w K mg) : FunD K "__init__" "BadNumber.__init__" (defArgs s_BadNumber___init__) (defBody s_BadNumber___init__) (defScope s_BadNumber___init__) (d_BadNumber___init__.dvs K) [] (He.fAd K ("BadNumber", some "__init__")) (fdF K ("BadNumber", some "__init__")) := funD_fd (T.c.def_ 1 (d := d_BadNumber___init__) rfl)
theorem kp_BadNumber___init__ (T : Txt w K mg) : PySem.W.keepIn K (.ref (He.fAd K ("BadNumber", some "__init__"))) = true := (F_BadNumber___init__ T).kp
theorem sc_BadNumber___init__ : FnScope ["self", "number"] ["self", "number"] (defScope s_BadNumber___init__) := ⟨rfl, rfl, rfl, by decide +kernel, rfl, by decide +kernel, by decide +kernel⟩
theorem b_BadNumber___init__ (T : Txt w K mg) : Binds K (fdF K ("BadNumber", some "__init__")) ["self", "number"] [] := FunD.bindsN (F_BadNumber___init__ T) fun _ _ _ _ _ _ us hl => match us, hl with | [_, _], _ => rfl
theorem F_BadKinds___init__ (T : Txt w K mg) : FunD K "__init__" "BadKinds.__init__" (defArgs s_BadKinds___init__) (defBody s_BadKinds___init__) (defScope s_BadKinds___init__) (d_BadKinds___init__.dvs K) [] (He.fAd K ("BadKinds", some "__init__")) (fdF K ("BadKinds", some "__init__")) := funD_fd (T.c.def_ 2 (d := d_BadKinds___init__) rfl)
theorem kp_BadKinds___init__ (T : Txt w K mg) : PySem.W.keepIn K (.ref (He.fAd K ("BadKinds", some "__init__"))) = true := (F_BadKinds___init__ T).kp
theorem sc_BadKinds___init__ : FnScope ["self", "text"] ["self", "text"] (defScope s_BadKinds___init__) := ⟨rfl, rfl, rfl, by decide +kernel, rfl, by decide +kernel, by decide +kernel⟩
theorem b_BadKinds___init__ (T : Txt w K mg) : Binds K (fdF K ("BadKinds", some "__init__")) ["self", "text"] [] := FunD.bindsN (F_BadKinds___init__ T) fun _ _ _ _ _ _ us hl => match us, hl with | [_, _], _ => rfl
theorem F_TooLong___init__ (T : Txt w K mg) : FunD K "__init__" "TooLong.__init__" (defArgs s_TooLong___init__) (defBody s_TooLong___init__) (defScope s_TooLong___init__) (d_TooLong___init__.dvs K) [] (He.fAd K ("TooLong", some "__init__")) (fdF K ("TooLong", some "__init__")) := funD_fd (T.c.def_ 3 (d := d_TooLong___init__) rfl)
theorem kp_TooLong___init__ (T : Txt w K mg) : PySem.W.keepIn K (.ref (He.fAd K ("TooLong", some "__init__"))) = true := (F_TooLong___init__ T).kp
theorem sc_TooLong___init__ : FnScope ["self", "most"] ["self", "most"] (defScope s_TooLong___init__) := ⟨rfl, rfl, rfl, by decide +kernel, rfl, by decide +kernel, by decide +kernel⟩
theorem b_TooLong___init__ (T : Txt w K mg) : Binds K (fdF K ("TooLong", some "__init__")) ["self", "most"] [] := FunD.bindsN (F_TooLong___init__ T) fun _ _ _ _ _ _ us hl => match us, hl with | [_, _], _ => rfl
theorem F_BadRow___init__ (T : Txt w K mg) : FunD K "__init__" "BadRow.__init__" (defArgs s_BadRow___init__) (defBody s_BadRow___init__) (defScope s_BadRow___init__) (d_BadRow___init__.dvs K) [] (He.fAd K ("BadRow", some "__init__")) (fdF K ("BadRow", some "__init__")) := funD_fd (T.c.def_ 4 (d := d_BadRow___init__) rfl)
theorem kp_BadRow___init__ (T : Txt w K mg) : PySem.W.keepIn K (.ref (He.fAd K ("BadRow", some "__init__"))) = true := (F_BadRow___init__ T).kp
theorem sc_BadRow___init__ : FnScope ["self", "at"] ["self", "at"] (defScope s_BadRow___init__) := ⟨rfl, rfl, rfl, by decide +kernel, rfl, by decide +kernel, by decide +kernel⟩
theorem b_BadRow___init__ (T : Txt w K mg) : Binds K (fdF K ("BadRow", some "__init__")) ["self", "at"] [] := FunD.bindsN (F_BadRow___init__ T) fun _ _ _ _ _ _ us hl => match us, hl with | [_, _], _ => rfl
theorem F_is_number (T : Txt w K mg) : FunD K "is_number" "is_number" (defArgs s_is_number) (defBody s_is_number) (defScope s_is_number) (d_is_number.dvs K) [] (He.fAd K ("is_number", none)) (fdF K ("is_number", none)) := funD_fd (T.c.def_ 5 (d := d_is_number) rfl)
theorem kp_is_number (T : Txt w K mg) : PySem.W.keepIn K (.ref (He.fAd K ("is_number", none))) = true := (F_is_number T).kp
theorem sc_is_number : FnScope ["thing"] ["thing"] (defScope s_is_number) := ⟨rfl, rfl, rfl, by decide +kernel, rfl, by decide +kernel, by decide +kernel⟩
theorem b_is_number (T : Txt w K mg) : Binds K (fdF K ("is_number", none)) ["thing"] [] := FunD.bindsN (F_is_number T) fun _ _ _ _ _ _ us hl => match us, hl with | [_], _ => rfl
theorem F_is_letter (T : Txt w K mg) : FunD K "is_letter" "is_letter" (defArgs s_is_letter) (defBody s_is_letter) (defScope s_is_letter) (d_is_letter.dvs K) [] (He.fAd K ("is_letter", none)) (fdF K ("is_letter", none)) := funD_fd (T.c.def_ 6 (d := d_is_letter) rfl)
theorem kp_is_letter (T : Txt w K mg) : PySem.W.keepIn K (.ref (He.fAd K ("is_letter", none))) = true := (F_is_letter T).kp
theorem sc_is_letter : FnScope ["thing", "some"] ["thing", "some"] (defScope s_is_letter) := ⟨rfl, rfl, rfl, by decide +kernel, rfl, by decide +kernel, by decide +kernel⟩
theorem b_is_letter_1 (T : Txt w K mg) : ∃ ds, Vals [V.str "abcdefghijklmnopqrstuvwxyz"] ds ∧ Binds K (fdF K ("is_letter", none)) ["thing", "some"] ds := FunD.binds1 (F_is_letter T) 1 0 (by simp [d_is_letter, He.DefD.dvs]) rfl fun _ _ _ _ _ _ _ us its h1 h2 => match us, its, h1, h2 with | [_], [_], _, _ => ⟨_, rfl, rfl⟩
theorem b_is_letter (T : Txt w K mg) : Binds K (fdF K ("is_letter", none)) ["thing", "some"] [] := funD_bindsD (F_is_letter T) (by simp [d_is_letter, He.DefD.dvs]) fun _ _ _ _ _ _ _ us hl => match us, hl with | [_, _], _ => ⟨_, rfl, fun its hl => match its, hl with | [_], _ => rfl⟩
theorem F_need_kinds (T : Txt w K mg) : FunD K "need_kinds" "need_kinds" (defArgs s_need_kinds) (defBody s_need_kinds) (defScope s_need_kinds) (d_need_kinds.dvs K) [] (He.fAd K ("need_kinds", none)) (fdF K ("need_kinds", none)) := funD_fd (T.c.def_ 7 (d := d_need_kinds) rfl)
theorem kp_need_kinds (T : Txt w K mg) : PySem.W.keepIn K (.ref (He.fAd K ("need_kinds", none))) = true := (F_need_kinds T).kp
theorem sc_need_kinds : FnScope ["kinds", "one", "other", "sign"] ["kinds"] (defScope s_need_kinds) := ⟨rfl, rfl, rfl, by decide +kernel, rfl, by decide +kernel, by decide +kernel⟩
theorem b_need_kinds (T : Txt w K mg) : Binds K (fdF K ("need_kinds", none)) ["kinds"] [] := FunD.bindsN (F_need_kinds T) fun _ _ _ _ _ _ us hl => match us, hl with | [_], _ => rfl
theorem F_is_happening (T : Txt w K mg) : FunD K "is_happening" "is_happening" (defArgs s_is_happening) (defBody s_is_happening) (defScope s_is_happening) (d_is_happening.dvs K) [] (He.fAd K ("is_happening", none)) (fdF K ("is_happening", none)) := funD_fd (T.c.def_ 8 (d := d_is_happening) rfl)
theorem kp_is_happening (T : Txt w K mg) : PySem.W.keepIn K (.ref (He.fAd K ("is_happening", none))) = true := (F_is_happening T).kp
theorem sc_is_happening : FnScope ["kinds", "thing"] ["kinds", "thing"] (defScope s_is_happening) := ⟨rfl, rfl, rfl, by decide +kernel, rfl, by decide +kernel, by decide +kernel⟩
theorem b_is_happening (T : Txt w K mg) : Binds K (fdF K ("is_happening", none)) ["kinds", "thing"] [] := FunD.bindsN (F_is_happening T) fun _ _ _ _ _ _ us hl => match us, hl with | [_, _], _ => rfl
theorem F_need_row (T : Txt w K mg) : FunD K "need_row" "need_row" (defArgs s_need_row) (defBody s_need_row) (defScope s_need_row) (d_need_row.dvs K) [] (He.fAd K ("need_row", none)) (fdF K ("need_row", none)) := funD_fd (T.c.def_ 9 (d := d_need_row) rfl)
theorem kp_need_row (T : Txt w K mg) : PySem.W.keepIn K (.ref (He.fAd K ("need_row", none))) = true := (F_need_row T).kp
theorem sc_need_row : FnScope ["kinds", "row", "at", "thing"] ["kinds", "row"] (defScope s_need_row) := ⟨rfl, rfl, rfl, by decide +kernel, rfl, by decide +kernel, by decide +kernel⟩
theorem b_need_row (T : Txt w K mg) : Binds K (fdF K ("need_row", none)) ["kinds", "row"] [] := FunD.bindsN (F_need_row T) fun _ _ _ _ _ _ us hl => match us, hl with | [_, _], _ => rfl
theorem F_renamed (T : Txt w K mg) : FunD K "renamed" "renamed" (defArgs s_renamed) (defBody s_renamed) (defScope s_renamed) (d_renamed.dvs K) [] (He.fAd K ("renamed", none)) (fdF K ("renamed", none)) := funD_fd (T.c.def_ 10 (d := d_renamed) rfl)
theorem kp_renamed (T : Txt w K mg) : PySem.W.keepIn K (.ref (He.fAd K ("renamed", none))) = true := (F_renamed T).kp
theorem sc_renamed : FnScope ["kinds", "row", "by", "seen", "name", "kind"] ["kinds", "row", "by"] (defScope s_renamed) := ⟨rfl, rfl, rfl, by decide +kernel, rfl, by decide +kernel, by decide +kernel⟩
theorem b_renamed (T : Txt w K mg) : Binds K (fdF K ("renamed", none)) ["kinds", "row", "by"] [] := FunD.bindsN (F_renamed T) fun _ _ _ _ _ _ us hl => match us, hl with | [_, _, _], _ => rfl
theorem F_own_kinds (T : Txt w K mg) : FunD K "own_kinds" "own_kinds" (defArgs s_own_kinds) (defBody s_own_kinds) (defScope s_own_kinds) (d_own_kinds.dvs K) [] (He.fAd K ("own_kinds", none)) (fdF K ("own_kinds", none)) := funD_fd (T.c.def_ 11 (d := d_own_kinds) rfl)
theorem kp_own_kinds (T : Txt w K mg) : PySem.W.keepIn K (.ref (He.fAd K ("own_kinds", none))) = true := (F_own_kinds T).kp
theorem sc_own_kinds : FnScope ["kinds", "row", "name", "kind", "other"] ["kinds", "row", "name"] (defScope s_own_kinds) := ⟨rfl, rfl, rfl, by decide +kernel, rfl, by decide +kernel, by decide +kernel⟩
theorem b_own_kinds (T : Txt w K mg) : Binds K (fdF K ("own_kinds", none)) ["kinds", "row", "name"] [] := FunD.bindsN (F_own_kinds T) fun _ _ _ _ _ _ us hl => match us, hl with | [_, _, _], _ => rfl
theorem F__law_bag (T : Txt w K mg) : FunD K "_law_bag" "_law_bag" (defArgs s__law_bag) (defBody s__law_bag) (defScope s__law_bag) (d__law_bag.dvs K) [] (He.fAd K ("_law_bag", none)) (fdF K ("_law_bag", none)) := funD_fd (T.c.def_ 12 (d := d__law_bag) rfl)
theorem kp__law_bag (T : Txt w K mg) : PySem.W.keepIn K (.ref (He.fAd K ("_law_bag", none))) = true := (F__law_bag T).kp
theorem sc__law_bag : FnScope ["_law_script"] ["_law_script"] (defScope s__law_bag) := ⟨rfl, rfl, rfl, by decide +kernel, rfl, by decide +kernel, by decide +kernel⟩
theorem b__law_bag (T : Txt w K mg) : Binds K (fdF K ("_law_bag", none)) ["_law_script"] [] := FunD.bindsN (F__law_bag T) fun _ _ _ _ _ _ us hl => match us, hl with | [_], _ => rfl
theorem F__law_pick (T : Txt w K mg) : FunD K "_law_pick" "_law_pick" (defArgs s__law_pick) (defBody s__law_pick) (defScope s__law_pick) (d__law_pick.dvs K) [] (He.fAd K ("_law_pick", none)) (fdF K ("_law_pick", none)) := funD_fd (T.c.def_ 13 (d := d__law_pick) rfl)
theorem kp__law_pick (T : Txt w K mg) : PySem.W.keepIn K (.ref (He.fAd K ("_law_pick", none))) = true := (F__law_pick T).kp
theorem sc__law_pick : FnScope ["_law_bag_here", "_law_top", "_law_cell", "_law_digit"] ["_law_bag_here", "_law_top"] (defScope s__law_pick) := ⟨rfl, rfl, rfl, by decide +kernel, rfl, by decide +kernel, by decide +kernel⟩
theorem b__law_pick (T : Txt w K mg) : Binds K (fdF K ("_law_pick", none)) ["_law_bag_here", "_law_top"] [] := FunD.bindsN (F__law_pick T) fun _ _ _ _ _ _ us hl => match us, hl with | [_, _], _ => rfl
theorem F__law_of (T : Txt w K mg) : FunD K "_law_of" "_law_of" (defArgs s__law_of) (defBody s__law_of) (defScope s__law_of) (d__law_of.dvs K) [] (He.fAd K ("_law_of", none)) (fdF K ("_law_of", none)) := funD_fd (T.c.def_ 14 (d := d__law_of) rfl)
theorem kp__law_of (T : Txt w K mg) : PySem.W.keepIn K (.ref (He.fAd K ("_law_of", none))) = true := (F__law_of T).kp
theorem sc__law_of : FnScope ["_law_bag_here", "_law_some"] ["_law_bag_here", "_law_some"] (defScope s__law_of) := ⟨rfl, rfl, rfl, by decide +kernel, rfl, by decide +kernel, by decide +kernel⟩
theorem b__law_of (T : Txt w K mg) : Binds K (fdF K ("_law_of", none)) ["_law_bag_here", "_law_some"] [] := FunD.bindsN (F__law_of T) fun _ _ _ _ _ _ us hl => match us, hl with | [_, _], _ => rfl
theorem F__law_shuffled (T : Txt w K mg) : FunD K "_law_shuffled" "_law_shuffled" (defArgs s__law_shuffled) (defBody s__law_shuffled) (defScope s__law_shuffled) (d__law_shuffled.dvs K) [] (He.fAd K ("_law_shuffled", none)) (fdF K ("_law_shuffled", none)) := funD_fd (T.c.def_ 15 (d := d__law_shuffled) rfl)
theorem kp__law_shuffled (T : Txt w K mg) : PySem.W.keepIn K (.ref (He.fAd K ("_law_shuffled", none))) = true := (F__law_shuffled T).kp
theorem sc__law_shuffled : FnScope ["_law_bag_here", "_law_some", "_law_left", "_law_found", "_law_step"] ["_law_bag_here", "_law_some"] (defScope s__law_shuffled) := ⟨rfl, rfl, rfl, by decide +kernel, rfl, by decide +kernel, by decide +kernel⟩
theorem b__law_shuffled (T : Txt w K mg) : Binds K (fdF K ("_law_shuffled", none)) ["_law_bag_here", "_law_some"] [] := FunD.bindsN (F__law_shuffled T) fun _ _ _ _ _ _ us hl => match us, hl with | [_, _], _ => rfl
theorem F__law_same (T : Txt w K mg) : FunD K "_law_same" "_law_same" (defArgs s__law_same) (defBody s__law_same) (defScope s__law_same) (d__law_same.dvs K) [] (He.fAd K ("_law_same", none)) (fdF K ("_law_same", none)) := funD_fd (T.c.def_ 16 (d := d__law_same) rfl)
theorem kp__law_same (T : Txt w K mg) : PySem.W.keepIn K (.ref (He.fAd K ("_law_same", none))) = true := (F__law_same T).kp
theorem sc__law_same : FnScope ["_law_found", "_law_due", "_law_spot"] ["_law_found", "_law_due"] (defScope s__law_same) := ⟨rfl, rfl, rfl, by decide +kernel, rfl, by decide +kernel, by decide +kernel⟩
theorem b__law_same (T : Txt w K mg) : Binds K (fdF K ("_law_same", none)) ["_law_found", "_law_due"] [] := FunD.bindsN (F__law_same T) fun _ _ _ _ _ _ us hl => match us, hl with | [_, _], _ => rfl
theorem F__law_value (T : Txt w K mg) : FunD K "_law_value" "_law_value" (defArgs s__law_value) (defBody s__law_value) (defScope s__law_value) (d__law_value.dvs K) [] (He.fAd K ("_law_value", none)) (fdF K ("_law_value", none)) := funD_fd (T.c.def_ 17 (d := d__law_value) rfl)
theorem kp__law_value (T : Txt w K mg) : PySem.W.keepIn K (.ref (He.fAd K ("_law_value", none))) = true := (F__law_value T).kp
theorem sc__law_value : FnScope ["_law_ask", "_law_found", "e"] ["_law_ask"] (defScope s__law_value) := ⟨rfl, rfl, rfl, by decide +kernel, rfl, by decide +kernel, by decide +kernel⟩
theorem b__law_value (T : Txt w K mg) : Binds K (fdF K ("_law_value", none)) ["_law_ask"] [] := FunD.bindsN (F__law_value T) fun _ _ _ _ _ _ us hl => match us, hl with | [_], _ => rfl
theorem F__law_signs (T : Txt w K mg) : FunD K "_law_signs" "_law_signs" (defArgs s__law_signs) (defBody s__law_signs) (defScope s__law_signs) (d__law_signs.dvs K) [] (He.fAd K ("_law_signs", none)) (fdF K ("_law_signs", none)) := funD_fd (T.c.def_ 18 (d := d__law_signs) rfl)
theorem kp__law_signs (T : Txt w K mg) : PySem.W.keepIn K (.ref (He.fAd K ("_law_signs", none))) = true := (F__law_signs T).kp
theorem sc__law_signs : FnScope ["_law_bag_here", "_law_cap", "_law_left"] ["_law_bag_here", "_law_cap"] (defScope s__law_signs) := ⟨rfl, rfl, rfl, by decide +kernel, rfl, by decide +kernel, by decide +kernel⟩
theorem b__law_signs (T : Txt w K mg) : Binds K (fdF K ("_law_signs", none)) ["_law_bag_here", "_law_cap"] [] := FunD.bindsN (F__law_signs T) fun _ _ _ _ _ _ us hl => match us, hl with | [_, _], _ => rfl
theorem F__law_names (T : Txt w K mg) : FunD K "_law_names" "_law_names" (defArgs s__law_names) (defBody s__law_names) (defScope s__law_names) (d__law_names.dvs K) [] (He.fAd K ("_law_names", none)) (fdF K ("_law_names", none)) := funD_fd (T.c.def_ 19 (d := d__law_names) rfl)
theorem kp__law_names (T : Txt w K mg) : PySem.W.keepIn K (.ref (He.fAd K ("_law_names", none))) = true := (F__law_names T).kp
theorem sc__law_names : FnScope ["_law_bag_here", "_law_many", "_law_base", "_law_step", "_law_k"] ["_law_bag_here", "_law_many"] (defScope s__law_names) := ⟨rfl, rfl, rfl, by decide +kernel, rfl, by decide +kernel, by decide +kernel⟩
theorem b__law_names (T : Txt w K mg) : Binds K (fdF K ("_law_names", none)) ["_law_bag_here", "_law_many"] [] := FunD.bindsN (F__law_names T) fun _ _ _ _ _ _ us hl => match us, hl with | [_, _], _ => rfl
theorem F__law_row (T : Txt w K mg) : FunD K "_law_row" "_law_row" (defArgs s__law_row) (defBody s__law_row) (defScope s__law_row) (d__law_row.dvs K) [] (He.fAd K ("_law_row", none)) (fdF K ("_law_row", none)) := funD_fd (T.c.def_ 20 (d := d__law_row) rfl)
theorem kp__law_row (T : Txt w K mg) : PySem.W.keepIn K (.ref (He.fAd K ("_law_row", none))) = true := (F__law_row T).kp
theorem sc__law_row : FnScope ["_law_bag_here", "_law_kinds", "_law_cap", "_law_pool", "_law_k"] ["_law_bag_here", "_law_kinds", "_law_cap"] (defScope s__law_row) := ⟨rfl, rfl, rfl, by decide +kernel, rfl, by decide +kernel, by decide +kernel⟩
theorem b__law_row (T : Txt w K mg) : Binds K (fdF K ("_law_row", none)) ["_law_bag_here", "_law_kinds", "_law_cap"] [] := FunD.bindsN (F__law_row T) fun _ _ _ _ _ _ us hl => match us, hl with | [_, _, _], _ => rfl
theorem F_law (T : Txt w K mg) : FunD K "law" "law" (defArgs s_law) (defBody s_law) (defScope s_law) (d_law.dvs K) [] (He.fAd K ("law", none)) (fdF K ("law", none)) := funD_fd (T.c.def_ 21 (d := d_law) rfl)
theorem kp_law (T : Txt w K mg) : PySem.W.keepIn K (.ref (He.fAd K ("law", none))) = true := (F_law T).kp
theorem sc_law : FnScope ["_law_script", "_law_bag_here", "_law_turn", "_law_kinds", "_law_row_here", "_law_names_here", "_law_goals", "_law_by", "_law_name", "_law_handed", "_law_told", "_law_images", "_law_bad", "_law_due", "_law_found", "_law_at", "_law_kind", "_law_own"] ["_law_script"] (defScope s_law) := ⟨rfl, rfl, rfl, by decide +kernel, rfl, by decide +kernel, by decide +kernel⟩
theorem b_law (T : Txt w K mg) : Binds K (fdF K ("law", none)) ["_law_script"] [] := FunD.bindsN (F_law T) fun _ _ _ _ _ _ us hl => match us, hl with | [_], _ => rfl
theorem oex_CoteError (T : Txt w K mg) : OexC K (He.ga K "CoteError") := oexB_ok (allB_at (i := 0) T.x rfl)
theorem cr_CoteError (T : Txt w K mg) : ClX.CRead K (He.ga K "CoteError") (.type "type") ∧ ClX.CVal K (He.ga K "CoteError") (.type "type") "__init__" (.ref (He.fAd K ("CoteError", some "__init__"))) (.ref (He.fAd K ("CoteError", some "__init__"))) := creadB_ok (allB_at (i := 1) T.x rfl)
theorem oex_BadNumber (T : Txt w K mg) : OexC K (He.ga K "BadNumber") := oexB_ok (allB_at (i := 2) T.x rfl)
theorem oex_BadKinds (T : Txt w K mg) : OexC K (He.ga K "BadKinds") := oexB_ok (allB_at (i := 3) T.x rfl)
theorem oex_TooLong (T : Txt w K mg) : OexC K (He.ga K "TooLong") := oexB_ok (allB_at (i := 4) T.x rfl)
theorem oex_BadRow (T : Txt w K mg) : OexC K (He.ga K "BadRow") := oexB_ok (allB_at (i := 5) T.x rfl)
theorem clsV (T : Txt w K mg) : clsB K RCs csV = true := allB_at (i := 6) T.x rfl
theorem rcs (T : Txt w K mg) : ∀ c ∈ RCs, mg c = some (.ref (He.ga K c)) := List.forall_mem_cons.mpr ⟨g_BadNumber T, List.forall_mem_cons.mpr ⟨g_BadKinds T, List.forall_mem_cons.mpr ⟨g_TooLong T, List.forall_mem_cons.mpr ⟨g_BadRow T, List.forall_mem_nil _⟩⟩⟩⟩
theorem xfsV (T : Txt w K mg) : xfsB K csV = true := allB_at (i := 7) T.x rfl
theorem lamk (T : Txt w K mg) : lamOkB K ("law", none) "law" = true := allB_at (i := 8) T.x rfl
theorem na_CoteError_called (T : Txt w K mg) : fldOk K (He.ga K "CoteError") "called" := He.noat_ok (T.c.fact 61 (f := .noat "CoteError" "called") rfl)
theorem mi_CoteError (T : Txt w K mg) : Meth K (He.ga K "CoteError") "__init__" (He.fAd K ("CoteError", some "__init__")) := He.meth_ok (T.c.fact 62 (f := .meth "CoteError" "__init__") rfl)
theorem na_BadNumber_called (T : Txt w K mg) : fldOk K (He.ga K "BadNumber") "called" := He.noat_ok (T.c.fact 63 (f := .noat "BadNumber" "called") rfl)
theorem na_BadNumber_number (T : Txt w K mg) : fldOk K (He.ga K "BadNumber") "number" := He.noat_ok (T.c.fact 64 (f := .noat "BadNumber" "number") rfl)
theorem mi_BadNumber (T : Txt w K mg) : Meth K (He.ga K "BadNumber") "__init__" (He.fAd K ("BadNumber", some "__init__")) := He.meth_ok (T.c.fact 65 (f := .meth "BadNumber" "__init__") rfl)
theorem na_BadKinds_called (T : Txt w K mg) : fldOk K (He.ga K "BadKinds") "called" := He.noat_ok (T.c.fact 66 (f := .noat "BadKinds" "called") rfl)
theorem na_BadKinds_text (T : Txt w K mg) : fldOk K (He.ga K "BadKinds") "text" := He.noat_ok (T.c.fact 67 (f := .noat "BadKinds" "text") rfl)
theorem mi_BadKinds (T : Txt w K mg) : Meth K (He.ga K "BadKinds") "__init__" (He.fAd K ("BadKinds", some "__init__")) := He.meth_ok (T.c.fact 68 (f := .meth "BadKinds" "__init__") rfl)
theorem na_TooLong_called (T : Txt w K mg) : fldOk K (He.ga K "TooLong") "called" := He.noat_ok (T.c.fact 69 (f := .noat "TooLong" "called") rfl)
theorem na_TooLong_most (T : Txt w K mg) : fldOk K (He.ga K "TooLong") "most" := He.noat_ok (T.c.fact 70 (f := .noat "TooLong" "most") rfl)
theorem mi_TooLong (T : Txt w K mg) : Meth K (He.ga K "TooLong") "__init__" (He.fAd K ("TooLong", some "__init__")) := He.meth_ok (T.c.fact 71 (f := .meth "TooLong" "__init__") rfl)
theorem na_BadRow_called (T : Txt w K mg) : fldOk K (He.ga K "BadRow") "called" := He.noat_ok (T.c.fact 72 (f := .noat "BadRow" "called") rfl)
theorem na_BadRow_at (T : Txt w K mg) : fldOk K (He.ga K "BadRow") "at" := He.noat_ok (T.c.fact 73 (f := .noat "BadRow" "at") rfl)
theorem mi_BadRow (T : Txt w K mg) : Meth K (He.ga K "BadRow") "__init__" (He.fAd K ("BadRow", some "__init__")) := He.meth_ok (T.c.fact 74 (f := .meth "BadRow" "__init__") rfl)
/-! ### CoteError.__init__ -/
theorem ok_CoteError___init__ (T : Txt w K mg) : FnOk P w K mg base (L2.CX P w) 1 (He.fAd K ("CoteError", some "__init__")) (fdF K ("CoteError", some "__init__")) ["self", "called"] (sp_init0 K) := by
  refine (F_CoteError___init__ T).ok (k := 0) sc_CoteError___init__ (fun vs H Q E h => by obtain ⟨_, _, _, rfl, _⟩ := h; rfl) (fun cdv A outer s H vs Q E hr h => ?_)
  refine ⟨_, pss_cons (ps_expr (pe_veinit (by rfl) (fr_ValueError T) (by rfl) (pa_cons (pv 0) (pa_cons (pv 1) pa_nil)))) (pss_one (ps_ost (pv 0) (pv 1))), ?_⟩
  exact rd_init0 rfl h
/-! ### BadNumber.__init__ -/
theorem ok_BadNumber___init__ (T : Txt w K mg) : FnOk P w K mg base (L2.CX P w) 2 (He.fAd K ("BadNumber", some "__init__")) (fdF K ("BadNumber", some "__init__")) ["self", "number"] (sp_init1 "BadNumber" "number" K) := by
  refine (F_BadNumber___init__ T).ok (k := 1) sc_BadNumber___init__ (fun vs H Q E h => by obtain ⟨_, _, _, rfl, _⟩ := h; rfl) (fun cdv A outer s H vs Q E hr h => ?_)
  refine ⟨_, pss_cons (ps_expr (pe_cfn (pe_gdef (g_CoteError T) rfl) (cr_CoteError T).1 (cr_CoteError T).2 (ok_CoteError___init__ T) (hr.mono (by first | decide | omega)) (mi_CoteError T).kp (b_CoteError___init__ T) .nil (passes_call (takes_of rfl rfl rfl rfl) (fun _ _ _ _ h => h)) (pa_cons (pv 0) (pa_cons pe_str pa_nil)))) (pss_one (ps_ost (pv 0) (pv 1))), ?_⟩
  exact rd_init1 h
/-! ### BadKinds.__init__ -/
theorem ok_BadKinds___init__ (T : Txt w K mg) : FnOk P w K mg base (L2.CX P w) 2 (He.fAd K ("BadKinds", some "__init__")) (fdF K ("BadKinds", some "__init__")) ["self", "text"] (sp_init1 "BadKinds" "text" K) := by
  refine (F_BadKinds___init__ T).ok (k := 1) sc_BadKinds___init__ (fun vs H Q E h => by obtain ⟨_, _, _, rfl, _⟩ := h; rfl) (fun cdv A outer s H vs Q E hr h => ?_)
  refine ⟨_, pss_cons (ps_expr (pe_cfn (pe_gdef (g_CoteError T) rfl) (cr_CoteError T).1 (cr_CoteError T).2 (ok_CoteError___init__ T) (hr.mono (by first | decide | omega)) (mi_CoteError T).kp (b_CoteError___init__ T) .nil (passes_call (takes_of rfl rfl rfl rfl) (fun _ _ _ _ h => h)) (pa_cons (pv 0) (pa_cons pe_str pa_nil)))) (pss_one (ps_ost (pv 0) (pv 1))), ?_⟩
  exact rd_init1 h
/-! ### TooLong.__init__ -/
theorem ok_TooLong___init__ (T : Txt w K mg) : FnOk P w K mg base (L2.CX P w) 2 (He.fAd K ("TooLong", some "__init__")) (fdF K ("TooLong", some "__init__")) ["self", "most"] (sp_init1 "TooLong" "most" K) := by
  refine (F_TooLong___init__ T).ok (k := 1) sc_TooLong___init__ (fun vs H Q E h => by obtain ⟨_, _, _, rfl, _⟩ := h; rfl) (fun cdv A outer s H vs Q E hr h => ?_)
  refine ⟨_, pss_cons (ps_expr (pe_cfn (pe_gdef (g_CoteError T) rfl) (cr_CoteError T).1 (cr_CoteError T).2 (ok_CoteError___init__ T) (hr.mono (by first | decide | omega)) (mi_CoteError T).kp (b_CoteError___init__ T) .nil (passes_call (takes_of rfl rfl rfl rfl) (fun _ _ _ _ h => h)) (pa_cons (pv 0) (pa_cons pe_str pa_nil)))) (pss_one (ps_ost (pv 0) (pv 1))), ?_⟩
  exact rd_init1 h
/-! ### BadRow.__init__ -/
theorem ok_BadRow___init__ (T : Txt w K mg) : FnOk P w K mg base (L2.CX P w) 2 (He.fAd K ("BadRow", some "__init__")) (fdF K ("BadRow", some "__init__")) ["self", "at"] (sp_init1 "BadRow" "at" K) := by
  refine (F_BadRow___init__ T).ok (k := 1) sc_BadRow___init__ (fun vs H Q E h => by obtain ⟨_, _, _, rfl, _⟩ := h; rfl) (fun cdv A outer s H vs Q E hr h => ?_)
  refine ⟨_, pss_cons (ps_expr (pe_cfn (pe_gdef (g_CoteError T) rfl) (cr_CoteError T).1 (cr_CoteError T).2 (ok_CoteError___init__ T) (hr.mono (by first | decide | omega)) (mi_CoteError T).kp (b_CoteError___init__ T) .nil (passes_call (takes_of rfl rfl rfl rfl) (fun _ _ _ _ h => h)) (pa_cons (pv 0) (pa_cons pe_str pa_nil)))) (pss_one (ps_ost (pv 0) (pv 1))), ?_⟩
  exact rd_init1 h
theorem gl__law_value (T : Txt w K mg) {A : Around} {st : List PySem.Env} {cdg : Value} {qn : Str} : GivesL P w K mg base A st ["_law_ask", "_law_found", "e"] "_law_value" (defScope s__law_value) (He.fAd K ("_law_value", none)) cdg (defBody s__law_value) "_law_ask" qn (TTval K (csV.map (ckOf K))) := by
  intro f c' lam s H Q tl act hf hc ht
  refine ⟨_, pss_cons (ps_set (i := 1) sc__law_value.nd rfl (by first | exact Or.inl rfl | exact Or.inr rfl) pe_non) (pss_cons (ps_try_gen (l := (csV.map (ckOf K)).map clVal) rfl rfl sc__law_value.nd takes_no (fun W pn xe tk po => val_tryB act rfl tk) (.cons (c := clVal (ckOf K ⟨["BadKinds"], ["BadKinds"], some "text"⟩)) (.one ⟨rfl, by decide, .inl (g_BadKinds T)⟩) (.yes (i := 2) rfl rfl) (fun a oe cls d pn hz hf => pss_one (ps_set (i := 1) sc__law_value.nd rfl (by first | exact Or.inl rfl | exact Or.inr rfl) (pe_tupF (pa_cons (pe_xfL (xfs_called (xfsV T) (i := 0) rfl) hz hf (pv 2)) (pa_cons (pe_xfL (xfs_f (xfsV T) (i := 0) rfl rfl) hz hf (pv 2)) pa_nil)))))
    (.cons (c := clVal (ckOf K ⟨["BadKind"], [], some "kind"⟩)) (.one ⟨rfl, by decide, .inl (g_BadKind T)⟩) (.yes (i := 2) rfl rfl) (fun a oe cls d pn hz hf => pss_one (ps_set (i := 1) sc__law_value.nd rfl (by first | exact Or.inl rfl | exact Or.inr rfl) (pe_tupF (pa_cons (pe_xfL (xfs_called (xfsV T) (i := 1) rfl) hz hf (pv 2)) (pa_cons (pe_xfL (xfs_f (xfsV T) (i := 1) rfl rfl) hz hf (pv 2)) pa_nil)))))
    (.cons (c := clVal (ckOf K ⟨["BadRow", "BadText", "BadMachine", "NoStand", "NoPlace"], ["BadRow"], some "at"⟩)) (.tup (.cons ⟨rfl, by decide, .inl (g_BadRow T)⟩ (.cons ⟨rfl, by decide, .inl (g_BadText T)⟩ (.cons ⟨rfl, by decide, .inl (g_BadMachine T)⟩ (.cons ⟨rfl, by decide, .inl (g_NoStand T)⟩ (.cons ⟨rfl, by decide, .inl (g_NoPlace T)⟩ .nil))))) (show (5 : Nat) ≤ sizeLine by decide +kernel)) (.yes (i := 2) rfl rfl) (fun a oe cls d pn hz hf => pss_one (ps_set (i := 1) sc__law_value.nd rfl (by first | exact Or.inl rfl | exact Or.inr rfl) (pe_tupF (pa_cons (pe_xfL (xfs_called (xfsV T) (i := 2) rfl) hz hf (pv 2)) (pa_cons (pe_xfL (xfs_f (xfsV T) (i := 2) rfl rfl) hz hf (pv 2)) pa_nil)))))
    (.cons (c := clVal (ckOf K ⟨["TooLong", "TooMany", "TooWide"], ["TooLong"], some "most"⟩)) (.tup (.cons ⟨rfl, by decide, .inl (g_TooLong T)⟩ (.cons ⟨rfl, by decide, .inl (g_TooMany T)⟩ (.cons ⟨rfl, by decide, .inl (g_TooWide T)⟩ .nil))) (show (3 : Nat) ≤ sizeLine by decide +kernel)) (.yes (i := 2) rfl rfl) (fun a oe cls d pn hz hf => pss_one (ps_set (i := 1) sc__law_value.nd rfl (by first | exact Or.inl rfl | exact Or.inr rfl) (pe_tupF (pa_cons (pe_xfL (xfs_called (xfsV T) (i := 3) rfl) hz hf (pv 2)) (pa_cons (pe_xfL (xfs_f (xfsV T) (i := 3) rfl rfl) hz hf (pv 2)) pa_nil)))))
    (.cons (c := clVal (ckOf K ⟨["BadPattern", "BadWish"], [], some "flaw"⟩)) (.tup (.cons ⟨rfl, by decide, .inl (g_BadPattern T)⟩ (.cons ⟨rfl, by decide, .inl (g_BadWish T)⟩ .nil)) (show (2 : Nat) ≤ sizeLine by decide +kernel)) (.yes (i := 2) rfl rfl) (fun a oe cls d pn hz hf => pss_one (ps_set (i := 1) sc__law_value.nd rfl (by first | exact Or.inl rfl | exact Or.inr rfl) (pe_tupF (pa_cons (pe_xfL (xfs_called (xfsV T) (i := 4) rfl) hz hf (pv 2)) (pa_cons (pe_xfL (xfs_f (xfsV T) (i := 4) rfl rfl) hz hf (pv 2)) pa_nil)))))
    (.cons (c := clVal (ckOf K ⟨["BadNumber"], ["BadNumber"], some "number"⟩)) (.one ⟨rfl, by decide, .inl (g_BadNumber T)⟩) (.yes (i := 2) rfl rfl) (fun a oe cls d pn hz hf => pss_one (ps_set (i := 1) sc__law_value.nd rfl (by first | exact Or.inl rfl | exact Or.inr rfl) (pe_tupF (pa_cons (pe_xfL (xfs_called (xfsV T) (i := 5) rfl) hz hf (pv 2)) (pa_cons (pe_xfL (xfs_f (xfsV T) (i := 5) rfl rfl) hz hf (pv 2)) pa_nil)))))
    (.cons (c := clVal (ckOf K ⟨["BadName", "Taken", "InUse", "Unmade", "NoThing"], [], some "name"⟩)) (.tup (.cons ⟨rfl, by decide, .inl (g_BadName T)⟩ (.cons ⟨rfl, by decide, .inl (g_Taken T)⟩ (.cons ⟨rfl, by decide, .inl (g_InUse T)⟩ (.cons ⟨rfl, by decide, .inl (g_Unmade T)⟩ (.cons ⟨rfl, by decide, .inl (g_NoThing T)⟩ .nil))))) (show (5 : Nat) ≤ sizeLine by decide +kernel)) (.yes (i := 2) rfl rfl) (fun a oe cls d pn hz hf => pss_one (ps_set (i := 1) sc__law_value.nd rfl (by first | exact Or.inl rfl | exact Or.inr rfl) (pe_tupF (pa_cons (pe_xfL (xfs_called (xfsV T) (i := 6) rfl) hz hf (pv 2)) (pa_cons (pe_xfL (xfs_f (xfsV T) (i := 6) rfl rfl) hz hf (pv 2)) pa_nil)))))
    (.cons (c := clVal (ckOf K ⟨["BadDeed"], [], some "word"⟩)) (.one ⟨rfl, by decide, .inl (g_BadDeed T)⟩) (.yes (i := 2) rfl rfl) (fun a oe cls d pn hz hf => pss_one (ps_set (i := 1) sc__law_value.nd rfl (by first | exact Or.inl rfl | exact Or.inr rfl) (pe_tupF (pa_cons (pe_xfL (xfs_called (xfsV T) (i := 7) rfl) hz hf (pv 2)) (pa_cons (pe_xfL (xfs_f (xfsV T) (i := 7) rfl rfl) hz hf (pv 2)) pa_nil)))))
    (.cons (c := clVal (ckOf K ⟨["OtherKinds", "BadOrder", "NotAgainst", "BadHappening", "NothingLeft"], [], none⟩)) (.tup (.cons ⟨rfl, by decide, .inl (g_OtherKinds T)⟩ (.cons ⟨rfl, by decide, .inl (g_BadOrder T)⟩ (.cons ⟨rfl, by decide, .inl (g_NotAgainst T)⟩ (.cons ⟨rfl, by decide, .inl (g_BadHappening T)⟩ (.cons ⟨rfl, by decide, .inl (g_NothingLeft T)⟩ .nil))))) (show (5 : Nat) ≤ sizeLine by decide +kernel)) (.yes (i := 2) rfl rfl) (fun a oe cls d pn hz hf => pss_one (ps_set (i := 1) sc__law_value.nd rfl (by first | exact Or.inl rfl | exact Or.inr rfl) (pe_tupF (pa_cons (pe_xfL (xfs_called (xfsV T) (i := 8) rfl) hz hf (pv 2)) (pa_cons pe_non pa_nil)))))
    .nil)))))))))) (pss_one (ps_ret (pv 1)))), ?_⟩
  exact val_reads rfl hf hc ht
/-! ### is_number -/
theorem ok_is_number (T : Txt w K mg) : FnOk P w K mg base (L2.CX P w) 1 (He.fAd K ("is_number", none)) (fdF K ("is_number", none)) ["thing"] (spD ⟨P, w, ls⟩ K mg m_is_number) := by
  refine (F_is_number T).ok (k := 0) sc_is_number (fun vs H Q E h => spD_len h) (fun cdv A outer s H vs Q E hr h => ?_)
  refine ⟨_, (pss_one (ps_ret (pe_and (pe_callB call_isi (by rfl) (fr_isinstance T) (by decide +kernel) (pa_cons (pv 0) (pa_cons (pe_bty (n := "int") (by rfl) (fr_int T) (by decide +kernel)) pa_nil))) (pe_one (pe_not (pe_callB call_isi (by rfl) (fr_isinstance T) (by decide +kernel) (pa_cons (pv 0) (pa_cons (pe_bty (n := "bool") (by rfl) (fr_bool T) (by decide +kernel)) pa_nil)))))))), ?_⟩
  exact spD_run (K := K) (mg := mg) (E := E) (np := 1) (n := 0) rfl (ds_ret (de_and (DE.q (de_CB cd_isi (db_cons dq_var (db_cons (DE.q de_raw) db_nil)))) (de_not (DE.q (de_CB cd_isi (db_cons dq_var (db_cons (DE.q de_raw) db_nil))))))) h
/-! ### is_letter -/
theorem ok_is_letter (T : Txt w K mg) : FnOk P w K mg base (L2.CX P w) 1 (He.fAd K ("is_letter", none)) (fdF K ("is_letter", none)) ["thing", "some"] (spD ⟨P, w, ls⟩ K mg m_is_letter) := by
  refine (F_is_letter T).ok (k := 0) sc_is_letter (fun vs H Q E h => spD_len h) (fun cdv A outer s H vs Q E hr h => ?_)
  refine ⟨_, (pss_one (ps_ret (pe_and (pe_callB call_isi (by rfl) (fr_isinstance T) (by decide +kernel) (pa_cons (pv 0) (pa_cons (pe_bty (n := "str") (by rfl) (fr_str T) (by decide +kernel)) pa_nil))) (pe_and (pe_cmpR (op_eqD hr.units) (pe_callB call_lenA (by rfl) (fr_len T) (by decide +kernel) (pa_cons (pv 0) pa_nil)) pe_int (nomark _)) (pe_one (pe_cmpR op_inX (pv 0) (pv 1) (by rfl))))))), ?_⟩
  exact spD_run (K := K) (mg := mg) (E := E) (np := 2) (n := 0) rfl (ds_ret (de_and (DE.q (de_CB cd_isi (db_cons dq_var (db_cons (DE.q de_raw) db_nil)))) (de_and (DE.q (de_op od_eq (DE.q (de_CB cd_len (db_cons dq_var db_nil))) (DE.q de_int))) (de_op od_in dq_var dq_var)))) h
/-! ### need_kinds -/
theorem ok_need_kinds (T : Txt w K mg) : FnOk P w K mg base (L2.CX P w) 4 (He.fAd K ("need_kinds", none)) (fdF K ("need_kinds", none)) ["kinds"] (spD ⟨P, w, ls⟩ K mg m_need_kinds) := by
  refine (F_need_kinds T).ok (k := 3) sc_need_kinds (fun vs H Q E h => spD_len h) (fun cdv A outer s H vs Q E hr h => ?_)
  refine ⟨_, (pss_cons (ps_if (PW.pt (pw_or (pt_not (pt_chain op_le op_le pe_int (pe_callB call_lenA (by rfl) (fr_len T) (by decide +kernel) (pa_cons (pv 0) pa_nil)) (pe_gv (gv_MOST_KINDS T) rfl))) (pw_or1 (pt_not (pt_val (pe_callB (cr_all (by rfl)) (by rfl) (fr_all T) (by decide +kernel) (pa_cons (pe_lc (own := [("sign", 3)]) (g := (gName 3)) (tt := tYes)  (by rfl) sc_need_kinds.nd (pi_str (pv 0)) (blkOk_by (own := [("sign", 3)]) (N := ["kinds", "one", "other", "sign"]) (sc := defScope s_need_kinds) (by decide +kernel)) (fun _ _ _ _ _ => (pg_name (i := 3) sc_need_kinds.nd rfl (by first | exact Or.inl rfl | exact Or.inr rfl))) (fun _ _ _ _ _ => pts_nil) (fun _ _ _ _ _ => (pe_cmpR (show OpR _ (compareOp .In) (rInX K) from op_inX) (pv 3) (pe_gv (gv_LETTERS T) rfl) (by rfl)))) pa_nil))))))) (pss_one (ps_raise rfl (takes_of rfl rfl rfl rfl) (pmk_oex (oex_BadKinds T) (mi_BadKinds T).at_ (isfn_ty (mi_BadKinds T).fn) (ok_BadKinds___init__ T) (hr.mono (by first | decide | omega)) (b_BadKinds___init__ T) .nil passL (by rfl) (g_BadKinds T) (pa_cons (pv 0) pa_nil)))) pss_nil)
    (pss_one (ps_if (pt_val (pe_callB (cr_any (by rfl)) (by rfl) (fr_any T) (by decide +kernel) (pa_cons (pe_lc (own := [("one", 1), ("other", 2)]) (g := (gTup K 2 (gCons (gName 1) (gCons (gName 2) gNil)))) (tt := tYes)  (by rfl) sc_need_kinds.nd (pi_zipS (by rfl) (fr_zip T) (pa_cons (pv 0) (pa_cons (pe_slice sl_str (pv 0) (po_some pe_int) po_none) pa_nil))) (blkOk_by (own := [("one", 1), ("other", 2)]) (N := ["kinds", "one", "other", "sign"]) (sc := defScope s_need_kinds) (by decide +kernel)) (fun _ _ _ _ _ => (pg_tup (by rfl) (pgs_cons (pg_name (i := 1) sc_need_kinds.nd rfl (by first | exact Or.inl rfl | exact Or.inr rfl)) (pgs_cons (pg_name (i := 2) sc_need_kinds.nd rfl (by first | exact Or.inl rfl | exact Or.inr rfl)) pgs_nil)))) (fun _ _ _ _ _ => pts_nil) (fun _ _ _ _ _ => (pe_cmpR op_ge_str (pv 1) (pv 2) (nomark _)))) pa_nil))) (pss_one (ps_raise rfl (takes_of rfl rfl rfl rfl) (pmk_oex (oex_BadKinds T) (mi_BadKinds T).at_ (isfn_ty (mi_BadKinds T).fn) (ok_BadKinds___init__ T) (hr.mono (by first | decide | omega)) (b_BadKinds___init__ T) .nil passL (by rfl) (g_BadKinds T) (pa_cons (pv 0) pa_nil)))) pss_nil))), ?_⟩
  exact spD_run (K := K) (mg := mg) (E := E) (np := 1) (n := 3) rfl (ds_seq (ds_if (dt_or (dt_not (dt_test (DE.q (de_chain (od_I0 fun _ _ _ _ _ _ => .bl _) (od_I0 fun _ _ _ _ _ _ => .bl _) (DE.q de_int) (DE.q (de_CB cd_len (db_cons dq_var db_nil))) (DE.q de_int))))) (dt_not (dt_b (DE.q (de_CB cd_all (db_cons (DE.q (de_lc (E' := E0) (vs := [3]) (di_str de_var) dg_name (by decide) dt_yes (de_op od_in dq_var (DE.q (de_str (by decide +kernel)))))) db_nil)))))) (ds_raise1 (oex_BadKinds T) (na_BadKinds_called T) (na_BadKinds_text T) (g_BadKinds T) (by decide +kernel) (da_cons de_var da_nil)) ds_next)
    (ds_if (dt_b (DE.q (de_CB cd_any (db_cons (DE.q (de_lc (E' := E0) (vs := [1, 2]) (di_zipS (da_cons de_var (da_cons (de_sl sd_str dq_var (do_some (DE.q de_int)) do_no) da_nil))) (dg_tup (dgs_cons dg_name (dgs_cons dg_name dgs_nil)) (mgn_cons (mgn_cons mgn_nil mgp_name) mgp_name)) (by decide) dt_yes (de_op od_S dq_var dq_var))) db_nil)))) (ds_raise1 (oex_BadKinds T) (na_BadKinds_called T) (na_BadKinds_text T) (g_BadKinds T) (by decide +kernel) (da_cons de_var da_nil)) ds_next)) h
/-! ### is_happening -/
theorem ok_is_happening (T : Txt w K mg) : FnOk P w K mg base (L2.CX P w) 2 (He.fAd K ("is_happening", none)) (fdF K ("is_happening", none)) ["kinds", "thing"] (spD ⟨P, w, ls⟩ K mg m_is_happening) := by
  refine (F_is_happening T).ok (k := 1) sc_is_happening (fun vs H Q E h => spD_len h) (fun cdv A outer s H vs Q E hr h => ?_)
  refine ⟨_, (pss_cons (ps_if (PW.pt (pw_or (pt_not (pt_val (pe_callB call_isi (by rfl) (fr_isinstance T) (by decide +kernel) (pa_cons (pv 1) (pa_cons (pe_bty (n := "tuple") (by rfl) (fr_tuple T) (by decide +kernel)) pa_nil))))) (pw_or1 (pt_cmpR (op_neD hr.units) (pe_callB call_lenA (by rfl) (fr_len T) (by decide +kernel) (pa_cons (pv 1) pa_nil)) pe_int (nomark _))))) (pss_one (ps_ret pe_bl)) pss_nil)
    (pss_one (ps_ret (pe_and (pe_call (@ok_is_letter P w ls K mg base T) (hr.mono (by first | decide | omega)) (by rfl) (g_is_letter T) (kp_is_letter T) (b_is_letter T) .nil (passes_call (takes_of rfl rfl rfl rfl) (fun _ _ _ _ h => h)) (pa_cons (pe_ix ix_seq (pv 1) pe_int (fun _ _ => rfl)) (pa_cons (pv 0) pa_nil))) (pe_and (pe_call (@ok_is_number P w ls K mg base T) (hr.mono (by first | decide | omega)) (by rfl) (g_is_number T) (kp_is_number T) (b_is_number T) .nil (passes_call (takes_of rfl rfl rfl rfl) (fun _ _ _ _ h => h)) (pa_cons (pe_ix ix_seq (pv 1) pe_int (fun _ _ => rfl)) pa_nil)) (pe_one (pe_cmpR op_ge (pe_ix ix_seq (pv 1) pe_int (fun _ _ => rfl)) pe_int (nomark _)))))))), ?_⟩
  exact spD_run (K := K) (mg := mg) (E := E) (np := 2) (n := 0) rfl (ds_seq (ds_if (dt_or (dt_not (dt_b (DE.q (de_CB cd_isi (db_cons dq_var (db_cons (DE.q de_raw) db_nil)))))) (dt_test (DE.q (de_op od_ne (DE.q (de_CB cd_len (db_cons dq_var db_nil))) (DE.q de_int))))) (ds_ret de_bl) ds_next)
    (ds_ret (de_and (DE.q (de_call (fun _ _ _ _ => .nil) (da_cons (de_op od_ix dq_var (DE.q de_int)) (da_cons de_var da_nil)))) (de_and (DE.q (de_call (fun _ _ _ _ => .nil) (da_cons (de_op od_ix dq_var (DE.q de_int)) da_nil))) (de_op (od_I0 fun _ _ _ _ _ _ => .bl _) (DE.q (de_op od_ix dq_var (DE.q de_int))) (DE.q de_int)))))) h
/-! ### need_row -/
theorem ok_need_row (T : Txt w K mg) : FnOk P w K mg base (L2.CX P w) 4 (He.fAd K ("need_row", none)) (fdF K ("need_row", none)) ["kinds", "row"] (spD ⟨P, w, ls⟩ K mg m_need_row) := by
  refine (F_need_row T).ok (k := 3) sc_need_row (fun vs H Q E h => spD_len h) (fun cdv A outer s H vs Q E hr h => ?_)
  refine ⟨_, (pss_cons (ps_if (pt_cmpR op_gt (pe_callB call_lenA (by rfl) (fr_len T) (by decide +kernel) (pa_cons (pv 1) pa_nil)) (pe_gv (gv_MOST_ROW T) rfl) (nomark _)) (pss_one (ps_raise rfl (takes_of rfl rfl rfl rfl) (pmk_oex (oex_TooLong T) (mi_TooLong T).at_ (isfn_ty (mi_TooLong T).fn) (ok_TooLong___init__ T) (hr.mono (by first | decide | omega)) (b_TooLong___init__ T) .nil passL (by rfl) (g_TooLong T) (pa_cons (pe_gv (gv_MOST_ROW T) rfl) pa_nil)))) pss_nil)
    (pss_one (ps_for (passes_of rfl) (by rfl) (pi_enum (by rfl) (fr_enumerate T) (pa_cons (pv 1) pa_nil)) (pg_tup (by rfl) (pgs_cons (pg_name (i := 2) sc_need_row.nd rfl (by first | exact Or.inl rfl | exact Or.inr rfl)) (pgs_cons (pg_name (i := 3) sc_need_row.nd rfl (by first | exact Or.inl rfl | exact Or.inr rfl)) pgs_nil))) (pss_one (ps_if (pt_not (pt_val (pe_call (@ok_is_happening P w ls K mg base T) (hr.mono (by first | decide | omega)) (by rfl) (g_is_happening T) (kp_is_happening T) (b_is_happening T) .nil (passes_call (takes_of rfl rfl rfl rfl) (fun _ _ _ _ h => h)) (pa_cons (pv 0) (pa_cons (pv 3) pa_nil))))) (pss_one (ps_raise rfl (takes_of rfl rfl rfl rfl) (pmk_oex (oex_BadRow T) (mi_BadRow T).at_ (isfn_ty (mi_BadRow T).fn) (ok_BadRow___init__ T) (hr.mono (by first | decide | omega)) (b_BadRow___init__ T) .nil passL (by rfl) (g_BadRow T) (pa_cons (pv 2) pa_nil)))) pss_nil))))), ?_⟩
  exact spD_run (K := K) (mg := mg) (E := E) (np := 2) (n := 2) rfl (ds_seq (ds_if (dt_test (DE.q (de_op (od_I0 fun _ _ _ _ _ _ => .bl _) (DE.q (de_CB cd_len (db_cons dq_var db_nil))) (DE.q de_int)))) (ds_raise1 (oex_TooLong T) (na_TooLong_called T) (na_TooLong_most T) (g_TooLong T) (by decide +kernel) (da_cons de_int da_nil)) ds_next)
    (ds_for (di_enum (da_cons de_var da_nil)) (dg_tup (dgs_cons dg_name (dgs_cons dg_name dgs_nil)) (mgn_cons (mgn_cons mgn_nil mgp_name) mgp_name)) (ds_if (dt_not (dt_b (DE.q (de_call (fun _ _ _ _ => .nil) (da_cons de_var (da_cons de_var da_nil)))))) (ds_raise1 (oex_BadRow T) (na_BadRow_called T) (na_BadRow_at T) (g_BadRow T) (by decide +kernel) (da_cons de_var da_nil)) ds_next))) h
/-! ### renamed -/
theorem ok_renamed (T : Txt w K mg) : FnOk P w K mg base (L2.CX P w) 5 (He.fAd K ("renamed", none)) (fdF K ("renamed", none)) ["kinds", "row", "by"] (spD ⟨P, w, ls⟩ K mg m_renamed) := by
  refine (F_renamed T).ok (k := 4) sc_renamed (fun vs H Q E h => spD_len h) (fun cdv A outer s H vs Q E hr h => ?_)
  refine ⟨_, (pss_cons (ps_expr (pe_call (@ok_need_kinds P w ls K mg base T) (hr.mono (by first | decide | omega)) (by rfl) (g_need_kinds T) (kp_need_kinds T) (b_need_kinds T) .nil (passes_call (takes_of rfl rfl rfl rfl) (fun _ _ _ _ h => h)) (pa_cons (pv 0) pa_nil)))
    (pss_cons (ps_expr (pe_call (@ok_need_row P w ls K mg base T) (hr.mono (by first | decide | omega)) (by rfl) (g_need_row T) (kp_need_row T) (b_need_row T) .nil (passes_call (takes_of rfl rfl rfl rfl) (fun _ _ _ _ h => h)) (pa_cons (pv 0) (pa_cons (pv 1) pa_nil))))
    (pss_cons (ps_set (i := 3) sc_renamed.nd rfl (by first | exact Or.inl rfl | exact Or.inr rfl) (pe_callTy0 (show CallR _ (.type "set") (rSet0K P w) from cr_set0K) (by rfl) (fr_set T) (by decide +kernel)))
    (pss_cons (ps_for (passes_of rfl) (by rfl) (pi_list (pe_callB (cr_sort2 (by rfl)) (by rfl) (fr_sorted T) (by decide +kernel) (pa_cons (pe_scG (own := [("kind", 5), ("name", 4)]) (g := (gTup K 2 (gCons (gName 5) (gCons (gName 4) gNil)))) (tt := tYes)  hr.units (by rfl) sc_renamed.nd (pi_list (pv 1)) (blkOk_by (own := [("kind", 5), ("name", 4)]) (N := ["kinds", "row", "by", "seen", "name", "kind"]) (sc := defScope s_renamed) (by decide +kernel)) (fun _ _ _ _ _ => (pg_tup (by rfl) (pgs_cons (pg_name (i := 5) sc_renamed.nd rfl (by first | exact Or.inl rfl | exact Or.inr rfl)) (pgs_cons (pg_name (i := 4) sc_renamed.nd rfl (by first | exact Or.inl rfl | exact Or.inr rfl)) pgs_nil)))) (fun _ _ _ _ _ => pts_nil) (fun _ _ _ _ _ => ClsRun.nil) (by decide) (fun _ _ _ _ _ => (pv 4))) pa_nil))) (pg_name (i := 4) sc_renamed.nd rfl (by first | exact Or.inl rfl | exact Or.inr rfl)) (pss_cons (ps_if (pt_cmpR (show OpR _ (compareOp .In) (rSInK P w false) from or_sinK) (pe_xget2 (ls := ls) hr.units (pv 2) (pv 4) (pv 4) (by constructor <;> rfl)) (pv 3) (by rfl)) (pss_one (ps_raise rfl (takes_of rfl rfl rfl rfl) (pmk_oex (oex_BadNumber T) (mi_BadNumber T).at_ (isfn_ty (mi_BadNumber T).fn) (ok_BadNumber___init__ T) (hr.mono (by first | decide | omega)) (b_BadNumber___init__ T) .nil passL (by rfl) (g_BadNumber T) (pa_cons (pv 4) pa_nil)))) pss_nil)
    (pss_one (ps_expr (show PE _ _ (tSAddK P w _ _) from pe_saddK (pv 3) (pa_cons (pe_xget2 (ls := ls) hr.units (pv 2) (pv 4) (pv 4) (by constructor <;> rfl)) pa_nil))))))
    (pss_one (ps_ret (pe_lc (own := [("kind", 5), ("name", 4)]) (g := (gTup K 2 (gCons (gName 5) (gCons (gName 4) gNil)))) (tt := tYes)  (by rfl) sc_renamed.nd (pi_list (pv 1)) (blkOk_by (own := [("kind", 5), ("name", 4)]) (N := ["kinds", "row", "by", "seen", "name", "kind"]) (sc := defScope s_renamed) (by decide +kernel)) (fun _ _ _ _ _ => (pg_tup (by rfl) (pgs_cons (pg_name (i := 5) sc_renamed.nd rfl (by first | exact Or.inl rfl | exact Or.inr rfl)) (pgs_cons (pg_name (i := 4) sc_renamed.nd rfl (by first | exact Or.inl rfl | exact Or.inr rfl)) pgs_nil)))) (fun _ _ _ _ _ => pts_nil) (fun _ _ _ _ _ => (pe_tupF (pa_cons (pv 5) (pa_cons (show PE _ _ (tXGet2 ⟨P, w, ls⟩ K _ _ _) from (pe_xget2 (ls := ls) hr.units (pv 2) (pv 4) (pv 4) (by constructor <;> rfl))) pa_nil))))))))))), ?_⟩
  exact spD_run (K := K) (mg := mg) (E := E) (np := 3) (n := 3) rfl (ds_seq (ds_drop (de_call (fun _ _ _ _ => .nil) (da_cons de_var da_nil)))
    (ds_seq (ds_drop (de_call (fun _ _ _ _ => .nil) (da_cons de_var (da_cons de_var da_nil))))
    (ds_seq (ds_own (i := 3) df_set0)
    (ds_seq (ds_for (di_list (de_sortX (dx_sc (E' := E0) (vs := [5, 4]) (di_list de_var) (dg_tup (dgs_cons dg_name (dgs_cons dg_name dgs_nil)) (mgn_cons (mgn_cons mgn_nil mgp_name) mgp_name)) (by decide) dt_yes ClR.nil de_var))) dg_name (ds_seq (ds_if (dt_test (DE.q (de_sin (neg := false) (i := 3) (de_xget2 dq_var de_var de_var)))) (ds_raise1 (oex_BadNumber T) (na_BadNumber_called T) (na_BadNumber_number T) (g_BadNumber T) (by decide +kernel) (da_cons de_var da_nil)) ds_next)
    (ds_sadd (i := 3) (de_xget2 dq_var de_var de_var))))
    (ds_ret (de_lc (E' := E0) (vs := [5, 4]) (di_list de_var) (dg_tup (dgs_cons dg_name (dgs_cons dg_name dgs_nil)) (mgn_cons (mgn_cons mgn_nil mgp_name) mgp_name)) (by decide) dt_yes (de_tup (da_cons de_var (da_cons (de_xget2 dq_var de_var de_var) da_nil))))))))) h
/-! ### own_kinds -/
theorem ok_own_kinds (T : Txt w K mg) : FnOk P w K mg base (L2.CX P w) 5 (He.fAd K ("own_kinds", none)) (fdF K ("own_kinds", none)) ["kinds", "row", "name"] (spD ⟨P, w, ls⟩ K mg m_own_kinds) := by
  refine (F_own_kinds T).ok (k := 4) sc_own_kinds (fun vs H Q E h => spD_len h) (fun cdv A outer s H vs Q E hr h => ?_)
  refine ⟨_, (pss_cons (ps_expr (pe_call (@ok_need_kinds P w ls K mg base T) (hr.mono (by first | decide | omega)) (by rfl) (g_need_kinds T) (kp_need_kinds T) (b_need_kinds T) .nil (passes_call (takes_of rfl rfl rfl rfl) (fun _ _ _ _ h => h)) (pa_cons (pv 0) pa_nil)))
    (pss_cons (ps_expr (pe_call (@ok_need_row P w ls K mg base T) (hr.mono (by first | decide | omega)) (by rfl) (g_need_row T) (kp_need_row T) (b_need_row T) .nil (passes_call (takes_of rfl rfl rfl rfl) (fun _ _ _ _ h => h)) (pa_cons (pv 0) (pa_cons (pv 1) pa_nil))))
    (pss_one (ps_ret (pe_joinN pe_str (pe_lc (own := [("kind", 3), ("other", 4)]) (g := (gTup K 2 (gCons (gName 3) (gCons (gName 4) gNil))))  (by rfl) sc_own_kinds.nd (pi_list (pv 1)) (blkOk_by (own := [("kind", 3), ("other", 4)]) (N := ["kinds", "row", "name", "kind", "other"]) (sc := defScope s_own_kinds) (by decide +kernel)) (fun _ _ _ _ _ => (pg_tup (by rfl) (pgs_cons (pg_name (i := 3) sc_own_kinds.nd rfl (by first | exact Or.inl rfl | exact Or.inr rfl)) (pgs_cons (pg_name (i := 4) sc_own_kinds.nd rfl (by first | exact Or.inl rfl | exact Or.inr rfl)) pgs_nil)))) (fun _ _ _ _ _ => (pts_one (pt_cmpR (show OpR _ (compareOp .Eq) (rEqD K) from (op_eqD hr.units)) (pv 4) (pv 2) (nomark _)))) (fun _ _ _ _ _ => (pv 3)))))))), ?_⟩
  exact spD_run (K := K) (mg := mg) (E := E) (np := 3) (n := 2) rfl (ds_seq (ds_drop (de_call (fun _ _ _ _ => .nil) (da_cons de_var da_nil)))
    (ds_seq (ds_drop (de_call (fun _ _ _ _ => .nil) (da_cons de_var (da_cons de_var da_nil))))
    (ds_ret (de_join (DE.q (de_str (by decide +kernel))) (DE.q (de_lc (E' := E0) (vs := [3, 4]) (di_list de_var) (dg_tup (dgs_cons dg_name (dgs_cons dg_name dgs_nil)) (mgn_cons (mgn_cons mgn_nil mgp_name) mgp_name)) (by decide) (dt_test (DE.q (de_op od_eq dq_var dq_var))) de_var)))))) h
/-! ### _law_bag -/
abbrev sp__law_bag (K : PySem.W.Frag) : Sp := sp_bag K
theorem okh__law_bag (T : Txt w K mg) : FnOk P w K mg base (L2.CX P w) 1 (He.fAd K ("_law_bag", none)) (fdF K ("_law_bag", none)) ["_law_script"] (sp__law_bag K) := by
  refine (F__law_bag T).ok (k := 0) sc__law_bag (fun vs H Q E h => by obtain ⟨_, _, rfl, _⟩ := h; rfl) (fun cdv A outer s H vs Q E hr h => ?_)
  refine ⟨_, (pss_one (ps_ret (pe_lst (pa_cons (pe_callTy call_listOf (by rfl) (fr_list T) (by decide +kernel) (pa_cons (pe_slice sl_list (pv 0) po_none (po_some pe_int)) pa_nil)) (pa_cons pe_int (pa_cons pe_int (pa_cons (pe_op op_add pe_int (pe_callB call_lenS (by rfl) (fr_len T) (by decide +kernel) (pa_cons (pe_slice sl_list (pv 0) po_none (po_some pe_int)) pa_nil))) (pa_cons pe_int pa_nil)))))))), ?_⟩
  obtain ⟨a, ns, rfl, hS, hl, k⟩ := h
  have ec : cutV (ns.map V.int) none (some 63) = ns.map V.int := (cutV_to (n := 63)).trans (List.take_of_length_le (by rw [List.length_map]; exact hl))
  walk_at "B"
  refine w_slL hS fun p H1 hp s1 h1 => ?_
  walk_at "S"
  refine w_listOf (.inl (SqL.of h1)) fun q H2 hq s2 h2 => ?_
  walk_at "S"
  refine w_slL (s2.seq (s1.seq hS)) fun r H3 hr s3 h3 => ?_
  walk_at "S"
  refine w_newL (by show 5 ≤ sizeLine; decide) fun b H4 hb s4 h4 => ?_
  have hq4 := s4 _ _ (s3 _ _ h2)
  rw [ec] at hq4
  exact k b q H4 (((s1.trans s2).trans s3).trans s4) (((s1.trans s2).trans s3).free hb) ⟨0, 0, _, 1, h4, hq4, ne_of_none (s3 _ _ h2) hb, Nat.zero_le _, by omega, by rw [ec, List.length_map]; omega⟩

/-! ### _law_pick -/
abbrev sp__law_pick : Sp := sp_pick
theorem bag_mod (x : Int) : 0 ≤ x % 2147483399 ∧ x % 2147483399 < 2147483399 := ⟨Int.emod_nonneg _ (by decide), Int.emod_lt_of_pos _ (by decide)⟩
theorem okh__law_pick (T : Txt w K mg) : FnOk P w K mg base (L2.CX P w) 1 (He.fAd K ("_law_pick", none)) (fdF K ("_law_pick", none)) ["_law_bag_here", "_law_top"] (sp__law_pick) := by
  refine (F__law_pick T).ok (k := 0) sc__law_pick (fun vs H Q E h => by obtain ⟨_, _, _, _, rfl, _⟩ := h; rfl) (fun cdv A outer s H vs Q E hr h => ?_)
  refine ⟨_, (pss_cons (ps_if (PW.pt (pw_and (pt_cmpR op_lt (pe_ix ix_list (pv 0) pe_int (fun _ _ => rfl)) (pv 1) (nomark _)) (pw_and1 (pt_cmpR op_lt (pe_ix ix_list (pv 0) pe_int (fun _ _ => rfl)) (pe_callB call_lenS (by rfl) (fr_len T) (by decide +kernel) (pa_cons (pe_ix ix_list (pv 0) pe_int (fun _ _ => rfl)) pa_nil)) (nomark _))))) (pss_cons (ps_set (i := 2) sc__law_pick.nd rfl (by first | exact Or.inl rfl | exact Or.inr rfl) (pe_ix ix_list (pe_ix ix_list (pv 0) pe_int (fun _ _ => rfl)) (pe_ix ix_list (pv 0) pe_int (fun _ _ => rfl)) (fun _ _ => rfl)))
    (pss_cons (ps_asg (pe_op op_add (pe_ix ix_list (pv 0) pe_int (fun _ _ => rfl)) pe_int) (pg_sub (pv 0) pe_int set_list))
    (pss_cons (ps_asg (pe_op op_mod (pe_op op_add (pe_op op_add (pe_op op_mul (pe_ix ix_list (pv 0) pe_int (fun _ _ => rfl)) pe_int) (pv 2)) (pe_op op_mul pe_int (pe_ix ix_list (pv 0) pe_int (fun _ _ => rfl)))) pe_int) (pg_sub (pv 0) pe_int set_list))
    (pss_one (ps_asg (pe_ifExp (pt_cmpR op_ge (pv 2) (pe_op op_pow pe_int pe_int) (nomark _)) (pv 2) pe_int) (pg_sub (pv 0) pe_int set_list)))))) pss_nil)
    (pss_cons (ps_if (pt_cmpR op_ge (pe_ix ix_list (pv 0) pe_int (fun _ _ => rfl)) (pv 1) (nomark _)) (pss_cons (ps_set (i := 3) sc__law_pick.nd rfl (by first | exact Or.inl rfl | exact Or.inr rfl) (pe_op op_mod (pe_ix ix_list (pv 0) pe_int (fun _ _ => rfl)) (pv 1)))
    (pss_cons (ps_asg (pe_op op_fdivW (pe_ix ix_list (pv 0) pe_int (fun _ _ => rfl)) (pv 1)) (pg_sub (pv 0) pe_int set_list))
    (pss_one (ps_ret (pv 3))))) pss_nil)
    (pss_cons (ps_asg (pe_op op_add (pe_ix ix_list (pv 0) pe_int (fun _ _ => rfl)) pe_int) (pg_sub (pv 0) pe_int set_list))
    (pss_cons (ps_asg (pe_op op_mod (pe_op op_add (pe_op op_add (pe_op op_add (pe_op op_pow (pe_ix ix_list (pv 0) pe_int (fun _ _ => rfl)) pe_int) (pe_op op_mul pe_int (pe_ix ix_list (pv 0) pe_int (fun _ _ => rfl)))) (pe_op op_fdivW (pe_ix ix_list (pv 0) pe_int (fun _ _ => rfl)) pe_int)) pe_int) pe_int) (pg_sub (pv 0) pe_int set_list))
    (pss_one (ps_ret (pe_op op_mod (pe_op op_fdivW (pe_ix ix_list (pv 0) pe_int (fun _ _ => rfl)) pe_int) (pv 1)))))))), ?_⟩
  obtain ⟨b, top, l, ns, rfl, ⟨i, h, s, n, hb, hl, ne, hi, hs0, hs1⟩, ht, htb, k⟩ := h
  refine w_seqJ (fun σ' H' => ∃ (c : Option V) (i : Nat) (h s : Int), σ' = [some (.ref b), some (.int top), c, none] ∧ H' b = some (.lst (bagL l i h s n)) ∧ del H' b = del H b ∧ i ≤ ns.length ∧ 0 ≤ s ∧ s < 2147483399) ?_ ?_
  · rintro σ' H1 ⟨c, i, h, s, rfl, hb1, e1, hi, hs0, hs1⟩
    have fin : ∀ (d : Int) (i : Nat) (h s n : Int) H2, 0 ≤ d → d < top → H2 b = some (.lst (bagL l i h s n)) → del H2 b = del H b → i ≤ ns.length → 0 ≤ s → s < 2147483399 → Q (.int d) H2 :=
      fun d i h s n H2 d0 d1 hb2 e2 hi h0 h1 => k d H2 d0 d1 ⟨i, h, s, n, hb2, by rw [del_get e2 ne]; exact hl, ne, hi, h0, h1⟩ e2
    have ht2 : (0 : Int) < top := by omega
    walk_at "B"
    refine ite2 (fun c1 => ?_) (fun c1 => ?_)
    · walk_at "S"
      exact fin _ i _ s n _ (Int.emod_nonneg _ (by omega)) (Int.emod_lt_of_pos _ ht2) (by assumption) (by simp only [*]) hi hs0 hs1
    · walk_at "S"
      exact fin _ i h _ (n + 1) _ (Int.emod_nonneg _ (by omega)) (Int.emod_lt_of_pos _ ht2) (by assumption) (by simp only [*]) hi (bag_mod _).1 (bag_mod _).2
  · intro N hN
    have stay : N [some (.ref b), some (.int top), none, none] H := hN _ _ ⟨none, i, h, s, rfl, hb, rfl, hi, hs0, hs1⟩
    walk_at "B"
    refine ite2 (fun c1 => ?_) (fun c1 => ?_)
    · walk_at "S"
      refine ite2 (fun c2 => ?_) (fun c2 => ?_)
      · have hlt : i < ns.length := by have := of_decide_eq_true c2; rw [List.length_map] at this; omega
        walk_at "S"
        refine w_ixL (SqL.of hl) (atI_nat (v := .int ns[i]) (by simp [hlt])) ?_
        walk_at "S"
        refine ite2 (fun c3 => ?_) (fun c3 => ?_)
        all_goals
          walk_at "S"
          exact hN _ _ ⟨_, i + 1, _, _, rfl, by assumption, by simp only [*], hlt, (bag_mod _).1, (bag_mod _).2⟩
      · walk_at "S"
        exact stay
    · walk_at "S"
      exact stay
theorem ok__law_pick (T : Txt w K mg) : FnOk P w K mg base (L2.CX P w) 1 (He.fAd K ("_law_pick", none)) (fdF K ("_law_pick", none)) ["_law_bag_here", "_law_top"] (spD ⟨P, w, ls⟩ K mg m__law_pick) := (okh__law_pick T).imp fun _ _ _ _ h => sp_pick_of h
/-! ### _law_of -/
theorem ok__law_of (T : Txt w K mg) : FnOk P w K mg base (L2.CX P w) 2 (He.fAd K ("_law_of", none)) (fdF K ("_law_of", none)) ["_law_bag_here", "_law_some"] (spD ⟨P, w, ls⟩ K mg m__law_of) := by
  refine (F__law_of T).ok (k := 1) sc__law_of (fun vs H Q E h => spD_len h) (fun cdv A outer s H vs Q E hr h => ?_)
  refine ⟨_, (pss_one (ps_ret (pe_ix ix_seq (pv 1) (pe_call (@ok__law_pick P w ls K mg base T) (hr.mono (by first | decide | omega)) (by rfl) (g__law_pick T) (kp__law_pick T) (b__law_pick T) .nil (passes_call (takes_of rfl rfl rfl rfl) (fun _ _ _ _ h => h)) (pa_cons (pv 0) (pa_cons (pe_callB call_lenA (by rfl) (fr_len T) (by decide +kernel) (pa_cons (pv 1) pa_nil)) pa_nil))) (fun _ _ => rfl)))), ?_⟩
  exact spD_run (K := K) (mg := mg) (E := E) (np := 2) (n := 0) rfl (ds_ret (de_op od_ix dq_var (DE.q (de_call (fun _ _ _ _ => .nil) (da_cons de_var (da_cons (de_CB cd_len (db_cons dq_var db_nil)) da_nil)))))) h
/-! ### _law_shuffled -/
def sp__law_shuffled (K : PySem.W.Frag) : Sp := fun vs H Q _ => ∃ (b l a : Addr) (ns : List Int) (xs : List V), vs = [.ref b, .ref a] ∧ BagX l ns H b ∧ SqL K (del H b) a xs ∧ xs.length ≤ 1000 ∧
  ∀ ys p H', ys.Perm xs → BagX l ns H' b → Same (del H b) (del H' b) → del H b p = none → p ≠ b → H' p = some (.lst ys) → Q (.ref p) H'
theorem okh__law_shuffled (T : Txt w K mg) : FnOk P w K mg base (L2.CX P w) 2 (He.fAd K ("_law_shuffled", none)) (fdF K ("_law_shuffled", none)) ["_law_bag_here", "_law_some"] (sp__law_shuffled K) := by
  refine (F__law_shuffled T).ok (k := 1) sc__law_shuffled (fun vs H Q E h => by obtain ⟨_, _, _, _, _, rfl, _⟩ := h; rfl) (fun cdv A outer s H vs Q E hr h => ?_)
  refine ⟨_, (pss_cons (ps_set (i := 2) sc__law_shuffled.nd rfl (by first | exact Or.inl rfl | exact Or.inr rfl) (pe_callTy call_listOf (by rfl) (fr_list T) (by decide +kernel) (pa_cons (pv 1) pa_nil)))
    (pss_cons (ps_set (i := 3) sc__law_shuffled.nd rfl (by first | exact Or.inl rfl | exact Or.inr rfl) (pe_lst pa_nil))
    (pss_cons (ps_for (passes_of rfl) (by rfl) (pi_range1 (by rfl) (fr_range T) (pa_cons (pe_callB call_lenS (by rfl) (fr_len T) (by decide +kernel) (pa_cons (pv 1) pa_nil)) pa_nil)) (pg_name (i := 4) sc__law_shuffled.nd rfl (by first | exact Or.inl rfl | exact Or.inr rfl)) (pss_one (ps_expr (pe_bm PySem.F.plainAttrs_list PySem.F.slot_list_append PySem.F.type_list_append mt_append (pv 3) (pa_cons (pe_bm PySem.F.plainAttrs_list PySem.F.slot_list_pop PySem.F.type_list_pop mt_popAt (pv 2) (pa_cons (pe_call (okh__law_pick T) (hr.mono (by first | decide | omega)) (by rfl) (g__law_pick T) (kp__law_pick T) (b__law_pick T) .nil (passes_call (takes_of rfl rfl rfl rfl) (fun _ _ _ _ h => h)) (pa_cons (pv 0) (pa_cons (pe_callB call_lenS (by rfl) (fr_len T) (by decide +kernel) (pa_cons (pv 2) pa_nil)) pa_nil))) pa_nil)) pa_nil)))))
    (pss_one (ps_ret (pv 3)))))), ?_⟩
  obtain ⟨b, l, a, ns, xs, rfl, hB, ha, hl, k⟩ := h
  walk_at "B"
  refine w_listOf (.inl (same_del.seq ha)) fun p H1 hp s1 hp1 => ?_
  walk_at "S"
  refine w_newL (by simp) fun f H2 hf s2 hf2 => ?_
  have hB1 := hB.same s1
  have hB2 := hB1.same s2
  have npb := (hB.neB hp).1
  have npl := (hB.neB hp).2
  have nfb := (hB1.neB hf).1
  have nfl := (hB1.neB hf).2
  have nfp : f ≠ p := (ne_of_none hp1 hf).symm
  have s02 : Same (del H b) (del H2 b) := same_b_of (s1.trans s2)
  have dp : del H b p = none := by rw [del_ne npb]; exact hp
  have df : del H b f = none := by rw [del_ne nfb]; exact s1.free hf
  walk_at "S"
  refine w_len (same_del.seq (s02.seq ha)) ?_
  walk_at "S"
  refine for_inv (walk_range) (fun i σ H' => ∃ (st : Option V) (lf fd : List V), σ = [some (.ref b), some (.ref a), some (.ref p), some (.ref f), st] ∧ BagX l ns H' b ∧ Same (del H b) (del H' b) ∧ H' p = some (.lst lf) ∧ H' f = some (.lst fd) ∧ (fd ++ lf).Perm xs ∧ fd.length = i)
    ⟨none, xs, [], rfl, hB2, s02, s2 _ _ hp1, hf2, by simp, rfl⟩ (fun _ _ _ _ _ => trivial) ?_ ?_
  · rintro i x σ H3 H4 hi ⟨st, lf, fd, rfl, hB3, s3, hp3, hf3, pm, hfl⟩ ⟨rfl, rfl⟩
    have hln := pm.length_eq
    rw [List.length_append] at hln
    have hi2 : i < xs.length := by omega
    walk_at "S"
    refine ⟨b, _, l, ns, rfl, hB3, by omega, log_le (by omega) (by omega), fun d H5 d0 d1 hB5 e5 => ?_⟩
    obtain ⟨j, rfl⟩ := Int.eq_ofNat_of_zero_le d0
    have hj : j < lf.length := by omega
    have hp5 : H5 p = some (.lst lf) := by rw [del_get e5 npb]; exact hp3
    have hf5 : H5 f = some (.lst fd) := by rw [del_get e5 nfb]; exact hf3
    walk_at "S"
    refine w_popAt hp5 (by omega) (List.getElem?_eq_getElem hj) fun H6 hp6 e6 => ?_
    have hB6 := hB5.wr e6 npb npl
    have hf6 : H6 f = some (.lst fd) := by rw [del_get e6 nfp]; exact hf5
    walk_at "S"
    refine w_append hf6 (by omega) fun H7 hf7 e7 => ?_
    have hB7 := hB6.wr e7 nfb nfl
    walk_at "S"
    refine ⟨_, lf.eraseIdx j, fd ++ [lf[j]], rfl, hB7, ?_, ?_, hf7, ?_, by simp [hfl]⟩
    · rw [← e5] at s3
      exact same_wr (same_wr s3 dp e6) df e7
    · rw [del_get e7 nfp.symm]; exact hp6
    · refine List.Perm.trans ?_ pm
      rw [List.append_assoc]
      refine List.Perm.append_left fd ?_
      exact perm_erase hj
  · rintro σ H3 ⟨st, lf, fd, rfl, hB3, s3, hp3, hf3, pm, hfl⟩
    walk_at "S"
    have hln := pm.length_eq
    rw [List.length_append] at hln
    have e : lf = [] := List.eq_nil_of_length_eq_zero (by omega)
    subst e
    rw [List.append_nil] at pm
    exact k fd f H3 pm hB3 s3 df nfb hf3
theorem sp_shuffled_of {vs : List V} {H : Hp} {Q : VK} {E : XK} (h : spD Z K mg mShuffled vs H Q E) : sp__law_shuffled K vs H Q E := by
  obtain ⟨C, ds, S, P, X, rfl, st, r, hm, hx, k⟩ := h
  unfold mShuffled at hm
  split at hm
  · cases r with
    | cons r1 t => cases t with
      | cons r2 t =>
        cases t
        cases r1 with
        | bag hb =>
          rename_i b l ns
          obtain ⟨a, xs, rfl, h1, h2, h3⟩ := r2.lstI
          have hA := C.hb b l ns hb
          have hB := C.b0.bag b l ns hb
          obtain ⟨q1, q2⟩ := hid_some h1
          have hab : a ≠ b := fun z => q1 (by rw [z]; exact .inl hA)
          refine ⟨b, l, a, ns, xs, rfl, hB, SqL.of (by rw [del_ne hab]; exact q2), by rw [h3.len]; exact hm.1, fun ys p H' hp hB' sm hn np hp' => ?_⟩
          obtain ⟨es, pe, re⟩ := h3.perm hp
          have g := C.bagGo st hb hB' sm
          have hn0 : C.H0 p = none := by rw [del_ne np] at hn; exact hn
          refine k (.lst es) (.ref p) C.α0 H' S (hm.2 es pe) g (.lst ?_ (by rw [hp.length_eq]; exact h2) (RpAll.same (hid_fr g.fr) re))
          refine hid_get (fun z => ?_) hp'
          rcases z with z | z | ⟨_, z⟩
          · exact C.hA p z hn0
          · exact C.h0 p z hn0
          · cases z
  · exact hm.elim
theorem ok__law_shuffled (T : Txt w K mg) : FnOk P w K mg base (L2.CX P w) 2 (He.fAd K ("_law_shuffled", none)) (fdF K ("_law_shuffled", none)) ["_law_bag_here", "_law_some"] (spD ⟨P, w, ls⟩ K mg m__law_shuffled) := (okh__law_shuffled T).imp fun _ _ _ _ h => sp_shuffled_of h
/-! ### _law_same -/
theorem ok__law_same (T : Txt w K mg) : ∀ n, FnOk P w K mg base (L2.CX P w) (0 + n) (He.fAd K ("_law_same", none)) (fdF K ("_law_same", none)) ["_law_found", "_law_due"] (spD ⟨P, w, ls⟩ K mg (m__law_same n))
  | 0 => ⟨fun vs H Q E h => by obtain ⟨_, _, _, _, _, _, _, _, hm, _⟩ := h; exact hm.elim, fun _ _ _ _ _ _ _ _ _ _ _ _ _ h => by obtain ⟨_, _, _, _, _, _, _, _, hm, _⟩ := h; exact hm.elim⟩
  | n + 1 => by
    have ih : FnOk P w K mg base (L2.CX P w) (0 + n) (He.fAd K ("_law_same", none)) (fdF K ("_law_same", none)) ["_law_found", "_law_due"] (spD ⟨P, w, ls⟩ K mg (m__law_same n)) := ok__law_same T n
    refine (F__law_same T).ok (k := 0 + n) sc__law_same (fun vs H Q E h => spD_len h) (fun cdv A outer s H vs Q E hr h => ?_)
    refine ⟨_, (pss_cons (ps_if (pt_cmpR op_isN0 (pv 1) pe_non (nomark _)) (pss_one (ps_ret (pe_cmpR op_isN0 (pv 0) pe_non (nomark _)))) pss_nil)
    (pss_cons (ps_if (PW.pt (pw_or (pt_val (pe_callB call_isi (by rfl) (fr_isinstance T) (by decide +kernel) (pa_cons (pv 1) (pa_cons (pe_bty (n := "bool") (by rfl) (fr_bool T) (by decide +kernel)) pa_nil)))) (pw_or1 (pt_val (pe_callB call_isi (by rfl) (fr_isinstance T) (by decide +kernel) (pa_cons (pv 0) (pa_cons (pe_bty (n := "bool") (by rfl) (fr_bool T) (by decide +kernel)) pa_nil))))))) (pss_one (ps_ret (pe_and (pe_callB call_isi (by rfl) (fr_isinstance T) (by decide +kernel) (pa_cons (pv 1) (pa_cons (pe_bty (n := "bool") (by rfl) (fr_bool T) (by decide +kernel)) pa_nil))) (pe_and (pe_callB call_isi (by rfl) (fr_isinstance T) (by decide +kernel) (pa_cons (pv 0) (pa_cons (pe_bty (n := "bool") (by rfl) (fr_bool T) (by decide +kernel)) pa_nil))) (pe_one (pe_cmpR (op_eqD hr.units) (pv 0) (pv 1) (nomark _))))))) pss_nil)
    (pss_cons (ps_if (pt_val (pe_callB call_isiT (by rfl) (fr_isinstance T) (by decide +kernel) (pa_cons (pv 1) (pa_cons (pe_tup (pa_cons (pe_bty (n := "int") (by rfl) (fr_int T) (by decide +kernel)) (pa_cons (pe_bty (n := "str") (by rfl) (fr_str T) (by decide +kernel)) pa_nil))) pa_nil)))) (pss_one (ps_ret (pe_and (pe_callB call_isiT (by rfl) (fr_isinstance T) (by decide +kernel) (pa_cons (pv 0) (pa_cons (pe_tup (pa_cons (pe_bty (n := "int") (by rfl) (fr_int T) (by decide +kernel)) (pa_cons (pe_bty (n := "str") (by rfl) (fr_str T) (by decide +kernel)) pa_nil))) pa_nil))) (pe_and (pe_cmpR (op_eqD hr.units) (pe_callB call_isi (by rfl) (fr_isinstance T) (by decide +kernel) (pa_cons (pv 0) (pa_cons (pe_bty (n := "int") (by rfl) (fr_int T) (by decide +kernel)) pa_nil))) (pe_callB call_isi (by rfl) (fr_isinstance T) (by decide +kernel) (pa_cons (pv 1) (pa_cons (pe_bty (n := "int") (by rfl) (fr_int T) (by decide +kernel)) pa_nil))) (nomark _)) (pe_one (pe_cmpR (op_eqD hr.units) (pv 0) (pv 1) (nomark _))))))) pss_nil)
    (pss_cons (ps_if (PW.pt (pw_or (pt_cmpR (op_neD hr.units) (pe_callB call_isi (by rfl) (fr_isinstance T) (by decide +kernel) (pa_cons (pv 1) (pa_cons (pe_bty (n := "list") (by rfl) (fr_list T) (by decide +kernel)) pa_nil))) (pe_callB call_isi (by rfl) (fr_isinstance T) (by decide +kernel) (pa_cons (pv 0) (pa_cons (pe_bty (n := "list") (by rfl) (fr_list T) (by decide +kernel)) pa_nil))) (nomark _)) (pw_or1 (pt_cmpR (op_neD hr.units) (pe_callB call_isi (by rfl) (fr_isinstance T) (by decide +kernel) (pa_cons (pv 1) (pa_cons (pe_bty (n := "tuple") (by rfl) (fr_tuple T) (by decide +kernel)) pa_nil))) (pe_callB call_isi (by rfl) (fr_isinstance T) (by decide +kernel) (pa_cons (pv 0) (pa_cons (pe_bty (n := "tuple") (by rfl) (fr_tuple T) (by decide +kernel)) pa_nil))) (nomark _))))) (pss_one (ps_ret pe_bl)) pss_nil)
    (pss_cons (ps_if (PW.pt (pw_or (pt_not (pt_val (pe_callB call_isiT (by rfl) (fr_isinstance T) (by decide +kernel) (pa_cons (pv 0) (pa_cons (pe_tup (pa_cons (pe_bty (n := "list") (by rfl) (fr_list T) (by decide +kernel)) (pa_cons (pe_bty (n := "tuple") (by rfl) (fr_tuple T) (by decide +kernel)) pa_nil))) pa_nil))))) (pw_or1 (pt_cmpR (op_neD hr.units) (pe_callB call_lenA (by rfl) (fr_len T) (by decide +kernel) (pa_cons (pv 0) pa_nil)) (pe_callB call_lenA (by rfl) (fr_len T) (by decide +kernel) (pa_cons (pv 1) pa_nil)) (nomark _))))) (pss_one (ps_ret pe_bl)) pss_nil)
    (pss_one (ps_ret (pe_callB (cr_all (by rfl)) (by rfl) (fr_all T) (by decide +kernel) (pa_cons (pe_lc (own := [("_law_spot", 2)]) (g := (gName 2)) (tt := tYes)  (by rfl) sc__law_same.nd (pi_range1 (by rfl) (fr_range T) (pa_cons (pe_callB call_lenA (by rfl) (fr_len T) (by decide +kernel) (pa_cons (pv 1) pa_nil)) pa_nil)) (blkOk_by (own := [("_law_spot", 2)]) (N := ["_law_found", "_law_due", "_law_spot"]) (sc := defScope s__law_same) (by decide +kernel)) (fun _ _ _ _ _ => (pg_name (i := 2) sc__law_same.nd rfl (by first | exact Or.inl rfl | exact Or.inr rfl))) (fun _ _ _ _ _ => pts_nil) (fun _ _ _ _ _ => (pe_call ih (hr.mono (by first | decide | omega)) (by rfl) (g__law_same T) (kp__law_same T) (b__law_same T) .nil passL (pa_cons (pe_ix (show IxR _ (rIx K) from ix_seq) (pv 0) (pv 2) (fun _ _ => rfl)) (pa_cons (pe_ix (show IxR _ (rIx K) from ix_seq) (pv 1) (pv 2) (fun _ _ => rfl)) pa_nil))))) pa_nil))))))))), ?_⟩
    exact spD_run (K := K) (mg := mg) (E := E) (np := 2) (n := 1) rfl (ds_seq (ds_if (dt_test (DE.q (de_op od_is dq_var (DE.q de_non)))) (ds_ret (de_op od_is dq_var (DE.q de_non))) ds_next)
    (ds_seq (ds_if (dt_or (dt_b (DE.q (de_CB cd_isi (db_cons dq_var (db_cons (DE.q de_raw) db_nil))))) (dt_b (DE.q (de_CB cd_isi (db_cons dq_var (db_cons (DE.q de_raw) db_nil)))))) (ds_ret (de_and (DE.q (de_CB cd_isi (db_cons dq_var (db_cons (DE.q de_raw) db_nil)))) (de_and (DE.q (de_CB cd_isi (db_cons dq_var (db_cons (DE.q de_raw) db_nil)))) (de_op od_eq dq_var dq_var)))) ds_next)
    (ds_seq (ds_if (dt_b (DE.q (de_isi2 (by decide) (by decide) dq_var))) (ds_ret (de_and (DE.q (de_isi2 (by decide) (by decide) dq_var)) (de_and (DE.q (de_op od_eq (DE.q (de_CB cd_isi (db_cons dq_var (db_cons (DE.q de_raw) db_nil)))) (DE.q (de_CB cd_isi (db_cons dq_var (db_cons (DE.q de_raw) db_nil)))))) (de_op od_eq dq_var dq_var)))) ds_next)
    (ds_seq (ds_if (dt_or (dt_test (DE.q (de_op od_ne (DE.q (de_CB cd_isi (db_cons dq_var (db_cons (DE.q de_raw) db_nil)))) (DE.q (de_CB cd_isi (db_cons dq_var (db_cons (DE.q de_raw) db_nil))))))) (dt_test (DE.q (de_op od_ne (DE.q (de_CB cd_isi (db_cons dq_var (db_cons (DE.q de_raw) db_nil)))) (DE.q (de_CB cd_isi (db_cons dq_var (db_cons (DE.q de_raw) db_nil)))))))) (ds_ret de_bl) ds_next)
    (ds_seq (ds_if (dt_or (dt_not (dt_b (DE.q (de_isi2 (by decide) (by decide) dq_var)))) (dt_test (DE.q (de_op od_ne (DE.q (de_CB cd_len (db_cons dq_var db_nil))) (DE.q (de_CB cd_len (db_cons dq_var db_nil))))))) (ds_ret de_bl) ds_next)
    (ds_ret (de_CB cd_all (db_cons (DE.q (de_lc (E' := E0) (vs := [2]) (di_rng1 (db_cons (DE.q (de_CB cd_len (db_cons dq_var db_nil))) db_nil)) dg_name (by decide) dt_yes (de_call (fun _ _ _ _ => .nil) (da_cons (de_op od_ix dq_var dq_var) (da_cons (de_op od_ix dq_var dq_var) da_nil))))) db_nil)))))))) h
/-! ### _law_signs -/
theorem ok__law_signs (T : Txt w K mg) : FnOk P w K mg base (L2.CX P w) 3 (He.fAd K ("_law_signs", none)) (fdF K ("_law_signs", none)) ["_law_bag_here", "_law_cap"] (spD ⟨P, w, ls⟩ K mg m__law_signs) := by
  refine (F__law_signs T).ok (k := 2) sc__law_signs (fun vs H Q E h => spD_len h) (fun cdv A outer s H vs Q E hr h => ?_)
  refine ⟨_, (pss_cons (ps_set (i := 2) sc__law_signs.nd rfl (by first | exact Or.inl rfl | exact Or.inr rfl) (pe_callTy (call_list_text (by rfl)) (by rfl) (fr_list T) (by decide +kernel) (pa_cons pe_str pa_nil)))
    (pss_cons (ps_if (pt_cmpR (op_eqD hr.units) (pe_call (@ok__law_pick P w ls K mg base T) (hr.mono (by first | decide | omega)) (by rfl) (g__law_pick T) (kp__law_pick T) (b__law_pick T) .nil (passes_call (takes_of rfl rfl rfl rfl) (fun _ _ _ _ h => h)) (pa_cons (pv 0) (pa_cons pe_int pa_nil))) pe_int (nomark _)) (pss_one (ps_set (i := 2) sc__law_signs.nd rfl (by first | exact Or.inl rfl | exact Or.inr rfl) (pe_slice sl_list (pv 2) po_none (po_some pe_int)))) pss_nil)
    (pss_one (ps_ret (pe_joinN pe_str (pe_callB cr_sortedS (by rfl) (fr_sorted T) (by decide +kernel) (pa_cons (pe_slice sl_list (pe_call (@ok__law_shuffled P w ls K mg base T) (hr.mono (by first | decide | omega)) (by rfl) (g__law_shuffled T) (kp__law_shuffled T) (b__law_shuffled T) .nil (passes_call (takes_of rfl rfl rfl rfl) (fun _ _ _ _ h => h)) (pa_cons (pv 0) (pa_cons (pv 2) pa_nil))) po_none (po_some (pe_op op_addX pe_int (pe_call (@ok__law_pick P w ls K mg base T) (hr.mono (by first | decide | omega)) (by rfl) (g__law_pick T) (kp__law_pick T) (b__law_pick T) .nil (passes_call (takes_of rfl rfl rfl rfl) (fun _ _ _ _ h => h)) (pa_cons (pv 0) (pa_cons (pv 1) pa_nil)))))) pa_nil))))))), ?_⟩
  exact spD_run (K := K) (mg := mg) (E := E) (np := 2) (n := 1) rfl (ds_seq (ds_asg (de_CB cd_listText (db_cons (DE.q (de_str (by decide +kernel))) db_nil)) dg_name)
    (ds_seq (ds_if (dt_test (DE.q (de_op od_eq (DE.q (de_call (fun _ _ _ _ => .nil) (da_cons de_var (da_cons de_int da_nil)))) (DE.q de_int)))) (ds_asg (de_sl sd_list dq_var do_no (do_some (DE.q de_int))) dg_name) ds_next)
    (ds_ret (de_join (DE.q (de_str (by decide +kernel))) (DE.q (de_CB cd_sortS (db_cons (DE.q (de_sl sd_list (DE.q (de_call (fun _ _ _ _ => .nil) (da_cons de_var (da_cons de_var da_nil)))) do_no (do_some (DE.q (de_op od_add (DE.q de_int) (DE.q (de_call (fun _ _ _ _ => .nil) (da_cons de_var (da_cons de_var da_nil))))))))) db_nil))))))) h
/-! ### _law_names -/
theorem ok__law_names (T : Txt w K mg) : FnOk P w K mg base (L2.CX P w) 3 (He.fAd K ("_law_names", none)) (fdF K ("_law_names", none)) ["_law_bag_here", "_law_many"] (spD ⟨P, w, ls⟩ K mg m__law_names) := by
  refine (F__law_names T).ok (k := 2) sc__law_names (fun vs H Q E h => spD_len h) (fun cdv A outer s H vs Q E hr h => ?_)
  refine ⟨_, (pss_cons (ps_if (pt_cmpR (op_eqD hr.units) (pe_call (@ok__law_pick P w ls K mg base T) (hr.mono (by first | decide | omega)) (by rfl) (g__law_pick T) (kp__law_pick T) (b__law_pick T) .nil (passes_call (takes_of rfl rfl rfl rfl) (fun _ _ _ _ h => h)) (pa_cons (pv 0) (pa_cons pe_int pa_nil))) pe_int (nomark _)) (pss_one (ps_ret (pe_call (@ok__law_shuffled P w ls K mg base T) (hr.mono (by first | decide | omega)) (by rfl) (g__law_shuffled T) (kp__law_shuffled T) (b__law_shuffled T) .nil (passes_call (takes_of rfl rfl rfl rfl) (fun _ _ _ _ h => h)) (pa_cons (pv 0) (pa_cons (pe_listRg (by rfl) (by rfl) (fr_list T) (prg_1 (by rfl) (fr_range T) (pv 1))) pa_nil))))) pss_nil)
    (pss_cons (ps_asg (pe_tupF (pa_cons (pe_call (@ok__law_pick P w ls K mg base T) (hr.mono (by first | decide | omega)) (by rfl) (g__law_pick T) (kp__law_pick T) (b__law_pick T) .nil (passes_call (takes_of rfl rfl rfl rfl) (fun _ _ _ _ h => h)) (pa_cons (pv 0) (pa_cons (pe_op op_pow pe_int pe_int) pa_nil))) (pa_cons (pe_op op_addX pe_int (pe_call (@ok__law_pick P w ls K mg base T) (hr.mono (by first | decide | omega)) (by rfl) (g__law_pick T) (kp__law_pick T) (b__law_pick T) .nil (passes_call (takes_of rfl rfl rfl rfl) (fun _ _ _ _ h => h)) (pa_cons (pv 0) (pa_cons (pe_op op_pow pe_int pe_int) pa_nil)))) pa_nil))) (pg_tup (by rfl) (pgs_cons (pg_name (i := 2) sc__law_names.nd rfl (by first | exact Or.inl rfl | exact Or.inr rfl)) (pgs_cons (pg_name (i := 3) sc__law_names.nd rfl (by first | exact Or.inl rfl | exact Or.inr rfl)) pgs_nil))))
    (pss_one (ps_ret (pe_call (@ok__law_shuffled P w ls K mg base T) (hr.mono (by first | decide | omega)) (by rfl) (g__law_shuffled T) (kp__law_shuffled T) (b__law_shuffled T) .nil (passes_call (takes_of rfl rfl rfl rfl) (fun _ _ _ _ h => h)) (pa_cons (pv 0) (pa_cons (pe_lc (own := [("_law_k", 4)]) (g := (gName 4)) (tt := tYes)  (by rfl) sc__law_names.nd (pi_range1 (by rfl) (fr_range T) (pa_cons (pv 1) pa_nil)) (blkOk_by (own := [("_law_k", 4)]) (N := ["_law_bag_here", "_law_many", "_law_base", "_law_step", "_law_k"]) (sc := defScope s__law_names) (by decide +kernel)) (fun _ _ _ _ _ => (pg_name (i := 4) sc__law_names.nd rfl (by first | exact Or.inl rfl | exact Or.inr rfl))) (fun _ _ _ _ _ => pts_nil) (fun _ _ _ _ _ => (pe_op (show OpR _ (binaryOp .Add) (rAddX K) from op_addX) (pv 2) (pe_op op_mul (pv 4) (pv 3))))) pa_nil))))))), ?_⟩
  exact spD_run (K := K) (mg := mg) (E := E) (np := 2) (n := 3) rfl (ds_seq (ds_if (dt_test (DE.q (de_op od_eq (DE.q (de_call (fun _ _ _ _ => .nil) (da_cons de_var (da_cons de_int da_nil)))) (DE.q de_int)))) (ds_ret (de_call (fun _ _ _ _ => .nil) (da_cons de_var (da_cons (de_lstR1 dq_var) da_nil)))) ds_next)
    (ds_seq (ds_asg (de_tup (da_cons (de_call (fun _ _ _ _ => .nil) (da_cons de_var (da_cons (de_op (od_I fun _ _ _ _ _ _ => .int _) (DE.q de_int) (DE.q de_int)) da_nil))) (da_cons (de_op od_add (DE.q de_int) (DE.q (de_call (fun _ _ _ _ => .nil) (da_cons de_var (da_cons (de_op (od_I fun _ _ _ _ _ _ => .int _) (DE.q de_int) (DE.q de_int)) da_nil))))) da_nil))) (dg_tup (dgs_cons dg_name (dgs_cons dg_name dgs_nil)) (mgn_cons (mgn_cons mgn_nil mgp_name) mgp_name)))
    (ds_ret (de_call (fun _ _ _ _ => .nil) (da_cons de_var (da_cons (de_lc (E' := E0) (vs := [4]) (di_rng1 (db_cons dq_var db_nil)) dg_name (by decide) dt_yes (de_op od_add dq_var (DE.q (de_op (od_I fun _ _ _ _ _ _ => .int _) dq_var dq_var)))) da_nil)))))) h
/-! ### _law_row -/
theorem ok__law_row (T : Txt w K mg) : FnOk P w K mg base (L2.CX P w) 4 (He.fAd K ("_law_row", none)) (fdF K ("_law_row", none)) ["_law_bag_here", "_law_kinds", "_law_cap"] (spD ⟨P, w, ls⟩ K mg m__law_row) := by
  refine (F__law_row T).ok (k := 3) sc__law_row (fun vs H Q E h => spD_len h) (fun cdv A outer s H vs Q E hr h => ?_)
  refine ⟨_, (pss_cons (ps_set (i := 3) sc__law_row.nd rfl (by first | exact Or.inl rfl | exact Or.inr rfl) (pe_call (@ok__law_names P w ls K mg base T) (hr.mono (by first | decide | omega)) (by rfl) (g__law_names T) (kp__law_names T) (b__law_names T) .nil (passes_call (takes_of rfl rfl rfl rfl) (fun _ _ _ _ h => h)) (pa_cons (pv 0) (pa_cons (pe_op op_addX pe_int (pe_call (@ok__law_pick P w ls K mg base T) (hr.mono (by first | decide | omega)) (by rfl) (g__law_pick T) (kp__law_pick T) (b__law_pick T) .nil (passes_call (takes_of rfl rfl rfl rfl) (fun _ _ _ _ h => h)) (pa_cons (pv 0) (pa_cons pe_int pa_nil)))) pa_nil))))
    (pss_one (ps_ret (pe_lc (own := [("_law_k", 4)]) (g := (gName 4)) (tt := tYes)  (by rfl) sc__law_row.nd (pi_range1 (by rfl) (fr_range T) (pa_cons (pe_call (@ok__law_pick P w ls K mg base T) (hr.mono (by first | decide | omega)) (by rfl) (g__law_pick T) (kp__law_pick T) (b__law_pick T) .nil (passes_call (takes_of rfl rfl rfl rfl) (fun _ _ _ _ h => h)) (pa_cons (pv 0) (pa_cons (pe_op op_addX (pv 2) pe_int) pa_nil))) pa_nil)) (blkOk_by (own := [("_law_k", 4)]) (N := ["_law_bag_here", "_law_kinds", "_law_cap", "_law_pool", "_law_k"]) (sc := defScope s__law_row) (by decide +kernel)) (fun _ _ _ _ _ => (pg_name (i := 4) sc__law_row.nd rfl (by first | exact Or.inl rfl | exact Or.inr rfl))) (fun _ _ _ _ _ => pts_nil) (fun _ _ _ _ _ => (pe_tupF (pa_cons (pe_call (@ok__law_of P w ls K mg base T) (hr.mono (by first | decide | omega)) (by rfl) (g__law_of T) (kp__law_of T) (b__law_of T) .nil passL (pa_cons (pv 0) (pa_cons (pv 1) pa_nil))) (pa_cons (pe_call (@ok__law_of P w ls K mg base T) (hr.mono (by first | decide | omega)) (by rfl) (g__law_of T) (kp__law_of T) (b__law_of T) .nil passL (pa_cons (pv 0) (pa_cons (pv 3) pa_nil))) pa_nil)))))))), ?_⟩
  exact spD_run (K := K) (mg := mg) (E := E) (np := 3) (n := 2) rfl (ds_seq (ds_asg (de_call (fun _ _ _ _ => .nil) (da_cons de_var (da_cons (de_op od_add (DE.q de_int) (DE.q (de_call (fun _ _ _ _ => .nil) (da_cons de_var (da_cons de_int da_nil))))) da_nil))) dg_name)
    (ds_ret (de_lc (E' := E0) (vs := [4]) (di_rng1 (db_cons (DE.q (de_call (fun _ _ _ _ => .nil) (da_cons de_var (da_cons (de_op od_add dq_var (DE.q de_int)) da_nil)))) db_nil)) dg_name (by decide) dt_yes (de_tup (da_cons (de_call (fun _ _ _ _ => .nil) (da_cons de_var (da_cons de_var da_nil))) (da_cons (de_call (fun _ _ _ _ => .nil) (da_cons de_var (da_cons de_var da_nil))) da_nil)))))) h
/-! ### law -/
theorem ok_law (hm : m_law ([.un, .va .bag] ++ List.replicate 16 .un) [] okEnds) (T : Txt w K mg) (B : TabAll K mg base) : FnOk P w K mg base (L2.CX P w) 71 (He.fAd K ("law", none)) (fdF K ("law", none)) ["_law_script"] (sp_law K (tabsOf K)) := by
  refine funD_okC (k := 70) (F_law T) sc_law (fun vs H Q E h => by obtain ⟨_, _, rfl, _⟩ := h; rfl) (fun cdv A outer s H vs Q E hcd hr h => ?_)
  have TB : TbAt (cxOf (L2.CX P w) P w K mg base ["_law_script", "_law_bag_here", "_law_turn", "_law_kinds", "_law_row_here", "_law_names_here", "_law_goals", "_law_by", "_law_name", "_law_handed", "_law_told", "_law_images", "_law_bad", "_law_due", "_law_found", "_law_at", "_law_kind", "_law_own"] "law" (defScope s_law) (He.fAd K ("law", none)) cdv A outer s H E) (tabsOf K) := by
    obtain ⟨c, p, h1, h2, h3, h4⟩ := tbAt_of B (lamk T)
    exact ⟨⟨c, p, h1, by rw [hcd] at h2; exact h2, h3, h4⟩⟩
  refine ⟨_, (pss_cons (ps_set (i := 1) sc_law.nd rfl (by first | exact Or.inl rfl | exact Or.inr rfl) (pe_call (okh__law_bag T) (hr.mono (by first | decide | omega)) (by rfl) (g__law_bag T) (kp__law_bag T) (b__law_bag T) .nil (passes_call (takes_of rfl rfl rfl rfl) (fun _ _ _ _ h => h)) (pa_cons (pv 0) pa_nil)))
    (pss_cons (ps_for (passes_of rfl) (by rfl) (pi_range1 (by rfl) (fr_range T) (pa_cons pe_int pa_nil)) (pg_name (i := 2) sc_law.nd rfl (by first | exact Or.inl rfl | exact Or.inr rfl)) (pss_cons (ps_set (i := 3) sc_law.nd rfl (by first | exact Or.inl rfl | exact Or.inr rfl) (pe_call (@ok__law_signs P w [] K mg base T) (hr.mono (by first | decide | omega)) (by rfl) (g__law_signs T) (kp__law_signs T) (b__law_signs T) .nil (passes_call (takes_of rfl rfl rfl rfl) (fun _ _ _ _ h => h)) (pa_cons (pv 1) (pa_cons pe_int pa_nil))))
    (pss_cons (ps_set (i := 4) sc_law.nd rfl (by first | exact Or.inl rfl | exact Or.inr rfl) (pe_call (@ok__law_row P w [] K mg base T) (hr.mono (by first | decide | omega)) (by rfl) (g__law_row T) (kp__law_row T) (b__law_row T) .nil (passes_call (takes_of rfl rfl rfl rfl) (fun _ _ _ _ h => h)) (pa_cons (pv 1) (pa_cons (pv 3) (pa_cons pe_int pa_nil)))))
    (pss_cons (ps_set (i := 5) sc_law.nd rfl (by first | exact Or.inl rfl | exact Or.inr rfl) (pe_callB (cr_sort2 (by rfl)) (by rfl) (fr_sorted T) (by decide +kernel) (pa_cons (pe_callTy (cr_setA (by rfl)) (by rfl) (fr_set T) (by decide +kernel) (pa_cons (pe_lc (own := [("_law_kind", 16), ("_law_name", 8)]) (g := (gTup K 2 (gCons (gName 16) (gCons (gName 8) gNil)))) (tt := tYes)  (by rfl) sc_law.nd (pi_list (pv 4)) (blkOk_by (own := [("_law_kind", 16), ("_law_name", 8)]) (N := ["_law_script", "_law_bag_here", "_law_turn", "_law_kinds", "_law_row_here", "_law_names_here", "_law_goals", "_law_by", "_law_name", "_law_handed", "_law_told", "_law_images", "_law_bad", "_law_due", "_law_found", "_law_at", "_law_kind", "_law_own"]) (sc := defScope s_law) (by decide +kernel)) (fun _ _ _ _ _ => (pg_tup (by rfl) (pgs_cons (pg_name (i := 16) sc_law.nd rfl (by first | exact Or.inl rfl | exact Or.inr rfl)) (pgs_cons (pg_name (i := 8) sc_law.nd rfl (by first | exact Or.inl rfl | exact Or.inr rfl)) pgs_nil)))) (fun _ _ _ _ _ => pts_nil) (fun _ _ _ _ _ => (pv 8))) pa_nil)) pa_nil)))
    (pss_cons (ps_set (i := 6) sc_law.nd rfl (by first | exact Or.inl rfl | exact Or.inr rfl) (pe_call (@ok__law_shuffled P w [] K mg base T) (hr.mono (by first | decide | omega)) (by rfl) (g__law_shuffled T) (kp__law_shuffled T) (b__law_shuffled T) .nil (passes_call (takes_of rfl rfl rfl rfl) (fun _ _ _ _ h => h)) (pa_cons (pv 1) (pa_cons (pe_op op_addX (pv 5) (pe_call (@ok__law_names P w [] K mg base T) (hr.mono (by first | decide | omega)) (by rfl) (g__law_names T) (kp__law_names T) (b__law_names T) .nil (passes_call (takes_of rfl rfl rfl rfl) (fun _ _ _ _ h => h)) (pa_cons (pv 1) (pa_cons pe_int pa_nil)))) pa_nil))))
    (pss_cons (ps_set (i := 7) sc_law.nd rfl (by first | exact Or.inl rfl | exact Or.inr rfl) pe_dnewK)
    (pss_cons (ps_for (passes_of rfl) (by rfl) (pi_list (pv 5)) (pg_name (i := 8) sc_law.nd rfl (by first | exact Or.inl rfl | exact Or.inr rfl)) (pss_one (ps_if (pt_cmpR op_gt (pe_call (@ok__law_pick P w [] K mg base T) (hr.mono (by first | decide | omega)) (by rfl) (g__law_pick T) (kp__law_pick T) (b__law_pick T) .nil (passes_call (takes_of rfl rfl rfl rfl) (fun _ _ _ _ h => h)) (pa_cons (pv 1) (pa_cons pe_int pa_nil))) pe_int (nomark _)) (pss_one (ps_xput (ls := []) hr.units (pv 7) (pv 8) (pe_ifExp (pt_cmpR (op_eqD hr.units) (pe_call (@ok__law_pick P w [] K mg base T) (hr.mono (by first | decide | omega)) (by rfl) (g__law_pick T) (kp__law_pick T) (b__law_pick T) .nil (passes_call (takes_of rfl rfl rfl rfl) (fun _ _ _ _ h => h)) (pa_cons (pv 1) (pa_cons pe_int pa_nil))) pe_int (nomark _)) (pe_call (@ok__law_of P w [] K mg base T) (hr.mono (by first | decide | omega)) (by rfl) (g__law_of T) (kp__law_of T) (b__law_of T) .nil (passes_call (takes_of rfl rfl rfl rfl) (fun _ _ _ _ h => h)) (pa_cons (pv 1) (pa_cons (pv 6) pa_nil))) (pe_ix ix_seq (pv 6) (pe_bm PySem.F.plainAttrs_list PySem.F.slot_list_index PySem.F.type_list_index mt_index (pv 5) (pa_cons (pv 8) pa_nil)) (fun _ _ => rfl))) rfl)) pss_nil)))
    (pss_frz (i := 7) (pss_cons (ps_asg (pe_tupF (pa_cons (pe_callTy call_listOf (by rfl) (fr_list T) (by decide +kernel) (pa_cons (pv 4) pa_nil)) (pa_cons (pe_callTy (show CallR _ (.type "dict") (rDictX P w) from call_dictX) (by rfl) (fr_dict T) (by decide +kernel) (pa_cons (pv 7) pa_nil)) pa_nil))) (pg_tup (by rfl) (pgs_cons (pg_name (i := 9) sc_law.nd rfl (by first | exact Or.inl rfl | exact Or.inr rfl)) (pgs_cons (pg_name (i := 10) sc_law.nd rfl (by first | exact Or.inl rfl | exact Or.inr rfl)) pgs_nil))))
    (pss_cons (ps_set (i := 11) sc_law.nd rfl (by first | exact Or.inl rfl | exact Or.inr rfl) (pe_lc (own := [("_law_name", 8)]) (g := (gName 8)) (tt := tYes)  (by rfl) sc_law.nd (pi_list (pv 5)) (blkOk_by (own := [("_law_name", 8)]) (N := ["_law_script", "_law_bag_here", "_law_turn", "_law_kinds", "_law_row_here", "_law_names_here", "_law_goals", "_law_by", "_law_name", "_law_handed", "_law_told", "_law_images", "_law_bad", "_law_due", "_law_found", "_law_at", "_law_kind", "_law_own"]) (sc := defScope s_law) (by decide +kernel)) (fun _ _ _ _ _ => (pg_name (i := 8) sc_law.nd rfl (by first | exact Or.inl rfl | exact Or.inr rfl))) (fun _ _ _ _ _ => pts_nil) (fun _ _ _ _ _ => (show PE _ _ (tXGet2 ⟨P, w, []⟩ K _ _ _) from (pe_xget2 (ls := []) hr.units (pv 7) (pv 8) (pv 8) (by constructor <;> rfl))))))
    (pss_cons (ps_setLc (i := 12) (own := [("_law_at", 15)]) (g := (gName 15))  (by rfl) sc_law.nd rfl rfl (sw_true rfl rfl rfl (by decide +kernel)) (pi_range1 (by rfl) (fr_range T) (pa_cons (pe_callB call_lenA (by rfl) (fr_len T) (by decide +kernel) (pa_cons (pv 5) pa_nil)) pa_nil)) (blkOk_by (own := [("_law_at", 15)]) (N := ["_law_script", "_law_bag_here", "_law_turn", "_law_kinds", "_law_row_here", "_law_names_here", "_law_goals", "_law_by", "_law_name", "_law_handed", "_law_told", "_law_images", "_law_bad", "_law_due", "_law_found", "_law_at", "_law_kind", "_law_own"]) (sc := defScope s_law) (by decide +kernel)) (fun _ _ _ _ _ => (pg_name (i := 15) sc_law.nd rfl (by first | exact Or.inl rfl | exact Or.inr rfl))) (fun _ _ _ _ _ => (pts_one (pt_cmpR (show OpR _ (compareOp .In) (rInX K) from op_inX) (pe_ix (show IxR _ (rIx K) from ix_seq) (pv 11) (pv 15) (fun _ _ => rfl)) (pe_slice (show SlR _ (rSlL K) from sl_list) (pv 11) po_none (po_some (pv 15))) (by rfl)))) (fun _ _ _ _ _ => (pe_ix (show IxR _ (rIx K) from ix_seq) (pv 5) (pv 15) (fun _ _ => rfl))))
    (pss_cons (ps_if (pt_cmpR (op_neD hr.units) (pv 12) (pe_lst pa_nil) (nomark _)) (pss_one (ps_if (pt_not (pt_val (pe_call (@ok__law_same P w [] K mg base T 70) (hr.mono (by first | decide | omega)) (by rfl) (g__law_same T) (kp__law_same T) (b__law_same T) .nil (passes_call (takes_of rfl rfl rfl rfl) (fun _ _ _ _ h => h)) (pa_cons (pe_lamN (k := 68) (F__law_value T) (b__law_value T) sc__law_value rfl (by first | exact Or.inl rfl | exact Or.inr (Or.inl rfl)) rfl (g__law_value T) (fun cdg => gl__law_value T) (hr.mono (by decide)) TB (lamP_by (show lamPB ["_law_script", "_law_bag_here", "_law_turn", "_law_kinds", "_law_row_here", "_law_names_here", "_law_goals", "_law_by", "_law_name", "_law_handed", "_law_told", "_law_images", "_law_bad", "_law_due", "_law_found", "_law_at", "_law_kind", "_law_own"] (defScope s_law) _ = true by decide +kernel)) rfl (fun _ _ _ _ _ _ => rfl) (fun _ _ _ _ _ _ _ hr => (pe_call (@ok_renamed P w [] K mg base T) (hr.mono (by first | decide | omega)) (by rfl) (g_renamed T) (kp_renamed T) (b_renamed T) .nil (passes_call (takes_of rfl rfl rfl rfl) (fun _ _ _ _ h => h)) (pa_cons (pv 3) (pa_cons (pv 9) (pa_cons (pv 10) pa_nil)))))) (pa_cons (pe_tupF (pa_cons pe_str (pa_cons (pe_ix ix_seq (pv 12) pe_int (fun _ _ => rfl)) pa_nil))) pa_nil))))) (pss_one (ps_ret pe_bl)) pss_nil)) (pss_cons (ps_setLc (i := 13) (own := [("_law_kind", 16), ("_law_name", 8)]) (g := (gTup K 2 (gCons (gName 16) (gCons (gName 8) gNil)))) (tt := tYes)  (by rfl) sc_law.nd rfl rfl (sw_true rfl rfl rfl (by decide +kernel)) (pi_list (pv 4)) (blkOk_by (own := [("_law_kind", 16), ("_law_name", 8)]) (N := ["_law_script", "_law_bag_here", "_law_turn", "_law_kinds", "_law_row_here", "_law_names_here", "_law_goals", "_law_by", "_law_name", "_law_handed", "_law_told", "_law_images", "_law_bad", "_law_due", "_law_found", "_law_at", "_law_kind", "_law_own"]) (sc := defScope s_law) (by decide +kernel)) (fun _ _ _ _ _ => (pg_tup (by rfl) (pgs_cons (pg_name (i := 16) sc_law.nd rfl (by first | exact Or.inl rfl | exact Or.inr rfl)) (pgs_cons (pg_name (i := 8) sc_law.nd rfl (by first | exact Or.inl rfl | exact Or.inr rfl)) pgs_nil)))) (fun _ _ _ _ _ => pts_nil) (fun _ _ _ _ _ => (pe_tupF (pa_cons (pv 16) (pa_cons (show PE _ _ (tXGet2 ⟨P, w, []⟩ K _ _ _) from (pe_xget2 (ls := []) hr.units (pv 7) (pv 8) (pv 8) (by constructor <;> rfl))) pa_nil)))))
    (pss_cons (ps_set (i := 14) sc_law.nd rfl (by first | exact Or.inl rfl | exact Or.inr rfl) (pe_call (@ok_renamed P w [] K mg base T) (hr.mono (by first | decide | omega)) (by rfl) (g_renamed T) (kp_renamed T) (b_renamed T) .nil (passes_call (takes_of rfl rfl rfl rfl) (fun _ _ _ _ h => h)) (pa_cons (pv 3) (pa_cons (pv 9) (pa_cons (pv 10) pa_nil)))))
    (pss_cons (ps_expr (show PE _ _ (tXClr ⟨P, w, []⟩ K _) from pe_xclr (ls := []) (pv 10)))
    (pss_cons (ps_if (pt_not (pt_val (pe_call (@ok__law_same P w [] K mg base T 70) (hr.mono (by first | decide | omega)) (by rfl) (g__law_same T) (kp__law_same T) (b__law_same T) .nil (passes_call (takes_of rfl rfl rfl rfl) (fun _ _ _ _ h => h)) (pa_cons (pv 14) (pa_cons (pv 13) pa_nil))))) (pss_one (ps_ret pe_bl)) pss_nil)
    (pss_one (ps_set (i := 10) sc_law.nd rfl (by first | exact Or.inl rfl | exact Or.inr rfl) (pe_callTy (show CallR _ (.type "dict") (rDictX P w) from call_dictX) (by rfl) (fr_dict T) (by decide +kernel) (pa_cons (pv 7) pa_nil)))))))))
    (pss_cons (ps_for (passes_of rfl) (by rfl) (pi_list (pe_op op_addX (pv 5) (pe_lst (pa_cons (pe_op op_pow pe_int pe_int) pa_nil)))) (pg_name (i := 8) sc_law.nd rfl (by first | exact Or.inl rfl | exact Or.inr rfl)) (pss_one (ps_if (pt_not (pt_val (pe_call (@ok__law_same P w [] K mg base T 70) (hr.mono (by first | decide | omega)) (by rfl) (g__law_same T) (kp__law_same T) (b__law_same T) .nil (passes_call (takes_of rfl rfl rfl rfl) (fun _ _ _ _ h => h)) (pa_cons (pe_call (@ok_own_kinds P w [] K mg base T) (hr.mono (by first | decide | omega)) (by rfl) (g_own_kinds T) (kp_own_kinds T) (b_own_kinds T) .nil (passes_call (takes_of rfl rfl rfl rfl) (fun _ _ _ _ h => h)) (pa_cons (pv 3) (pa_cons (pv 9) (pa_cons (pv 8) pa_nil)))) (pa_cons (pe_joinN pe_str (pe_lc (own := [("_law_kind", 16), ("_law_own", 17)]) (g := (gTup K 2 (gCons (gName 16) (gCons (gName 17) gNil))))  (by rfl) sc_law.nd (pi_list (pv 4)) (blkOk_by (own := [("_law_kind", 16), ("_law_own", 17)]) (N := ["_law_script", "_law_bag_here", "_law_turn", "_law_kinds", "_law_row_here", "_law_names_here", "_law_goals", "_law_by", "_law_name", "_law_handed", "_law_told", "_law_images", "_law_bad", "_law_due", "_law_found", "_law_at", "_law_kind", "_law_own"]) (sc := defScope s_law) (by decide +kernel)) (fun _ _ _ _ _ => (pg_tup (by rfl) (pgs_cons (pg_name (i := 16) sc_law.nd rfl (by first | exact Or.inl rfl | exact Or.inr rfl)) (pgs_cons (pg_name (i := 17) sc_law.nd rfl (by first | exact Or.inl rfl | exact Or.inr rfl)) pgs_nil)))) (fun _ _ _ _ _ => (pts_one (pt_cmpR (show OpR _ (compareOp .Eq) (rEqD K) from (op_eqD hr.units)) (pv 17) (pv 8) (nomark _)))) (fun _ _ _ _ _ => (pv 16)))) pa_nil))))) (pss_one (ps_ret pe_bl)) pss_nil)))
    (pss_one (ps_if (PW.pt (pw_or (pt_cmpR (op_neD hr.units) (pv 9) (pv 4) (nomark _)) (pw_or1 (pt_cmpR (show OpR _ (compareOp .NotEq) (rDEqX P w true) from op_dNeX hr.units) (pv 10) (pv 7) (nomark _))))) (pss_one (ps_ret pe_bl)) pss_nil)))))))))))))))
    (pss_one (ps_ret pe_bl)))), ?_⟩
  exact law_start (K := K) (mg := mg) (E := E) (n := 16) rfl (ds_seq (ds_for (di_rng1 (db_cons (DE.q de_int) db_nil)) dg_name (ds_seq (ds_asg (de_call (fun _ _ _ _ => .nil) (da_cons de_var (da_cons de_int da_nil))) dg_name)
    (ds_seq (ds_asg (de_call (fun _ _ _ _ => .nil) (da_cons de_var (da_cons de_var (da_cons de_int da_nil)))) dg_name)
    (ds_seq (ds_asg (de_sortX (dx_so (DE.q (de_lc (E' := E0) (vs := [16, 8]) (di_list de_var) (dg_tup (dgs_cons dg_name (dgs_cons dg_name dgs_nil)) (mgn_cons (mgn_cons mgn_nil mgp_name) mgp_name)) (by decide) dt_yes de_var)))) dg_name)
    (ds_seq (ds_asg (de_call (fun _ _ _ _ => .nil) (da_cons de_var (da_cons (de_op od_add dq_var (DE.q (de_call (fun _ _ _ _ => .nil) (da_cons de_var (da_cons de_int da_nil))))) da_nil))) dg_name)
    (ds_seq (ds_own (i := 7) df_dnew)
    (ds_seq (ds_for (di_list de_var) dg_name (ds_if (dt_test (DE.q (de_op (od_I0 fun _ _ _ _ _ _ => .bl _) (DE.q (de_call (fun _ _ _ _ => .nil) (da_cons de_var (da_cons de_int da_nil)))) (DE.q de_int)))) (ds_dput (i := 7) de_var (de_if (dt_test (DE.q (de_op od_eq (DE.q (de_call (fun _ _ _ _ => .nil) (da_cons de_var (da_cons de_int da_nil)))) (DE.q de_int)))) (de_call (fun _ _ _ _ => .nil) (da_cons de_var (da_cons de_var da_nil))) (de_op od_ix dq_var (DE.q (de_lidx de_var dq_var))))) ds_next))
    (ds_frzD 7 (ds_seq (ds_asg (de_tup (da_cons (de_CB cd_listOf (db_cons dq_var db_nil)) (da_cons (de_new (df_dictF dq_var)) da_nil))) (dg_tup (dgs_cons dg_name (dgs_cons dg_name dgs_nil)) (mgn_cons (mgn_cons mgn_nil mgp_name) mgp_name)))
    (ds_seq (ds_asg (de_lc (E' := E0) (vs := [8]) (di_list de_var) dg_name (by decide) dt_yes (de_xget2 dq_var de_var de_var)) dg_name)
    (ds_seq (ds_asg (de_lc (E' := E0) (vs := [15]) (di_rng1 (db_cons (DE.q (de_CB cd_len (db_cons dq_var db_nil))) db_nil)) dg_name (by decide) (dt_test (DE.q (de_op od_in (DE.q (de_op od_ix dq_var dq_var)) (DE.q (de_sl sd_list dq_var do_no (do_some dq_var)))))) (de_op od_ix dq_var dq_var)) dg_name)
    (ds_seq (ds_if (dt_test (DE.q (de_op od_ne dq_var (DE.q (de_lst da_nil))))) (ds_if (dt_not (dt_b (DE.q (de_call (fun _ _ _ _ => .nil) (da_cons (de_lamI (clsD_of (rcs T) (clsV T)) (fun E' => (de_call (fun _ _ _ _ => .nil) (da_cons de_var (da_cons de_var (da_cons de_var da_nil)))))) (da_cons (de_tup (da_cons (de_str (by decide +kernel)) (da_cons (de_op od_ix dq_var (DE.q de_int)) da_nil))) da_nil)))))) (ds_ret de_bl) ds_next) (ds_seq (ds_asg (de_lc (E' := E0) (vs := [16, 8]) (di_list de_var) (dg_tup (dgs_cons dg_name (dgs_cons dg_name dgs_nil)) (mgn_cons (mgn_cons mgn_nil mgp_name) mgp_name)) (by decide) dt_yes (de_tup (da_cons de_var (da_cons (de_xget2 dq_var de_var de_var) da_nil)))) dg_name)
    (ds_seq (ds_asg (de_call (fun _ _ _ _ => .nil) (da_cons de_var (da_cons de_var (da_cons de_var da_nil)))) dg_name)
    (ds_seq (ds_clear de_var)
    (ds_seq (ds_if (dt_not (dt_b (DE.q (de_call (fun _ _ _ _ => .nil) (da_cons de_var (da_cons de_var da_nil)))))) (ds_ret de_bl) ds_next)
    (ds_asg (de_new (df_dictF dq_var)) dg_name))))))
    (ds_seq (ds_for (di_list (de_op od_add dq_var (DE.q (de_lst (da_cons (de_op (od_I fun _ _ _ _ _ _ => .int _) (DE.q de_int) (DE.q de_int)) da_nil))))) dg_name (ds_if (dt_not (dt_b (DE.q (de_call (fun _ _ _ _ => .nil) (da_cons (de_call (fun _ _ _ _ => .nil) (da_cons de_var (da_cons de_var (da_cons de_var da_nil)))) (da_cons (de_join (DE.q (de_str (by decide +kernel))) (DE.q (de_lc (E' := E0) (vs := [16, 17]) (di_list de_var) (dg_tup (dgs_cons dg_name (dgs_cons dg_name dgs_nil)) (mgn_cons (mgn_cons mgn_nil mgp_name) mgp_name)) (by decide) (dt_test (DE.q (de_op od_eq dq_var dq_var))) de_var))) da_nil)))))) (ds_ret de_bl) ds_next))
    (ds_if (dt_or (dt_test (DE.q (de_op od_ne dq_var dq_var))) (dt_test (DE.q (de_deq (neg := true) dq_var dq_var)))) (ds_ret de_bl) ds_next))))))))))))))
    (ds_ret de_bl)) hm h
end
end Nc
namespace Nc
open PySem PySem.Spec PyProof.Rows L2
theorem facts {P : Program} {w : World} {K : PySem.W.Frag} {h : Heap} {mg : Str → Option Value} {f : Addr} (X : K.In h) (G : h.Ns mainGlobals mg) (hfa : mg ("law" : Str) = some (.ref f)) (c : SaysX fa fn exB tbs w K) :
    ∃ fd : FuncData, (∀ (s : Shared) (v : Value), BindsTo s fd ⟨[v], []⟩ [("_law_script", v)]) ∧ ∀ base : Heap, K.In base → base.Ns mainGlobals mg → TabAll K mg base → FnOk P w K mg base (L2.CX P w) 71 f fd ["_law_script"] (sp_law K (tabsOf K)) := by
  have T : Txt w K mg := ⟨c.c, ⟨h, X, G⟩, c.x, c⟩
  have e := hfa.symm.trans (g_law T)
  cases e
  have b := FunD.bindsA (ps := ["_law_script"]) (F_law T) fun _ _ _ _ _ _ us hl => match us, hl with | [_], _ => rfl
  exact ⟨_, fun s v => b s [v] rfl, fun base _ _ B => ok_law law_m T B⟩
theorem walk_nct {l : PySem.W.OpenLaw} {n k : Nat} {q : Program} {loose : List Str} {XP : (Str → Option Value) → Heap → Prop} {YP : World → Heap → Prop} {d : DefRec} {x : Str}
    (hn : l.most = some n) (hn2 : n ≤ sizeLine) (hdf : d.params.defaults = []) (hr : Room k callerA)
    (F : ∀ (w : World) (mg : Str → Option Value) (fa : Addr) (h : Heap), YP w h → h.Ns mainGlobals mg → mg d.name = some (.ref fa) → ∃ K : PySem.W.Frag, K.In h ∧ LamX.LawAtS l w K (L2.CX l.prog w) k n x mg fa h) :
    PySem.W.WalkO q loose XP YP l.row.toRowW d [] (fun f vs => PySem.call f vs) := by
  refine Att.attach_callB hn hdf fun w s₀ s₁ mg mb fa o pm cd doc a vs ns G Y ho hd hcd hmg hobj hints hlen hbits hg => ?_
  obtain ⟨K, KX, fd, cs, sp, hT, nT, C, hb, hsp, hF⟩ := F w mg fa _ Y G.T.g hmg
  exact LamX.law_callTs KX G.T.g G.T.b G.T.builtins G.T.nolimit hg hT nT C G.T.bmain hobj hints (Nat.le_trans hlen hn2) hr hF hb (fun H hH hS => hsp H a ns hlen hbits hH hS) fun H e s' z => by
    obtain ⟨_, _, _, _, _, _, _, _, _, _, _, _, z⟩ := z
    exact z
end Nc
open PySem PySem.W PySem.Calls PyProof.Rows
set_option maxRecDepth 100000 in
set_option maxHeartbeats 0 in
theorem PySem.Challenge.cw_namecote_k04_rows_with_names_told_anew_holds : PySem.Challenge.rw_namecote_k04_rows_with_names_told_anew.Holds := by
  refine Nc.early ?_
  refine Nc.walk_nct (l := PySem.Challenge.rw_namecote_k04_rows_with_names_told_anew) (n := 63) (k := 71) (x := "_law_script") rfl (by decide) Nc.noDef ⟨rfl, by decide, by decide⟩ ?F
  intro w mg fa h Y G hmg0
  obtain ⟨K, KX, c, t⟩ := Y
  have hmg : mg ("law" : PySem.Str) = some (.ref fa) := by
    rw [← Nc.nameLaw]
    exact hmg0
  obtain ⟨fd, hb, hF⟩ := Nc.facts (P := (PySem.Challenge.rw_namecote_k04_rows_with_names_told_anew).prog) (w := w) KX G hmg c
  refine ⟨K, KX, fd, (Nc.tabsL K).map fun t => (t.1, t.2.1), Nc.sp_law K (Nc.tabsOf K), fun p hp => ?_, fun p hp => ?_, fun p hp => ?_, hb, fun H a ns hl _ hT hS => ⟨a, ns, rfl, hS, hl, fun r hr => ?_, fun _ => rfl⟩, fun base h1 h2 h3 => hF base h1 h2 ⟨fun u hu => h3 _ (List.mem_map.mpr ⟨u, hu, rfl⟩), t.uniq⟩⟩
  · obtain ⟨u, hu, rfl⟩ := List.mem_map.mp hp
    exact t.emp u hu
  · obtain ⟨u, hu, rfl⟩ := List.mem_map.mp hp
    exact t.out u hu
  · obtain ⟨u, hu, rfl⟩ := List.mem_map.mp hp
    exact PySem.W.codeHd_of_K KX (t.code u hu)
  · obtain ⟨u, hu, rfl⟩ := List.mem_map.mp hr
    exact LamX.TabS.nil (hT _ (List.mem_map.mpr ⟨u, hu, rfl⟩))

