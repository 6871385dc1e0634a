import PyProof.Rows.All
import Wide.All
import OpenK.AllK
import Wide.FinOn
import KE.KStateDown
import Lean
import HandS.ForMost
import HandS.Exc
import HandS.ExcOwn
import HandS.ExcInit
import HandS.TryOnly
import HandS.TryMany
import HandS.More
import HandS.Words
import HandS.WordsList
import HandS.WordsExc
import HandS.Defaults
import HandS.Wide
import HandS.IsInst
import HandS.SetKeys
import HandS.Strs
import HandS.Conv
import HandS.TupAny
import HandS.Flow
import HandS.SortInts
import HandS.Walk
import HandS.Evl
import HandS.EndBits
import HandS.Head0
import HandS.Head1
import HandS.Head2
import HandS.HeadEnd
import HandS.HeadHook1
import HandS.HeadHook2
import KE.GoesNew
import KE.KUnpackStar
import KE.DataMinMax
import HandS.SortKw
import HandS.ClsMeth
import HandS.HeadHook3
import HandS.Lambda
import HandS.ExcField
import HandS.EndTab
import HandS.Zip
import HandS.FStr
import HandS.RaiseMore
import HandS.Steps
import HandS.Deep
import HandS.TupSets
import HandS.DictComp
import HandS.DictTup
import HandS.Finally
import HandS.OwnEq
import HandS.Style
import KE.KDictKeyed
import KE.KDictWalk
import KE.KDictLaw
import HandS.Small
import HandS.Comp
import PySem.Challenge.RW_namecote_k14_patterns_and_wishes_written
set_option Elab.async false
set_option linter.all false
set_option maxRecDepth 100000
set_option maxHeartbeats 4000000
namespace Nc
open PySem PySem.Spec PyProof.Rows L2
/-! ### stepping a reading -/
section
variable {K : PySem.W.Frag} {σ : L2.St} {H : Hp} {ta tb tc te tx : TE} {x y z v : V} {r r' : R2} {Q : VK} {D : Ends} {t u : TS} {tr : TA}
theorem w_iteT {A B : Prop} {b : Bool} (e : b = true) (h : A) : if b = true then A else B := by rw [if_pos e]; exact h
theorem w_iteF {A B : Prop} {b : Bool} (e : b = false) (h : B) : if b = true then A else B := by rw [if_neg (by rw [e]; exact Bool.false_ne_true)]; exact h
theorem w_iteNT {A B : Prop} (h : B) : if (!true) = true then A else B := h
theorem w_iteNF {A B : Prop} (h : A) : if (!false) = true then A else B := h
theorem w_iteN {A B : Prop} {b : Bool} (h1 : b = false → A) (h2 : b = true → B) : if (!b) = true then A else B := by cases b; exact h1 rfl; exact h2 rfl
theorem w_iteB {A B : Prop} {b : Bool} (h1 : b = true → A) (h2 : b = false → B) : if b = true then A else B := by cases b; exact h2 rfl; exact h1 rfl
theorem w_seq (h : t { D with nx := u D } σ H) : tSeq t u D σ H := h
theorem w_next (h : D.nx σ H) : tNext D σ H := h
theorem w_asg {g : TG} (h : te σ H fun x H1 => g x σ H1 D.nx) : tAsg te g D σ H := h
theorem w_gName {i : Nat} {Q : L2.St → Hp → Prop} (h : Q (σ.set i (some v)) H) : gName i v σ H Q := h
theorem w_ret (h : te σ H D.rt) : tRet te D σ H := h
theorem w_retN (h : D.rt .non H) : tRetN D σ H := h
theorem w_drop (h : te σ H fun _ H1 => D.nx σ H1) : tDrop te D σ H := h
theorem w_if {c : TT} (h : c σ H fun b H1 => if b = true then t D σ H1 else u D σ H1) : tIfS c t u D σ H := h
theorem w_ifE {c : TT} (h : c σ H fun b H1 => if b = true then ta σ H1 Q else tb σ H1 Q) : tIf c ta tb σ H Q := h
theorem w_var {i : Nat} (h : σ[i]? = some (some v)) (q : Q v H) : tVar i σ H Q := ⟨v, h, q⟩
theorem w_c (q : Q v H) : tC v σ H Q := q
theorem w_op (h : ta σ H fun x H1 => tb σ H1 fun y H2 => r x y H2 Q) : tOp r ta tb σ H Q := h
theorem w_un {r : V → Hp → VK → Prop} (h : ta σ H fun x H1 => r x H1 Q) : tUn r ta σ H Q := h
theorem w_cons {Q : List V → Hp → Prop} (h : ta σ H fun x H1 => tr σ H1 fun xs H2 => Q (x :: xs) H2) : tCons ta tr σ H Q := h
theorem w_nil {Q : List V → Hp → Prop} (h : Q [] H) : tNil σ H Q := h
theorem w_CB {r : List V → Hp → VK → Prop} (h : tr σ H fun vs H1 => r vs H1 Q) : tCB r tr σ H Q := h
theorem w_call {sp : Sp} {dvs : List V} {E : XK} (h : tr σ H fun vs H1 => sp (vs ++ dvs) H1 Q E) : tCall sp dvs E tr σ H Q := h
theorem w_tB {Q : Bool → Hp → Prop} (h : te σ H fun x H1 => ∃ c, x = .bl c ∧ Q c H1) : tB te σ H Q := h
theorem w_tTest {Q : Bool → Hp → Prop} (h : te σ H fun x H1 => ∃ c, x = .bl c ∧ Q c H1) : tTest te σ H Q := h
theorem w_bl {b : Bool} {P : Bool → Prop} (h : P b) : ∃ c, V.bl b = .bl c ∧ P c := ⟨b, rfl, h⟩
theorem w_tNot {t : TT} {Q : Bool → Hp → Prop} (h : t σ H fun c H1 => Q (!c) H1) : tNot t σ H Q := h
theorem w_tAnd {t u : TT} {Q : Bool → Hp → Prop} (h : t σ H fun c H1 => if c = true then u σ H1 Q else Q false H1) : tAnd t u σ H Q := h
theorem w_tOr {t u : TT} {Q : Bool → Hp → Prop} (h : t σ H fun c H1 => if c = true then Q true H1 else u σ H1 Q) : tOr t u σ H Q := h
theorem w_andV (h : ta σ H fun x H1 => ∃ c, x = .bl c ∧ if c = true then tb σ H1 Q else Q (.bl false) H1) : tAndV ta tb σ H Q := h
theorem w_orV (h : ta σ H fun x H1 => ∃ c, x = .bl c ∧ if c = true then Q (.bl true) H1 else tb σ H1 Q) : tOrV ta tb σ H Q := h
theorem w_notV (h : ta σ H fun x H1 => ∃ c, x = .bl c ∧ Q (.bl (!c)) H1) : tNotV ta σ H Q := h
theorem w_chain (h : ta σ H fun x H1 => tb σ H1 fun y H2 => r x y H2 fun z H3 => ∃ k, z = .bl k ∧ (if k = true then tc σ H3 fun w' H4 => r' y w' H4 Q else Q (.bl false) H3)) : tChain r r' ta tb tc σ H Q := h
theorem same_new {H : Hp} {p : Addr} {o : HO} (h : H p = none) : Same H (upd H p o) := fun a u e => by
  rw [upd_ne (ne_of_none e h)]; exact e
def newO (o : HO) (H : Hp) (Q : VK) : Prop := ∀ p, H p = none → Q (.ref p) (upd H p o)
def newL (xs : List V) (H : Hp) (Q : VK) : Prop := xs.length ≤ sizeLine ∧ newO (.lst xs) H Q
def newT (xs : List V) (H : Hp) (Q : VK) : Prop := xs.length ≤ sizeLine ∧ newO (.tup xs) H Q
theorem w_tup (h : tr σ H fun xs H1 => newT xs H1 Q) : tTup tr σ H Q := h
theorem w_lst (h : tr σ H fun xs H1 => newL xs H1 Q) : tLst tr σ H Q := h
/-- a new object: its address, the heap behind -/
theorem w_newO {o : HO} (q : ∀ p H', H p = none → Same H H' → H' p = some o → Q (.ref p) H') : newO o H Q := fun p hp => q p _ hp (same_new hp) upd_same
theorem w_newL {xs : List V} (c : xs.length ≤ sizeLine) (q : ∀ p H', H p = none → Same H H' → H' p = some (.lst xs) → Q (.ref p) H') : newL xs H Q := ⟨c, w_newO q⟩
theorem w_newT {xs : List V} (c : xs.length ≤ sizeLine) (q : ∀ p H', H p = none → Same H H' → H' p = some (.tup xs) → Q (.ref p) H') : newT xs H Q := ⟨c, w_newO q⟩
theorem w_slL {a : Addr} {xs : List V} {lo hi : Option Int} (h : SqL K H a xs) (q : ∀ p H', H p = none → Same H H' → H' p = some (.lst (cutV xs lo hi)) → Q (.ref p) H') : rSlL K (.ref a) lo hi H Q := ⟨a, xs, rfl, h, w_newO q⟩
def rListOf (K : PySem.W.Frag) : List V → Hp → VK → Prop := fun xs H Q => ∃ p ys, xs = [.ref p] ∧ (SqL K H p ys ∨ SqT K H p ys) ∧ newO (.lst ys) H Q
theorem w_listOf {a : Addr} {xs : List V} (h : SqL K H a xs ∨ SqT K H a xs) (q : ∀ p H', H p = none → Same H H' → H' p = some (.lst xs) → Q (.ref p) H') : rListOf K [.ref a] H Q := ⟨a, xs, rfl, h, w_newO q⟩
def rListText : List V → Hp → VK → Prop := fun xs H Q => ∃ z : Str, xs = [.str z] ∧ z.length ≤ sizeLine ∧ newO (.lst (z.cps.toList.map fun c => V.str ⟨#[c]⟩)) H Q
theorem w_listText {z : Str} (h : z.length ≤ sizeLine) (q : ∀ p H', H p = none → Same H H' → H' p = some (.lst (z.cps.toList.map fun c => V.str ⟨#[c]⟩)) → Q (.ref p) H') : rListText [.str z] H Q := ⟨z, rfl, h, w_newO q⟩
def rLen (K : PySem.W.Frag) : List V → Hp → VK → Prop := fun xs H Q => ∃ p ys, xs = [.ref p] ∧ (SqL K H p ys ∨ SqT K H p ys) ∧ Q (.int ys.length) H
theorem w_len {p : Addr} {xs : List V} (h : SqL K H p xs) (q : Q (.int xs.length) H) : rLen K [V.ref p] H Q := ⟨p, xs, rfl, .inl h, q⟩
theorem w_lenT {p : Addr} {xs : List V} (h : SqT K H p xs) (q : Q (.int xs.length) H) : rLen K [V.ref p] H Q := ⟨p, xs, rfl, .inr h, q⟩
def rLenStr : List V → Hp → VK → Prop := fun xs H Q => ∃ z : Str, xs = [.str z] ∧ z.length ≤ sizeLine ∧ Q (.int z.length) H
theorem w_lenStr {z : Str} (h : z.length ≤ sizeLine) (q : Q (.int z.length) H) : rLenStr [.str z] H Q := ⟨z, rfl, h, q⟩
theorem w_all {a : Addr} {bs : List Bool} (h : SqL K H a (bs.map V.bl)) (q : Q (.bl (bs.all id)) H) : rAll K [.ref a] H Q := ⟨a, bs, rfl, h, q⟩
theorem w_any {a : Addr} {bs : List Bool} (h : SqL K H a (bs.map V.bl)) (q : Q (.bl (bs.any id)) H) : rAny K [.ref a] H Q := ⟨a, bs, rfl, h, q⟩
def rInSign : R2 := fun x y H Q => ∃ (c : Nat) (z : Str), x = .str ⟨#[c]⟩ ∧ y = .str z ∧ Q (.bl (decide (c ∈ z.cps.toList))) H
theorem w_inSign {c : Nat} {z : Str} (q : Q (.bl (decide (c ∈ z.cps.toList))) H) : rInSign (.str ⟨#[c]⟩) (.str z) H Q := ⟨c, z, rfl, rfl, q⟩
def rNotInSign : R2 := fun x y H Q => ∃ (c : Nat) (z : Str), x = .str ⟨#[c]⟩ ∧ y = .str z ∧ Q (.bl (!decide (c ∈ z.cps.toList))) H
theorem w_notInSign {c : Nat} {z : Str} (q : Q (.bl (!decide (c ∈ z.cps.toList))) H) : rNotInSign (.str ⟨#[c]⟩) (.str z) H Q := ⟨c, z, rfl, rfl, q⟩
theorem w_BM {T : String} {r : V → List V → Hp → VK → Prop} (h : ta σ H fun x H1 => tyV K T x H1 ∧ tr σ H1 fun xs H2 => r x xs H2 Q) : tBM K T r ta tr σ H Q := h
theorem w_BM0 {T : String} {r : V → List V → Hp → VK → Prop} (h : ta σ H fun x H1 => tyV K T x H1 ∧ r x [] H1 Q) : tBM0 K T r ta σ H Q := h
theorem w_I0 {g : Int → Int → V} {i j : Int} (q : Q (g i j) H) : rI0 g (.int i) (.int j) H Q := ⟨i, j, rfl, rfl, q⟩
theorem w_I {C : Int → Int → Prop} {g : Int → Int → V} {i j : Int} (c : C i j) (q : Q (g i j) H) : rI C g (.int i) (.int j) H Q := ⟨i, j, rfl, rfl, c, q⟩
theorem w_Eq (hs : scal x y = true) (q : Q (.bl (decide (x = y))) H) : rEq x y H Q := ⟨hs, q⟩
theorem w_Ne (hs : scal x y = true) (q : Q (.bl (!decide (x = y))) H) : rNe x y H Q := ⟨hs, q⟩
theorem w_ixL {p : Addr} {xs : List V} {i : Int} (h : SqL K H p xs) (ha : atI xs i = some v) (q : Q v H) : rIxL K (.ref p) (.int i) H Q := ⟨p, xs, i, v, rfl, rfl, h, ha, q⟩
theorem w_ixT {p : Addr} {xs : List V} {i : Int} (h : SqT K H p xs) (ha : atI xs i = some v) (q : Q v H) : rIxT K (.ref p) (.int i) H Q := ⟨p, xs, i, v, rfl, rfl, h, ha, q⟩
theorem w_sl {r : V → Option Int → Option Int → Hp → VK → Prop} {tl th : TO} (h : te σ H fun x H1 => tl σ H1 fun l H2 => th σ H2 fun u H3 => r x l u H3 Q) : tSl r te tl th σ H Q := h
theorem w_noPart {Q : Option Int → Hp → Prop} (h : Q none H) : tNoPart σ H Q := h
theorem w_part {Q : Option Int → Hp → Prop} (h : te σ H fun x H1 => ∃ i, x = .int i ∧ Q (some i) H1) : tPart te σ H Q := h
theorem w_int {i : Int} {P : Int → Prop} (h : P i) : ∃ j, V.int i = .int j ∧ P j := ⟨i, rfl, h⟩
end

theorem w_gSub {to ti : TE} {t : TSet} {v : V} {σ : L2.St} {H : Hp} {Q : L2.St → Hp → Prop} (h : to σ H fun o H1 => ti σ H1 fun i H2 => t o i v H2 fun H3 => Q σ H3) : gSub to ti t v σ H Q := h
theorem w_par {i j : Nat} {ta : TA} {D : Ends} {σ : L2.St} {H : Hp} (h : ta σ H fun vs H1 => ∃ v w, vs = [v, w] ∧ D.nx ((σ.set i (some v)).set j (some w)) H1) : tPar i j ta D σ H := h
theorem w_yes {σ : L2.St} {H : Hp} {Q : Bool → Hp → Prop} (h : Q true H) : tYes σ H Q := h
/-- the ways through t joined: J ahead of what follows -/
theorem w_seqJ {t u : TS} {D : Ends} {σ : L2.St} {H : Hp} (J : L2.St → Hp → Prop) (hu : ∀ σ H, J σ H → u D σ H) (h : ∀ N : L2.St → Hp → Prop, (∀ σ H, J σ H → N σ H) → t { D with nx := N } σ H) : tSeq t u D σ H := h (u D) hu
/-! ### what stands behind the top, by names -/
section
variable {X : Cx} {x : Str} {pos : Pos} {v : V} {f : Addr} {n : String}
theorem pe_gv (h : ∃ u, X.mg x = some u ∧ RelV v u) (hg : Gl X x) (hd : (x == ("__debug__" : Str)) = false := by decide) : PE X (.Name x pos) (tC v) := by
  obtain ⟨u, h1, h2⟩ := h
  exact pe_glob hg h1 h2 hd
theorem pe_gdef (h : X.mg x = some (.ref f)) (hg : Gl X x) (hd : (x == ("__debug__" : Str)) = false := by decide) : PE X (.Name x pos) (tC (.ref f)) := pe_glob hg h rfl hd
theorem pe_bty (hg : Gl X x) (hm : X.mg x = none) (hv : bootBuiltins x = some (.type n)) (hn : x ≠ "__name__" := by decide) (hd : (x == ("__debug__" : Str)) = false := by decide) : PE X (.Name x pos) (tC (.ty n)) := pe_bltn hg hm hv rfl hn hd
end
def fdF (K : PySem.W.Frag) (p : Str × Option Str) : FuncData := match K.lookup (He.fAd K p) with
  | some ⟨_, _, .func fd, _⟩ => fd
  | _ => default
theorem funD_fd {K : PySem.W.Frag} {p : Str × Option Str} {x qual : Str} {params : Arguments} {body : List Stmt} {scope : Scope} {dvs : List V} {kws : List (Str × V)} (h : ∃ fd, FunD K x qual params body scope dvs kws (He.fAd K p) fd) :
    FunD K x qual params body scope dvs kws (He.fAd K p) (fdF K p) := by
  obtain ⟨fd, F⟩ := h
  obtain ⟨oc, od, dV, kV, doc, pm, an, cdv, ct, osl, e, lk, r⟩ := F.ex
  have e2 : fdF K p = fd := by unfold fdF; rw [lk]
  rw [e2]
  exact F
theorem funD_bindsD {K : PySem.W.Frag} {x qual : Str} {params : Arguments} {body : List Stmt} {scope : Scope} {dvs : List V} {kws : List (Str × V)} {f : Addr} {fd : FuncData} {ps : List Str} (F : FunD K x qual params body scope dvs kws f fd) (hd : dvs ≠ [])
    (h : ∀ (T : Addr) (kV doc pm : Value) (an : Option Addr) (cdv ct : Value) (us : List Value), us.length = ps.length →
      ∃ k, bindArgs (PySem.W.fnOf x qual params body scope (.ref T) kV doc pm an cdv ct) ⟨us, []⟩ = seqItems? (.ref T) >>= k ∧ ∀ its : List Value, its.length = dvs.length → k (some its.toArray) = pure (ps.zip us)) : Binds K fd ps [] := by
  obtain ⟨ds, v, b⟩ := F.binds1 (ps := ps) ps.length dvs.length hd (by simp) fun T kV doc pm an cdv ct us its h1 h2 => by
    obtain ⟨k, e1, e2⟩ := h T kV doc pm an cdv ct us h1
    refine ⟨k, e1, ?_⟩
    rw [e2 its h2]
    congr 1
    rw [← h2, List.drop_length, List.append_nil]
  rw [List.drop_length] at v
  cases v
  exact b
/-! ### heaps but for one address -/
theorem del_get {H H' : Hp} {p l : Addr} (e : del H' p = del H p) (ne : l ≠ p) : H' l = H l := by
  have := congrFun e l
  rwa [del_ne ne, del_ne ne] at this
theorem del_upd {H : Hp} {p : Addr} {o : HO} : del (upd H p o) p = del H p := by
  funext a
  by_cases h : a = p
  · rw [h, del_same, del_same]
  · rw [del_ne h, del_ne h, upd_ne h]
theorem del_comm {H : Hp} {p q : Addr} : del (del H p) q = del (del H q) p := by
  funext a
  unfold L2.del
  by_cases h : a = p <;> by_cases g : a = q <;> simp [h, g]
theorem same_del {H : Hp} {p : Addr} : Same (del H p) H := fun a o e => by
  by_cases h : a = p
  · rw [h, del_same] at e; cases e
  · rwa [del_ne h] at e
theorem Same.del {H H' : Hp} (s : Same H H') (p : Addr) : Same (L2.del H p) (L2.del H' p) := fun a o e => by
  by_cases h : a = p
  · rw [h, del_same] at e; cases e
  · rw [del_ne h] at e ⊢; exact s a o e
/-- what H does not know may change -/
theorem Same.mut {H H' : Hp} {p : Addr} {o : HO} (e : Same H H') (h : H p = none) : Same H (upd H' p o) := fun a u ha => by
  rw [upd_ne (ne_of_none ha h)]; exact e a u ha
theorem Same.tup {K : PySem.W.Frag} {H H' : Hp} {a : Addr} {xs : List V} (e : Same H H') (h : SqT K H a xs) : SqT K H' a xs := Evl.ex_t e h
mutual
theorem Same.dp {K : PySem.W.Frag} {H H' : Hp} (e : Same H H') : ∀ {v : V} {d : PyData}, Dp K H v d → Dp K H' v d
  | _, _, .non => .non
  | _, _, .bl b => .bl b
  | _, _, .int i => .int i
  | _, _, .str x => .str x
  | _, _, .lst h a => .lst (e.seq h) (Same.dpAll e a)
  | _, _, .tup h a => .tup (Same.tup e h) (Same.dpAll e a)
theorem Same.dpAll {K : PySem.W.Frag} {H H' : Hp} (e : Same H H') : ∀ {vs : List V} {ds : List PyData}, DpAll K H vs ds → DpAll K H' vs ds
  | _, _, .nil => .nil
  | _, _, .cons h a => .cons (Same.dp e h) (Same.dpAll e a)
end
/-! what has no lists in it stays when a list, a dict is written -/
mutual
def noL : PyData → Bool
  | .list _ => false
  | .dict _ => false
  | .tuple xs => noLs xs
  | .none => true | .bool _ => true | .int _ => true | .str _ => true
def noLs : List PyData → Bool
  | [] => true
  | d :: ds => noL d && noLs ds
end
theorem sqt_wr {K : PySem.W.Frag} {H H' : Hp} {p a : Addr} {xs : List V} (mu : Mut (H p)) (e : del H' p = del H p) (h : SqT K H a xs) : SqT K H' a xs := by
  rcases h with (h | ⟨o, h⟩) | h
  · refine .inl (.inl ?_)
    rw [del_get e (fun z => by rw [z] at h; rw [h] at mu; exact mu)]
    exact h
  · refine .inl (.inr ⟨o, ?_⟩)
    rw [del_get e (fun z => by rw [z] at h; rw [h] at mu; exact mu)]
    exact h
  · exact .inr h
theorem noL_tuple {ds : List PyData} (h : noL (.tuple ds) = true) : noLs ds = true := by
  unfold noL at h
  exact h
theorem noL_list {ds : List PyData} (h : noL (.list ds) = true) : False := by
  unfold noL at h
  cases h
theorem noLs_cons {d : PyData} {ds : List PyData} (h : noLs (d :: ds) = true) : noL d = true ∧ noLs ds = true := by
  unfold noLs at h
  exact Bool.and_eq_true_iff.mp h
mutual
theorem dp_wr {K : PySem.W.Frag} {H H' : Hp} {p : Addr} (mu : Mut (H p)) (e : del H' p = del H p) : ∀ {v : V} {d : PyData}, Dp K H v d → noL d = true → Dp K H' v d
  | _, _, .non, _ => .non
  | _, _, .bl b, _ => .bl b
  | _, _, .int i, _ => .int i
  | _, _, .str x, _ => .str x
  | _, _, .lst h a, n => (noL_list n).elim
  | _, _, .tup h a, n => .tup (sqt_wr mu e h) (dpAll_wr mu e a (noL_tuple n))
theorem dpAll_wr {K : PySem.W.Frag} {H H' : Hp} {p : Addr} (mu : Mut (H p)) (e : del H' p = del H p) : ∀ {vs : List V} {ds : List PyData}, DpAll K H vs ds → noLs ds = true → DpAll K H' vs ds
  | _, _, .nil, _ => .nil
  | _, _, .cons h a, n => .cons (dp_wr mu e h (noLs_cons n).1) (dpAll_wr mu e a (noLs_cons n).2)
end
theorem noLs_iff {ds : List PyData} : noLs ds = true ↔ ∀ d ∈ ds, noL d = true := by
  induction ds with
  | nil => exact Iff.intro (fun _ d h => (List.not_mem_nil h).elim) (fun _ => by unfold noLs; rfl)
  | cons d ds ih =>
    have e : noLs (d :: ds) = (noL d && noLs ds) := by conv => lhs; unfold noLs
    rw [e, Bool.and_eq_true_iff, ih, List.forall_mem_cons]
theorem w_setL {p : Addr} {xs : List V} {k : Int} {j : Nat} {v : V} {H : Hp} {Q : Hp → Prop} (h : H p = some (.lst xs)) (hj : ixN xs.length k = some j) (q : ∀ H', H' p = some (.lst (xs.set j v)) → del H' p = del H p → Q H') : rSetL (.ref p) (.int k) v H Q :=
  ⟨p, xs, k, j, rfl, rfl, h, hj, q _ upd_same del_upd⟩
theorem cutV_to {xs : List V} {n : Nat} : cutV xs none (some (n : Int)) = xs.take n := by
  unfold cutV
  rw [HT.sIx_none, HT.sIx_nat, List.drop_zero, Nat.sub_zero, ← List.take_eq_take_min]
theorem cutV_from {xs : List V} {n : Nat} : cutV xs (some (n : Int)) none = xs.drop n := by
  unfold cutV
  rw [HT.sIx_none, HT.sIx_nat]
  by_cases h : n ≤ xs.length
  · rw [Nat.min_eq_left h, List.take_of_length_le (by rw [List.length_drop]; exact Nat.le_refl _)]
  · rw [Nat.min_eq_right (by omega), List.drop_length, List.drop_of_length_le (by omega), List.take_nil]
/-! ### the drawing of a law: the bag -/
def bagL (l : Addr) (i : Nat) (h s n : Int) : List V := [.ref l, .int i, .int h, .int s, .int n]
/-- a bag at b: its script's copy at l -/
def BagX (l : Addr) (ns : List Int) (H : Hp) (b : Addr) : Prop := ∃ (i : Nat) (h s n : Int), H b = some (.lst (bagL l i h s n)) ∧ H l = some (.lst (ns.map V.int)) ∧ l ≠ b ∧ i ≤ ns.length ∧ 0 ≤ s ∧ s < 2147483399
theorem BagX.at {l b : Addr} {ns : List Int} {H H' : Hp} (h : BagX l ns H b) (e1 : H' b = H b) (e2 : H' l = H l) : BagX l ns H' b := by
  obtain ⟨i, h, s, n, h1, h2, r⟩ := h
  exact ⟨i, h, s, n, e1.trans h1, e2.trans h2, r⟩
theorem BagX.same {l b : Addr} {ns : List Int} {H H' : Hp} (h : BagX l ns H b) (e : Same H H') : BagX l ns H' b := by
  obtain ⟨i, h, s, n, h1, h2, r⟩ := h
  exact ⟨i, h, s, n, e _ _ h1, e _ _ h2, r⟩
theorem BagX.ne {l b : Addr} {ns : List Int} {H : Hp} (h : BagX l ns H b) : l ≠ b := by
  obtain ⟨i, h, s, n, h1, h2, r, _⟩ := h
  exact r
theorem BagX.here {l b : Addr} {ns : List Int} {H : Hp} (h : BagX l ns H b) : ∃ o, H b = some o := by
  obtain ⟨i, h, s, n, h1, _⟩ := h
  exact ⟨_, h1⟩
theorem BagX.isLst {l b : Addr} {ns : List Int} {H : Hp} (h : BagX l ns H b) : ∃ xs, H b = some (.lst xs) := by
  obtain ⟨i, h, s, n, h1, _⟩ := h
  exact ⟨_, h1⟩
theorem BagX.someL {l b : Addr} {ns : List Int} {H : Hp} (h : BagX l ns H b) : H l = some (.lst (ns.map V.int)) := by
  obtain ⟨i, h, s, n, _, h1, _⟩ := h
  exact h1
theorem BagX.delL {l b : Addr} {ns : List Int} {H : Hp} (h : BagX l ns H b) : del H b l = some (.lst (ns.map V.int)) := by
  rw [del_ne h.ne]; exact h.someL
/-- an object that does not stand is not the bag's -/
theorem BagX.neB {l b p : Addr} {ns : List Int} {H : Hp} (h : BagX l ns H b) (hp : H p = none) : p ≠ b ∧ p ≠ l :=
  let ⟨_, h1⟩ := h.here
  ⟨(ne_of_none h1 hp).symm, (ne_of_none h.someL hp).symm⟩
/-- another object was written -/
theorem BagX.wr {l b p : Addr} {ns : List Int} {H H' : Hp} (h : BagX l ns H b) (e : del H' p = del H p) (n1 : p ≠ b) (n2 : p ≠ l) : BagX l ns H' b := h.at (del_get e n1.symm) (del_get e n2.symm)
def sp_bag (K : PySem.W.Frag) : Sp := fun vs H Q _ => ∃ (a : Addr) (ns : List Int), vs = [.ref a] ∧ SqL K H a (ns.map V.int) ∧ ns.length ≤ 63 ∧
  ∀ b l H', Same H H' → H b = none → BagX l ns H' b → Q (.ref b) H'
/-- a draw: any number below top -/
def sp_pick : Sp := fun vs H Q _ => ∃ (b : Addr) (top : Int) (l : Addr) (ns : List Int), vs = [.ref b, .int top] ∧ BagX l ns H b ∧ 1 ≤ top ∧ top.natAbs.log2 < 9000 ∧
  ∀ (d : Int) H', 0 ≤ d → d < top → BagX l ns H' b → del H' b = del H b → Q (.int d) H'
theorem log_small {n : Int} (h : n.natAbs < 2 ^ 8000) : n.natAbs.log2 < 9000 := Nat.lt_of_lt_of_le (PySem.Flt.log2_lt_of (by decide) h) (by decide)
theorem log_le {n : Int} (h0 : 0 ≤ n) (h : n ≤ 10 ^ 30) : n.natAbs.log2 < 9000 := by
  refine log_small (Nat.lt_of_le_of_lt (show n.natAbs ≤ 10 ^ 30 by omega) ?_)
  exact Nat.lt_of_lt_of_le (show (10 : Nat) ^ 30 < 2 ^ 100 by decide) (Nat.pow_le_pow_right (by decide) (by decide))
theorem same_of_del {H H' : Hp} {b : Addr} (e : del H' b = del H b) : Same (del H b) (del H' b) := by rw [e]; exact Same.refl _
/-- a fresh object behind, with all but b as it was -/
theorem same_b_of {H H' : Hp} {b : Addr} (e : Same H H') : Same (del H b) (del H' b) := Same.del e b
theorem same_wr {H0 H H' : Hp} {b p : Addr} (e : Same (del H0 b) (del H b)) (hp : del H0 b p = none) (w : del H' p = del H p) : Same (del H0 b) (del H' b) := fun a o h => by
  have h1 := e a o h
  by_cases hb : a = b
  · rw [hb, del_same] at h1; cases h1
  · rw [del_ne hb] at h1 ⊢
    rw [del_get w (ne_of_none h hp)]
    exact h1
/-! ### rules of one's own -/
section
variable {X : Cx}
/-- list(text) -/
theorem call_list_text (hc : X.calm = true) : CallR X (.type "list") rListText := by
  intro pins s σ H xs us Q I r h
  obtain ⟨z, rfl, hz, q⟩ := h
  obtain ⟨u, rfl, rx⟩ := vals1 r
  obtain ⟨t, rfl⟩ := rx
  refine call_list_str (I.ok.hd hc) z t (fun h' tk acc' c' hk hS hacc => ?_) hz
  obtain ⟨h1, h2⟩ := hacc
  have hv : Vals (z.cps.toList.map fun c => V.str ⟨#[c]⟩) acc'.toList := by
    have aux : ∀ (l : List Nat) (m : List Value), l.length = m.length → (∀ (j : Nat) c v, l[j]? = some c → m[j]? = some v → ∃ u, v = Value.str ⟨#[c]⟩ u) → Vals (l.map fun c => V.str ⟨#[c]⟩) m := by
      intro l
      induction l with
      | nil => intro m hl _; cases m with | nil => exact .nil | cons _ _ => simp at hl
      | cons c l ih =>
        intro m hl hf
        cases m with
        | nil => simp at hl
        | cons v m =>
          exact .cons (hf 0 c v rfl rfl) (ih m (by simpa using hl) fun j c' v' e1 e2 => hf (j + 1) c' v' (by simpa using e1) (by simpa using e2))
    refine aux _ _ (by simp [h1]) fun j c v e1 e2 => ?_
    obtain ⟨c', u, e3, e4⟩ := h2 j v (by simpa using e2)
    have e5 : z.cps[j]? = some c := by simpa using e1
    rw [e3] at e5
    cases e5
    exact ⟨u, e4⟩
  exact ⟨.ref s.heap.objs.size, _, I.laid (t' := tk) hk (Nat.le_refl _) (show ObjOk X.prog X.w _ h' _ (.lst _) from ⟨by rw [List.length_map, Array.length_toList]; exact hz, acc'.toList, c', hv, by rw [hS]⟩), rfl, q _ (I.hok.fresh (Nat.le_refl _))⟩
end
section
variable {X : Cx}
theorem call_listOf : CallR X (.type "list") (rListOf X.K) := call_list_of
theorem call_lenS : CallR X (.builtin "len") (rLen X.K) := call_len_seq
theorem call_lenStr : CallR X (.builtin "len") rLenStr := call_len_str
theorem op_inSign : OpR X (compareOp .In) rInSign := op_in_sign
theorem op_notInSign : OpR X (compareOp .NotIn) rNotInSign := op_notIn_sign
end
/-- the signs of two texts, in new pairs -/
def ItzS (x y : Str) : It :=
  ⟨fun i _ => i < min x.cps.size y.cps.size, fun i H v H' => ∃ T c d, v = .ref T ∧ H T = none ∧ H' = upd H T (.tup [.str ⟨#[c]⟩, .str ⟨#[d]⟩]) ∧ x.cps[i]? = some c ∧ y.cps[i]? = some d, fun i _ => min x.cps.size y.cps.size ≤ i⟩
theorem turn_zipS {P : Program} {w : World} {K : PySem.W.Frag} {elts : List Expr} {kk : Nat} {tpos : Pos} (x y : Str) (t u : Tok) {z TI TO i1 i2 : Addr} (S : ZipSep2 z TI TO i1 i2 [i1] [i2]) :
    Turn P w K (.Tuple elts kk tpos) (ItzS x y) (z :: TI :: TO :: ([i1] ++ [i2])) z (fun i h => i ≤ min x.cps.size y.cps.size ∧ (IsZip h z TI TO .none ∧ IsTupOf2 h TI (.ref i1) (.ref i2) ∧ (∃ a1 a2, IsTupOf2 h TO a1 a2) ∧ h.IsStrIter i1 (strIterType x) x t i ∧ h.IsStrIter i2 (strIterType y) y u i)) where
  mem := by simp
  obj := fun i h st c hc => by
    obtain ⟨_, hz, hTI, ⟨x, y, hTO⟩, ⟨o1, e1, _, d1⟩, ⟨o2, e2, _, d2⟩⟩ := st
    have e' : c = z ∨ c = TI ∨ c = TO ∨ c = i1 ∨ c = i2 := by simpa using hc
    rcases e' with q | q | q | q | q
    · rw [q]; exact ⟨_, hz, fun v q => nomatch q⟩
    · rw [q]; exact ⟨_, hTI, fun v q => nomatch q⟩
    · rw [q]; exact ⟨_, hTO, fun v q => nomatch q⟩
    · rw [q]; exact ⟨o1, e1, fun v q => by rw [d1] at q; cases q⟩
    · rw [q]; exact ⟨o2, e2, fun v q => by rw [d2] at q; cases q⟩
  keep := fun i h h' st k => by
    obtain ⟨hi, hz, hTI, ⟨x, y, hTO⟩, ⟨o1, e1, r1⟩, ⟨o2, e2, r2⟩⟩ := st
    exact ⟨hi, k z (by simp) _ hz, k TI (by simp) _ hTI, ⟨x, y, k TO (by simp) _ hTO⟩, ⟨o1, k i1 (by simp) _ e1, r1⟩, ⟨o2, k i2 (by simp) _ e2, r2⟩⟩
  item := by
    intro X hP hw hK hc i pins s σ H E I hf st hg
    subst hP hw hK
    have hh : X.A.in1.handled = none := I.ok.hd hc
    have W := GoesN.zip2 (A := X.A) (elts := elts) (x1 := kk) (pos := tpos) S (Draws.text (prog := X.prog) (w := X.w) hh i1 x t) (Draws.text (prog := X.prog) (w := X.w) hh i2 y u)
    refine wpAny_mono (W.goes i s (fun v s2 => ∃ x1 H', Inv X pins σ H' s2 ∧ RelV x1 v ∧ (ItzS x y).yld i H x1 H' ∧ (i + 1 ≤ min x.cps.size y.cps.size ∧ (IsZip s2.heap z TI TO .none ∧ IsTupOf2 s2.heap TI (.ref i1) (.ref i2) ∧ (∃ a1 a2, IsTupOf2 s2.heap TO a1 a2) ∧ s2.heap.IsStrIter i1 (strIterType x) x t (i + 1) ∧ s2.heap.IsStrIter i2 (strIterType y) y u (i + 1))) ∧ ∀ b ∈ (z :: TI :: TO :: ([i1] ++ [i2])), H' b = none) E hg st.2 fun v h' tk hY st' hk htk => ?_) (fun r s1 q => ?_) fun _ _ q => q
    · obtain ⟨T, a, b, rfl, hT, ⟨c, u1, hc1, rfl⟩, ⟨d, u2, hd1, rfl⟩, hIT⟩ := hY
      have new : ObjOk X.prog X.w (upd H T (.tup [.str ⟨#[c]⟩, .str ⟨#[d]⟩])) h' T (.tup [.str ⟨#[c]⟩, .str ⟨#[d]⟩]) := by
        obtain ⟨o, ho, h2, h3⟩ := hIT
        exact ⟨by show 2 ≤ sizeLine; decide, [.str ⟨#[c]⟩ u1, .str ⟨#[d]⟩ u2], .cons ⟨u1, rfl⟩ (.cons ⟨u2, rfl⟩ .nil), o, ho, h2, h3⟩
      have sub : ∀ b ∈ [z, TO, i1, i2], FpOk X pins H b := fun b hb => hf b (by
        have e' : b = z ∨ b = TO ∨ b = i1 ∨ b = i2 := by simpa using hb
        rcases e' with q | q | q | q <;> simp [q])
      refine ⟨.ref T, _, I.turnedNew (t' := tk) (ch := [z, TO, i1, i2]) hk sub hT new, rfl, ⟨T, c, d, rfl, I.hok.fresh hT, rfl, hc1, hd1⟩, ⟨hg, st'⟩, fun b hb => ?_⟩
      have hb2 : b ≠ T := by
        rintro rfl
        obtain ⟨o, ho, _⟩ := (show ∃ o, s.heap.get? b = some o ∧ True from by
          obtain ⟨_, hz, hTI, ⟨x, y, hTO⟩, ⟨o1, e1, _, d1⟩, ⟨o2, e2, _, d2⟩⟩ := st
          have e' : b = z ∨ b = TI ∨ b = TO ∨ b = i1 ∨ b = i2 := by simpa using hb
          rcases e' with q | q | q | q | q
          · rw [q]; exact ⟨_, hz, trivial⟩
          · rw [q]; exact ⟨_, hTI, trivial⟩
          · rw [q]; exact ⟨_, hTO, trivial⟩
          · rw [q]; exact ⟨o1, e1, trivial⟩
          · rw [q]; exact ⟨o2, e2, trivial⟩)
        exact absurd (Nat.lt_of_lt_of_le (Heap.lt_size ho) hT) (Nat.lt_irrefl _)
      rw [upd_ne hb2]
      exact (hf b hb).1
    · exact q
  done := by
    intro X hP hw hK hc i pins s σ H E I hf st hg
    subst hP hw hK
    have hh : X.A.in1.handled = none := I.ok.hd hc
    have hi : i = min x.cps.size y.cps.size := Nat.le_antisymm st.1 hg
    have W := GoesN.zip2 (A := X.A) (elts := elts) (x1 := kk) (pos := tpos) S (Draws.text (prog := X.prog) (w := X.w) hh i1 x t) (Draws.text (prog := X.prog) (w := X.w) hh i2 y u)
    refine W.stops s (fun s1 => Inv X pins σ H s1) E (by rw [← hi]; exact st.2) fun h' tk hk htk => ?_
    exact I.turnedL (t' := tk) (ch := [z, TO, i1, i2]) hk fun b hb => hf b (by
        have e' : b = z ∨ b = TO ∨ b = i1 ∨ b = i2 := by simpa using hb
        rcases e' with q | q | q | q <;> simp [q])
  self := fun A i s Q E st h => wpAny_pyIter_zip st.2.1 h
def iZipS (ta : TA) : TI := fun σ H R => ta σ H fun vs H1 => ∃ x y : Str, vs = [.str x, .str y] ∧ R (ItzS x y) H1
theorem pi_zipS {X : Cx} {e e2 : Expr} {ta : TA} {p pos tpos : Pos} {elts : List Expr} {kk : Nat} (hg : Gl X "zip") (hm : X.mg "zip" = none) (ha : PA X [e, e2] ta)
    (hs : starEach [e, e2] X.env = (false, eval e X.env) :: starEach [e2] X.env := by rfl) (hpl : (backTo pos (starEach [e2] X.env)).any (·.1) = false := by rfl) :
    PI X (.Tuple elts kk tpos) (.Call (.Name "zip" p) [e, e2] [] pos) (iZipS ta) := by
  refine ⟨fun pins s σ H R I h => ?_⟩
  refine Call_ (ld_blt I hg hm PyProof.Rows.boot_zip (PyProof.Rows.callWith_type1 (thn (ha.run pos pins s σ H _ I h) fun us s1 ⟨vs, H1, I1, r1, q1⟩ => ?_) hs hpl))
  obtain ⟨x, y, ex, q⟩ := q1
  subst ex
  cases r1 with
  | cons r rr =>
    cases rr with
    | cons r' rr =>
      cases rr
      obtain ⟨t, rfl⟩ := r
      obtain ⟨u, rfl⟩ := r'
      refine zip_begins2 (begins_text x t) (begins_text y u) trivial trivial fun h' hz hTI hTO h1 h2 hsz hk => wpAny_pyIter_zip hz ?_
      have I2 : Inv X pins σ H1 { s1 with heap := h' } := I1.kept (t' := s1.toks) hk
      refine ⟨s1.heap.objs.size + 4, (s1.heap.objs.size + 4) :: (s1.heap.objs.size + 2) :: (s1.heap.objs.size + 3) :: ([s1.heap.objs.size] ++ [s1.heap.objs.size + 1]), _, _, H1, rfl, I2, turn_zipS x y t u (zip_sep2 (fp1 := []) (fp2 := []) (by simp) (by simp)), ⟨Nat.zero_le _, hz, hTI, ⟨_, _, hTO⟩, ⟨_, h1, rfl, rfl⟩, ⟨_, h2, rfl, rfl⟩⟩, fun c hcm => ?_, q⟩
      have e' : c = s1.heap.objs.size + 4 ∨ c = s1.heap.objs.size + 2 ∨ c = s1.heap.objs.size + 3 ∨ c = s1.heap.objs.size ∨ c = s1.heap.objs.size + 1 := by simpa using hcm
      have hle : s1.heap.objs.size ≤ c := by
        rcases e' with z | z | z | z | z
        · rw [z]; exact Nat.le_add_right _ _
        · rw [z]; exact Nat.le_add_right _ _
        · rw [z]; exact Nat.le_add_right _ _
        · rw [z]; exact Nat.le_refl _
        · rw [z]; exact Nat.le_add_right _ _
      exact I1.fpOk hle (I1.hok.fresh hle)
theorem walk_zipS {x y : Str} : Walk (ItzS x y) (min x.cps.size y.cps.size) (fun _ => True) (YPair (fun i => (x.cps[i]?).map fun c => V.str ⟨#[c]⟩) (fun i => (y.cps[i]?).map fun c => V.str ⟨#[c]⟩)) :=
  ⟨fun _ _ hi _ => hi, fun _ _ => Nat.le_refl _, fun i H v H' _ _ yl => by
    obtain ⟨T, c, d, h1, h2, h3, h4, h5⟩ := yl
    exact ⟨T, _, _, h1, h2, h3, by dsimp only; rw [h4]; rfl, by dsimp only; rw [h5]; rfl⟩⟩
/-! ### loops and comprehensions -/
section
variable {J : It} {n : Nat} {G : Hp → Prop} {Y : Nat → Hp → V → Hp → Prop} {σ : L2.St} {H H1 : Hp} {g : TG} {tb : TS} {te : TE} {tt : TT} {wi : TI} {vs : List Nat} {D : Ends} {Q : VK} {K : PySem.W.Frag}
def forGoal (J : It) (g : TG) (tb : TS) (D : Ends) (σ : L2.St) (H1 : Hp) : Prop := ∃ W : Nat → Nat → L2.St → Hp → Prop, (∃ m, W 0 m σ H1) ∧ ∀ i m σ H, W i m σ H →
  (J.stop i H ∧ D.nx σ H) ∨ (J.go i H ∧ ∃ N : L2.St → Hp → Prop, (∀ σ' H', N σ' H' → ∃ m', m' < m ∧ W (i + 1) m' σ' H') ∧ ∀ x H', J.yld i H x H' → g x σ H' fun σ2 H2 => tb { D with nx := N, ct := N, bk := D.nx } σ2 H2)
theorem w_for (h : wi σ H fun J H1 => forGoal J g tb D σ H1) : tFor wi g tb D σ H := h
theorem for_inv (w : Walk J n G Y) (Pv : Nat → L2.St → Hp → Prop) (h0 : Pv 0 σ H) (hG : ∀ i σ H, i ≤ n → Pv i σ H → G H)
    (hs : ∀ i x σ H H', i < n → Pv i σ H → Y i H x H' → g x σ H' fun σ2 H2 => tb { D with nx := Pv (i + 1), ct := Pv (i + 1), bk := D.nx } σ2 H2) (hd : ∀ σ H, Pv n σ H → D.nx σ H) : forGoal J g tb D σ H :=
  for_it w Pv h0 hG hs hd
def lcGoal (J : It) (g : TG) (tt : TT) (te : TE) (vs : List Nat) (σ : L2.St) (H1 : Hp) (Q : VK) : Prop := ∀ D, H1 D = none → ∃ W : Nat → Nat → Hp → Prop, (∃ m, W 0 m (upd H1 D (.lst []))) ∧ ∀ i m H, W i m H →
  (J.stop i H ∧ Q (.ref D) H) ∨ (J.go i H ∧ ∃ Nx : Hp → Prop, (∀ H', Nx H' → ∃ m', m' < m ∧ W (i + 1) m' H') ∧ ∀ x H', J.yld i H x H' → g x (wipe σ vs) H' fun σ2 H2 => wipe σ2 vs = wipe σ vs ∧ tt σ2 H2 fun b H3 =>
    if b = true then te σ2 H3 fun y H4 => ∃ acc, H4 D = some (.lst acc) ∧ acc.length < sizeLine ∧ Nx (upd H4 D (.lst (acc ++ [y]))) else Nx H3)
theorem w_lc (h : wi σ H fun J H1 => lcGoal J g tt te vs σ H1 Q) : tLc wi g tt te vs σ H Q := h
theorem w_iStr {R : It → Hp → Prop} {tz : TE} (h : tz σ H fun v H1 => ∃ x, v = .str x ∧ R (Its x) H1) : iStr tz σ H R := h
theorem w_iList {R : It → Hp → Prop} {tl : TE} (h : tl σ H fun x H1 => ∃ a, x = .ref a ∧ (∃ xs, SqL K H1 a xs) ∧ R (Itl K a) H1) : iList K tl σ H R := h
theorem w_iListR {a : Addr} {xs : List V} {R : Addr → Prop} (h : SqL K H a xs) (q : R a) : ∃ b, V.ref a = .ref b ∧ (∃ xs, SqL K H b xs) ∧ R b := ⟨a, rfl, ⟨xs, h⟩, q⟩
theorem w_iStrR {z : Str} {R : Str → Prop} (q : R z) : ∃ x, V.str z = .str x ∧ R x := ⟨z, rfl, q⟩
theorem w_iZipS {ta : TA} {R : It → Hp → Prop} (h : ta σ H fun vs H1 => ∃ x y : Str, vs = [.str x, .str y] ∧ R (ItzS x y) H1) : iZipS ta σ H R := h
/-- pure elements: the i-th is the i-th of ys -/
theorem lc_map {ys : List V} (w : Walk J n G Y) (hl : ys.length = n) (hn : n ≤ sizeLine) (hG : ∀ H', Same H H' → G H') (hY : ∀ i H x H', Y i H x H' → Same H H')
    (hs : ∀ i x H1 H2 (N : VK), i < n → Same H H1 → Y i H1 x H2 → (∀ y H3, ys[i]? = some y → Same H2 H3 → N y H3) → g x (wipe σ vs) H2 fun σ2 H3 => wipe σ2 vs = wipe σ vs ∧ te σ2 H3 N)
    (hd : ∀ D H', H D = none → Same H H' → H' D = some (.lst ys) → Q (.ref D) H') : lcGoal J g tYes te vs σ H Q := by
  intro D hDn
  refine lc_it w (fun i H' => H' D = some (.lst (ys.take i)) ∧ Same H H') ⟨upd_same, same_new hDn⟩ (fun i H' hi p => hG _ p.2) ?_ (fun H' p => hd D H' hDn p.2 (by rw [p.1, ← hl, List.take_length]))
  rintro i x H1 H2 hi ⟨e, sm⟩ y
  refine hs i x H1 H2 _ hi sm y fun v H3 hv s3 => ⟨_, s3 _ _ (hY _ _ _ _ y _ _ e), by rw [List.length_take]; omega, ?_, ?_⟩
  · rw [upd_same, List.take_add_one, hv]
    rfl
  · exact Same.mut ((sm.trans (hY _ _ _ _ y)).trans s3) hDn
/-- .. with a test -/
theorem lc_filter {ys : List (Option V)} (w : Walk J n G Y) (hl : ys.length = n) (hn : n ≤ sizeLine) (hG : ∀ H', Same H H' → G H') (hY : ∀ i H x H', Y i H x H' → Same H H')
    (hs : ∀ i x H1 H2 (N : VK) (Nf : Hp → Prop), i < n → Same H H1 → Y i H1 x H2 → (∀ y H3, ys[i]? = some (some y) → Same H2 H3 → N y H3) → (∀ H3, ys[i]? = some none → Same H2 H3 → Nf H3) →
      g x (wipe σ vs) H2 fun σ2 H3 => wipe σ2 vs = wipe σ vs ∧ tt σ2 H3 fun b H4 => if b = true then te σ2 H4 N else Nf H4)
    (hd : ∀ D H', H D = none → Same H H' → H' D = some (.lst (ys.filterMap id)) → Q (.ref D) H') : lcGoal J g tt te vs σ H Q := by
  intro D hDn
  refine lc_it w (fun i H' => H' D = some (.lst ((ys.take i).filterMap id)) ∧ Same H H') ⟨upd_same, same_new hDn⟩ (fun i H' hi p => hG _ p.2) ?_ (fun H' p => hd D H' hDn p.2 (by rw [p.1, ← hl, List.take_length]))
  rintro i x H1 H2 hi ⟨e, sm⟩ y
  have sm2 := sm.trans (hY _ _ _ _ y)
  refine hs i x H1 H2 _ _ hi sm y (fun v H3 hv s3 => ⟨_, s3 _ _ (hY _ _ _ _ y _ _ e), ?_, ?_, ?_⟩) fun H3 hv s3 => ⟨?_, sm2.trans s3⟩
  · have := List.length_filterMap_le id (ys.take i)
    rw [List.length_take] at this
    omega
  · rw [upd_same, List.take_add_one, hv, List.filterMap_append]
    rfl
  · exact Same.mut (sm2.trans s3) hDn
  · rw [s3 _ _ (hY _ _ _ _ y _ _ e), List.take_add_one, hv, List.filterMap_append]
    simp
theorem yat_same {xs : List V} : ∀ i H x H', YAt xs i H x H' → Same H H' := fun _ _ _ _ y => by rw [y.1]; exact Same.refl _
theorem ypair_same {f g : Nat → Option V} : ∀ i H x H', YPair f g i H x H' → Same H H' := fun _ _ _ _ ⟨T, _, _, _, hT, e, _⟩ => by rw [e]; exact same_new hT
theorem yfn_same {f : Nat → V} : ∀ i H x H', YFn f i H x H' → Same H H' := fun _ _ _ _ y => by rw [y.1]; exact Same.refl _
theorem ystr_same {z : Str} : ∀ i H v H', (fun (i : Nat) (H : Hp) (v : V) (H' : Hp) => H' = H ∧ ∃ c, z.cps[i]? = some c ∧ v = .str ⟨#[c]⟩) i H v H' → Same H H' := fun _ _ _ _ y => by rw [y.1]; exact Same.refl _
theorem w_gTup {a : Addr} {xs : List V} {n : Nat} {t : TGs} {Q : L2.St → Hp → Prop} (h : SqT K H a xs) (hl : xs.length = n) (q : t xs σ H Q) : gTup K n t (.ref a) σ H Q := ⟨a, xs, rfl, h, hl, q⟩
theorem w_gCons {t : TG} {u : TGs} {v : V} {r : List V} {Q : L2.St → Hp → Prop} (q : t v σ H fun σ' H' => u r σ' H' Q) : gCons t u (v :: r) σ H Q := ⟨v, r, rfl, q⟩
theorem w_gNil {Q : L2.St → Hp → Prop} (q : Q σ H) : gNil [] σ H Q := ⟨rfl, q⟩
end
/-! ### data -/
section
variable {K : PySem.W.Frag} {H : Hp}
theorem Dp.tupI {v : V} {ds : List PyData} (h : Dp K H v (.tuple ds)) : ∃ a xs, v = .ref a ∧ SqT K H a xs ∧ DpAll K H xs ds := by
  cases h with
  | tup h1 h2 => exact ⟨_, _, rfl, h1, h2⟩
theorem Dp.lstI {v : V} {ds : List PyData} (h : Dp K H v (.list ds)) : ∃ a xs, v = .ref a ∧ SqL K H a xs ∧ DpAll K H xs ds := by
  cases h with
  | lst h1 h2 => exact ⟨_, _, rfl, h1, h2⟩
theorem Dp.intI {v : V} {i : Int} (h : Dp K H v (.int i)) : v = .int i := by cases h; rfl
theorem Dp.strI {v : V} {x : Str} (h : Dp K H v (.str x)) : v = .str x := by cases h; rfl
theorem Dp.blI {v : V} {b : Bool} (h : Dp K H v (.bool b)) : v = .bl b := by cases h; rfl
theorem Dp.nonI {v : V} (h : Dp K H v .none) : v = .non := by cases h; rfl
theorem DpAll.len : ∀ {xs : List V} {ds : List PyData}, DpAll K H xs ds → xs.length = ds.length
  | _, _, .nil => rfl
  | _, _, .cons _ t => congrArg Nat.succ (DpAll.len t)
theorem DpAll.get : ∀ {xs : List V} {ds : List PyData} {i : Nat} {x : V}, DpAll K H xs ds → xs[i]? = some x → ∃ d, ds[i]? = some d ∧ Dp K H x d
  | _, _, _, _, .nil, e => by simp at e
  | _, _, 0, _, .cons h _, e => by simp at e; subst e; exact ⟨_, rfl, h⟩
  | _, _, i + 1, x, .cons _ t, e => by
    obtain ⟨d, h1, h2⟩ := DpAll.get (i := i) (x := x) t (by simpa using e)
    exact ⟨d, by simpa using h1, h2⟩
theorem DpAll.get' : ∀ {xs : List V} {ds : List PyData} {i : Nat} {d : PyData}, DpAll K H xs ds → ds[i]? = some d → ∃ x, xs[i]? = some x ∧ Dp K H x d
  | _, _, _, _, .nil, e => by simp at e
  | _, _, 0, _, .cons h _, e => by simp at e; subst e; exact ⟨_, rfl, h⟩
  | _, _, i + 1, x, .cons _ t, e => by
    obtain ⟨d, h1, h2⟩ := DpAll.get' (i := i) (d := x) t (by simpa using e)
    exact ⟨d, by simpa using h1, h2⟩
theorem DpAll.append : ∀ {xs ys : List V} {ds es : List PyData}, DpAll K H xs ds → DpAll K H ys es → DpAll K H (xs ++ ys) (ds ++ es)
  | _, _, _, _, .nil, s => s
  | _, _, _, _, .cons r t, s => .cons r (DpAll.append t s)
theorem DpAll.take : ∀ {xs : List V} {ds : List PyData} (n : Nat), DpAll K H xs ds → DpAll K H (xs.take n) (ds.take n)
  | _, _, 0, _ => .nil
  | _, _, _ + 1, .nil => .nil
  | _, _, n + 1, .cons r t => .cons r (DpAll.take n t)
theorem DpAll.drop : ∀ {xs : List V} {ds : List PyData} (n : Nat), DpAll K H xs ds → DpAll K H (xs.drop n) (ds.drop n)
  | _, _, 0, r => r
  | _, _, _ + 1, .nil => .nil
  | _, _, n + 1, .cons _ t => DpAll.drop n t
theorem DpAll.ints : ∀ (ns : List Int), DpAll K H (ns.map V.int) (ns.map PyData.int)
  | [] => .nil
  | n :: ns => .cons (.int n) (DpAll.ints ns)
end
/-- the type of a datum -/
def tyD : PyData → String
  | .none => "NoneType" | .bool _ => "bool" | .int _ => "int" | .str _ => "str" | .list _ => "list" | .tuple _ => "tuple" | .dict _ => "dict"
theorem Dp.ty {K : PySem.W.Frag} {H : Hp} {v : V} {d : PyData} (h : Dp K H v d) : TyX K H v (.type (tyD d)) := by
  cases h with
  | non => exact .base .non
  | bl b => exact .base (.bl b)
  | int i => exact .base (.int i)
  | str x => exact .base (.str x)
  | lst h _ =>
    rcases h with (h | ⟨o, h⟩) | ⟨o, its, n, h1, h2, _⟩
    · exact .base (.lst h)
    · exact .base (.frz h)
    · exact .kList h1 h2
  | tup h _ =>
    rcases h with (h | ⟨o, h⟩) | ⟨o, its, n, h1, h2, _⟩
    · exact .base (.tup h)
    · exact .fTuple h
    · exact .kTuple h1 h2
/-- isinstance(d, T) -/
def isT (a T : String) : Bool := a == T || (a == "bool" && T == "int")
def isD (T : String) (d : PyData) : Bool := isT (tyD d) T
theorem kit_all : ∀ a ∈ ["NoneType", "bool", "int", "str", "list", "tuple", "dict"], ∀ T ∈ ["int", "bool", "str", "tuple", "list"], kitB a T = some (isT a T) := by decide +kernel
theorem tyD_mem (d : PyData) : tyD d ∈ ["NoneType", "bool", "int", "str", "list", "tuple", "dict"] := by cases d <;> simp [tyD]
theorem kit_isD {K : PySem.W.Frag} {T : String} (hT : T ∈ ["int", "bool", "str", "tuple", "list"]) (d : PyData) : PySem.W.kitOne K (.type (tyD d)) (.type T) = some (isD T d) := kit_ty (kit_all _ (tyD_mem d) _ hT)
theorem w_isi {K : PySem.W.Frag} {H : Hp} {v : V} {d : PyData} {T : String} {Q : VK} (h : Dp K H v d) (hT : T ∈ ["int", "bool", "str", "tuple", "list"]) (q : Q (.bl (isD T d)) H) : rIsi K [v, .ty T] H Q :=
  ⟨v, .ty T, _, _, _, rfl, .ty T, Dp.ty h, kit_isD hT d, q⟩
def isIntD : PyData → Bool | .int _ => true | .bool _ => true | _ => false
def isBoolD : PyData → Bool | .bool _ => true | _ => false
def isStrD : PyData → Bool | .str _ => true | _ => false
def isTupD : PyData → Bool | .tuple _ => true | _ => false
def isListD : PyData → Bool | .list _ => true | _ => false
theorem isInt_eq (d : PyData) : isD "int" d = isIntD d := by cases d <;> rfl
theorem isBool_eq (d : PyData) : isD "bool" d = isBoolD d := by cases d <;> rfl
theorem isStr_eq (d : PyData) : isD "str" d = isStrD d := by cases d <;> rfl
theorem isTup_eq (d : PyData) : isD "tuple" d = isTupD d := by cases d <;> rfl
theorem isList_eq (d : PyData) : isD "list" d = isListD d := by cases d <;> rfl
section
variable {K : PySem.W.Frag} {H : Hp} {v : V} {d : PyData} {Q : VK} {σ : L2.St}
theorem w_isiInt (h : Dp K H v d) (q : Q (.bl (isIntD d)) H) : rIsi K [v, .ty "int"] H Q := w_isi h (by decide) (by rw [isInt_eq]; exact q)
theorem w_isiBool (h : Dp K H v d) (q : Q (.bl (isBoolD d)) H) : rIsi K [v, .ty "bool"] H Q := w_isi h (by decide) (by rw [isBool_eq]; exact q)
theorem w_isiStr (h : Dp K H v d) (q : Q (.bl (isStrD d)) H) : rIsi K [v, .ty "str"] H Q := w_isi h (by decide) (by rw [isStr_eq]; exact q)
theorem w_isiTup (h : Dp K H v d) (q : Q (.bl (isTupD d)) H) : rIsi K [v, .ty "tuple"] H Q := w_isi h (by decide) (by rw [isTup_eq]; exact q)
theorem w_isiList (h : Dp K H v d) (q : Q (.bl (isListD d)) H) : rIsi K [v, .ty "list"] H Q := w_isi h (by decide) (by rw [isList_eq]; exact q)
theorem w_isiT2 {t1 t2 : String} (h : Dp K H v d) (h1 : t1 ∈ ["int", "bool", "str", "tuple", "list"]) (h2 : t2 ∈ ["int", "bool", "str", "tuple", "list"]) (q : ∀ H', Same H H' → Q (.bl (isD t1 d || isD t2 d)) H') :
    tCons (tTup (tCons (tC (.ty t1)) (tCons (tC (.ty t2)) tNil))) tNil σ H (fun xs H2 => rIsiT K (v :: xs) H2 Q) := by
  refine ⟨by show 2 ≤ sizeLine; decide, fun p hp => ?_⟩
  have s := same_new (o := .tup [V.ty t1, V.ty t2]) hp
  refine ⟨v, p, [.ty t1, .ty t2], _, [.type t1, .type t2], _, rfl, upd_same, .cons (.ty t1) (.cons (.ty t2) .nil), Dp.ty (Same.dp s h), ?_, q _ s⟩
  refine kitAny_cons (kit_isD h1 d) (fun e => ?_) fun e => by rw [e, Bool.true_or]
  rw [e, Bool.false_or]
  refine kitAny_cons (kit_isD h2 d) (fun e2 => ?_) fun e2 => e2
  rw [e2]
  exact kitAny_nil
theorem w_isiIntStr (h : Dp K H v d) (q : ∀ H', Same H H' → Q (.bl (isIntD d || isStrD d)) H') : newT [.ty "int", .ty "str"] H (fun x H1 => tNil σ H1 fun xs H2 => rIsiT K (v :: x :: xs) H2 Q) :=
  w_isiT2 h (by decide) (by decide) fun H' s => by rw [isInt_eq, isStr_eq]; exact q H' s
theorem w_isiListTup (h : Dp K H v d) (q : ∀ H', Same H H' → Q (.bl (isListD d || isTupD d)) H') : newT [.ty "list", .ty "tuple"] H (fun x H1 => tNil σ H1 fun xs H2 => rIsiT K (v :: x :: xs) H2 Q) :=
  w_isiT2 h (by decide) (by decide) fun H' s => by rw [isList_eq, isTup_eq]; exact q H' s
end
theorem perm_erase {α : Type} : ∀ {l : List α} {j : Nat} (h : j < l.length), (l[j] :: l.eraseIdx j).Perm l
  | a :: l, 0, _ => List.Perm.refl _
  | a :: l, j + 1, h => by
    have ih := perm_erase (l := l) (j := j) (by simpa using h)
    exact (List.Perm.swap _ _ _).trans (ih.cons a)
def rIsN0 : R2 := fun x y H Q => y = .non ∧ Q (.bl (decide (x = .non))) H
def rNotN0 : R2 := fun x y H Q => y = .non ∧ Q (.bl (!decide (x = .non))) H
theorem op_isN0 {X : Cx} : OpR X (compareOp .Is) rIsN0 := op_isN
theorem op_notN0 {X : Cx} : OpR X (compareOp .IsNot) rNotN0 := op_notN
section
variable {H : Hp} {Q : VK} {x : V} {a : Addr} {i : Int} {b : Bool} {z : Str}
theorem w_isN (q : Q (.bl (decide (x = .non))) H) : rIsN0 x .non H Q := ⟨rfl, q⟩
theorem w_isN_non (q : Q (.bl true) H) : rIsN0 .non .non H Q := ⟨rfl, q⟩
theorem w_isN_int (q : Q (.bl false) H) : rIsN0 (.int i) .non H Q := ⟨rfl, q⟩
theorem w_isN_str (q : Q (.bl false) H) : rIsN0 (.str z) .non H Q := ⟨rfl, q⟩
theorem w_isN_bl (q : Q (.bl false) H) : rIsN0 (.bl b) .non H Q := ⟨rfl, q⟩
theorem w_isN_ref (q : Q (.bl false) H) : rIsN0 (.ref a) .non H Q := ⟨rfl, q⟩
theorem w_notN_non (q : Q (.bl false) H) : rNotN0 .non .non H Q := ⟨rfl, q⟩
theorem w_notN_int (q : Q (.bl true) H) : rNotN0 (.int i) .non H Q := ⟨rfl, q⟩
theorem w_notN_str (q : Q (.bl true) H) : rNotN0 (.str z) .non H Q := ⟨rfl, q⟩
theorem w_notN_bl (q : Q (.bl true) H) : rNotN0 (.bl b) .non H Q := ⟨rfl, q⟩
theorem w_notN_ref (q : Q (.bl true) H) : rNotN0 (.ref a) .non H Q := ⟨rfl, q⟩
/-- == of alike scalars -/
theorem w_EqSame (hs : scal x x = true) (q : Q (.bl true) H) : rEq x x H Q := ⟨hs, by rw [decide_eq_true (rfl : x = x)]; exact q⟩
theorem w_NeSame (hs : scal x x = true) (q : Q (.bl false) H) : rNe x x H Q := ⟨hs, by rw [decide_eq_true (rfl : x = x)]; exact q⟩
end
/-! ### more named rules -/
/-- a thing of places: a list, a tuple, a text by its signs -/
def IsSeq (K : PySem.W.Frag) (H : Hp) (s : V) (xs : List V) : Prop := (∃ a, s = .ref a ∧ SqL K H a xs) ∨ (∃ a, s = .ref a ∧ SqT K H a xs) ∨ ∃ z : Str, s = .str z ∧ z.length ≤ sizeLine ∧ xs = z.cps.toList.map fun c => V.str ⟨#[c]⟩
theorem IsSeq.same {K : PySem.W.Frag} {H H' : Hp} {s : V} {xs : List V} (h : IsSeq K H s xs) (e : Same H H') : IsSeq K H' s xs := by
  rcases h with ⟨a, h1, h2⟩ | ⟨a, h1, h2⟩ | h
  · exact .inl ⟨a, h1, e.seq h2⟩
  · exact .inr (.inl ⟨a, h1, Same.tup e h2⟩)
  · exact .inr (.inr h)
def rLenA (K : PySem.W.Frag) : List V → Hp → VK → Prop := fun xs H Q => rLen K xs H Q ∨ rLenStr xs H Q
theorem call_lenA {X : Cx} : CallR X (.builtin "len") (rLenA X.K) := call_lenS.or call_lenStr
section
variable {K : PySem.W.Frag} {σ : L2.St} {H : Hp} {Q : VK} {s v y : V} {xs : List V} {to te ta : TE}
theorem w_lenA (h : IsSeq K H s xs) (q : Q (.int xs.length) H) : rLenA K [s] H Q := by
  rcases h with ⟨a, rfl, h2⟩ | ⟨a, rfl, h2⟩ | ⟨z, rfl, hz, rfl⟩
  · exact .inl (w_len h2 q)
  · exact .inl (w_lenT h2 q)
  · refine .inr (w_lenStr hz ?_)
    rw [List.length_map, Array.length_toList] at q
    exact q
theorem w_ixA {j : Nat} (h : IsSeq K H s xs) (hj : xs[j]? = some v) (q : Q v H) : rIx K s (.int (j : Int)) H Q := by
  rcases h with ⟨a, rfl, h2⟩ | ⟨a, rfl, h2⟩ | ⟨z, rfl, hz, rfl⟩
  · exact .inl (w_ixL h2 (atI_nat hj) q)
  · exact .inr (.inl (w_ixT h2 (atI_nat hj) q))
  · rw [List.getElem?_map] at hj
    cases e : z.cps.toList[j]? with
    | none => rw [e] at hj; cases hj
    | some c =>
      rw [e] at hj
      cases hj
      exact .inr (.inr ⟨z, _, c, rfl, rfl, hz, atI_nat e, q⟩)
theorem w_M1 {r : V → List V → Hp → VK → Prop} (h : to σ H fun x H1 => (∃ a, x = .str a) ∧ te σ H1 fun y H2 => r x [y] H2 Q) : tM1 r to te σ H Q := h
theorem w_strAnd {z : Str} {B : Prop} (h : B) : (∃ a, V.str z = .str a) ∧ B := ⟨⟨z, rfl⟩, h⟩
def rJoin (K : PySem.W.Frag) : V → List V → Hp → VK → Prop := fun x xs H Q => ∃ a p, ∃ ys : List Str, x = .str a ∧ xs = [.ref p] ∧ (SqL K H p (ys.map V.str) ∨ SqT K H p (ys.map V.str)) ∧
      (ys.map (·.length)).sum + ys.length * a.length ≤ 16777216 ∧ Q (.str (Txt.join a ys)) H
theorem w_join {a : Str} {p : Addr} {ys : List Str} (h : SqL K H p (ys.map V.str)) (hz : (ys.map (·.length)).sum + ys.length * a.length ≤ 16777216) (q : Q (.str (Txt.join a ys)) H) : rJoin K (.str a) [.ref p] H Q := ⟨a, p, ys, rfl, rfl, .inl h, hz, q⟩
theorem w_sortedS {a : Addr} {xs : List Str} (h : SqL K H a (xs.map V.str)) (hl : xs.length < 64) (q : ∀ ys p H', ys.Perm xs → sortedS ys = true → H p = none → Same H H' → H' p = some (.lst (ys.map V.str)) → Q (.ref p) H') : rSortedS K [.ref a] H Q :=
  ⟨a, xs, rfl, h, hl, fun ys p h1 h2 hp => q ys p _ h1 h2 hp (same_new hp) upd_same⟩
theorem w_sortedI {a : Addr} {ns : List Int} (h : SqL K H a (ns.map V.int)) (q : ∀ (ns' : List Int) p H', ns'.Perm ns → ns'.Pairwise (· ≤ ·) → H p = none → Same H H' → H' p = some (.lst (ns'.map V.int)) → Q (.ref p) H') : rSortedI K [.ref a] H Q :=
  ⟨a, ns, rfl, h, fun ys p h1 h2 hp => q ys p _ h1 h2 hp (same_new hp) upd_same⟩
theorem w_lstRg {tr : L2.St → Hp → (Int → Int → Hp → Prop) → Prop} (h : tr σ H fun a b H1 => RgOk a b ∧ newO (.lst (rgV a b)) H1 Q) : tLstRg tr σ H Q := h
theorem w_rg1 {R : Int → Int → Hp → Prop} (h : ta σ H fun x H1 => ∃ n, x = .int n ∧ R 0 n H1) : tRg1 ta σ H R := h
theorem w_rgNew {a b : Int} (c : RgOk a b) (q : ∀ p H', H p = none → Same H H' → H' p = some (.lst (rgV a b)) → Q (.ref p) H') : RgOk a b ∧ newO (.lst (rgV a b)) H Q := ⟨c, w_newO q⟩
theorem w_iRng1 {tr : TA} {R : It → Hp → Prop} (h : tr σ H fun vs H1 => ∃ j : Int, vs = [.int j] ∧ -(2 ^ 62) ≤ j ∧ j < 2 ^ 62 ∧ R (Itr 0 j.toNat) H1) : iRng1 tr σ H R := h
theorem w_iRngR {j : Int} {R : Int → Prop} (h0 : -(2 ^ 62) ≤ j) (h1 : j < 2 ^ 62) (q : R j) : ∃ k : Int, [V.int j] = [.int k] ∧ -(2 ^ 62) ≤ k ∧ k < 2 ^ 62 ∧ R k := ⟨j, rfl, h0, h1, q⟩
theorem w_tyL {l : Addr} {B : Prop} (h : SqL K H l xs) (q : B) : tyV K "list" (.ref l) H ∧ B := by
  refine ⟨?_, q⟩
  rcases h with h | ⟨o, its, n, h1, h2, _⟩
  · exact .inl ⟨rfl, _, .inl h⟩
  · exact .inl ⟨rfl, xs, .inr ⟨o, its, n, h1, h2, ‹_›⟩⟩
theorem w_popAt {l : Addr} {k : Nat} (h : H l = some (.lst xs)) (hz : xs.length ≤ 100000) (hy : xs[k]? = some y) (q : ∀ H', H' l = some (.lst (xs.eraseIdx k)) → del H' l = del H l → Q y H') : rPopAt (.ref l) [.int (k : Int)] H Q := by
  have hk := (List.getElem?_eq_some_iff.mp hy).1
  refine ⟨l, xs, k, k, y, rfl, rfl, h, by omega, by omega, ?_, hy, q _ upd_same del_upd⟩
  unfold seqIndex?
  simp only [show ¬ ((k : Int) < 0) by omega, if_false]
  rw [if_pos (by simp; omega)]
  simp
theorem w_append {l : Addr} (h : H l = some (.lst xs)) (hz : xs.length ≤ 100000) (q : ∀ H', H' l = some (.lst (xs ++ [y])) → del H' l = del H l → Q .non H') : rAppend (.ref l) [y] H Q :=
  ⟨l, xs, y, rfl, rfl, h, Nat.lt_of_le_of_lt hz (by decide), q _ upd_same del_upd⟩
def rGeStr : R2 := fun x y H Q => ∃ i j, x = .str i ∧ y = .str j ∧ Q (.bl (!decide (i.cps.toList < j.cps.toList))) H
theorem w_geStr {a b : Str} (q : Q (.bl (!decide (a.cps.toList < b.cps.toList))) H) : rGeStr (.str a) (.str b) H Q := ⟨a, b, rfl, rfl, q⟩
theorem w_slS {z : Str} {lo hi : Option Int} (h : z.length ≤ sizeLine) (q : Q (.str (cutS z lo hi)) H) : rSlS (.str z) lo hi H Q := ⟨z, rfl, h, q⟩
theorem w_inSeq {p : Addr} (h : SqL K H p xs ∨ SqT K H p xs) (hx : flatV s = true) (ha : xs.all flatV = true) (q : Q (.bl (inV s xs)) H) : rIn K false s (.ref p) H Q := ⟨p, xs, rfl, h, hx, ha, q⟩
theorem w_notInSeq {p : Addr} (h : SqL K H p xs ∨ SqT K H p xs) (hx : flatV s = true) (ha : xs.all flatV = true) (q : Q (.bl (!inV s xs)) H) : rIn K true s (.ref p) H Q := ⟨p, xs, rfl, h, hx, ha, q⟩
theorem w_eqD {x y : V} {d e : PyData} (hd : Dp K H x d) (he : Dp K H y e) (sd : SeqAt.shaped d = true) (se : SeqAt.shaped e = true) (q : Q (.bl (PyData.eqv d e)) H) : rEqD K x y H Q := ⟨d, e, hd, he, sd, se, q⟩
theorem w_neD {x y : V} {d e : PyData} (hd : Dp K H x d) (he : Dp K H y e) (sd : SeqAt.shaped d = true) (se : SeqAt.shaped e = true) (q : Q (.bl (!PyData.eqv d e)) H) : rNeD K x y H Q := ⟨d, e, hd, he, sd, se, q⟩
theorem w_iEnum {tr : TA} {R : It → Hp → Prop} (h : tr σ H fun vs H1 => ∃ a xs, vs = [.ref a] ∧ SqL K H1 a xs ∧ R (Ite K a) H1) : iEnum K tr σ H R := h
theorem w_iEnumR {a : Addr} {R : Addr → Prop} (h : SqL K H a xs) (q : R a) : ∃ b ys, [V.ref a] = [.ref b] ∧ SqL K H b ys ∧ R b := ⟨a, xs, rfl, h, q⟩
end
section
variable {X : Cx} {o e : Expr} {to te : TE}
theorem op_geStr : OpR X (compareOp .GtE) rGeStr := op_ge_str
theorem pe_joinN {apos pos : Pos} (ho : PE X o to) (he : PE X e te) (hs : starEach [e] X.env = [(false, eval e X.env)] := by rfl) (hbase : attributeBase o "join" X.env (eval o X.env) = eval o X.env := by rfl) (hline : (apos.endLine == pos.line) = true := by rfl) :
    PE X (.Call (.Attribute o "join" apos) [e] [] pos) (tM1 (rJoin X.K) to te) := pe_join ho he hs hbase hline
end
/-- a comprehension by an invariant: Pv by the list's place, the turn, what is made so far, the heap -/
theorem lc_inv {J : It} {n : Nat} {G : Hp → Prop} {Y : Nat → Hp → V → Hp → Prop} {σ : L2.St} {H : Hp} {g : TG} {te : TE} {tt : TT} {vs : List Nat} {Q : VK} (w : Walk J n G Y) (Pv : Addr → Nat → List V → Hp → Prop)
    (h0 : ∀ D H', H D = none → Same H H' → H' D = some (.lst []) → Pv D 0 [] H') (hG : ∀ D i acc H', i ≤ n → H D = none → H' D = some (.lst acc) → Pv D i acc H' → G H')
    (hs : ∀ D i acc x H1 H2 (N : VK) (M : Hp → Prop), i < n → H D = none → H1 D = some (.lst acc) → Pv D i acc H1 → Y i H1 x H2 →
      (∀ y H5 acc', H5 D = some (.lst acc') → acc'.length < sizeLine → (∀ H6, H6 D = some (.lst (acc' ++ [y])) → del H6 D = del H5 D → Pv D (i + 1) (acc' ++ [y]) H6) → N y H5) → (∀ H4 acc', H4 D = some (.lst acc') → Pv D (i + 1) acc' H4 → M H4) →
      g x (wipe σ vs) H2 fun σ2 H3 => wipe σ2 vs = wipe σ vs ∧ tt σ2 H3 fun b H4 => if b = true then te σ2 H4 N else M H4)
    (hd : ∀ D acc H', H D = none → H' D = some (.lst acc) → Pv D n acc H' → Q (.ref D) H') : lcGoal J g tt te vs σ H Q := by
  intro D hDn
  have hp := h0 D _ hDn (same_new hDn) upd_same
  refine ⟨fun i m H' => m = n - i ∧ i ≤ n ∧ ∃ acc, H' D = some (.lst acc) ∧ Pv D i acc H', ⟨n, by simp, Nat.zero_le _, [], upd_same, hp⟩, ?_⟩
  rintro i m H' ⟨rfl, hi, acc, e, p⟩
  have q := hG D i acc H' hi hDn e p
  by_cases hlt : i < n
  · refine .inr ⟨w.goes i H' hlt q, fun H4 => ∃ acc', H4 D = some (.lst acc') ∧ Pv D (i + 1) acc' H4, fun H4 ⟨acc', p1, p2⟩ => ⟨n - (i + 1), by omega, rfl, hlt, acc', p1, p2⟩, fun x H2 y => ?_⟩
    exact hs D i acc x H' H2 _ _ hlt hDn e p (w.yields i H' x H2 hlt q y) (fun v H5 acc' e5 sz k => ⟨acc', e5, sz, acc' ++ [v], upd_same, k _ upd_same del_upd⟩) fun H4 acc' e4 p4 => ⟨acc', e4, p4⟩
  · have e2 : i = n := by omega
    subst e2
    exact .inl ⟨w.stops H' q, hd D acc H' hDn e p⟩
section
variable {K : PySem.W.Frag} {σ : L2.St} {H : Hp} {Q : VK} {td ty tx : TE} {a : Addr} {kvs : List (Key × V)} {k : Key} {v z : V}
theorem w_dnewK (q : ∀ p H', H p = none → Same H H' → H' p = some (.dK []) → Q (.ref p) H') : tDNewK σ H Q := w_newO q
theorem w_dgetT (h : td σ H fun x H1 => ty σ H1 fun y H2 => ∃ a v, x = .ref a ∧ DGet H2 a y (some v) ∧ Q v H2) : tDGet td ty σ H Q := h
theorem w_dget {R : V → Prop} (h : H a = some (.dK kvs)) (e : valV kvs k = some v) (q : R v) : ∃ a' v', V.ref a = .ref a' ∧ DGet H a' (kV k) (some v') ∧ R v' := ⟨a, v, rfl, e ▸ DGet.k h, q⟩
theorem w_dsetdT (h : td σ H fun x H1 => ∃ a, x = .ref a ∧ IsD H1 a ∧ ty σ H1 fun y H2 => tx σ H2 fun z H3 => ∃ (kvs : List (Key × V)) (k : Key), H3 a = some (.dK kvs) ∧ y = kV k ∧ kvs.length < sizeLine ∧
  (∀ v, valV kvs k = some v → Q v H3) ∧ (valV kvs k = none → Q z (upd H3 a (.dK (putK kvs k z))))) : tDSetd td ty tx σ H Q := h
theorem w_dsetd {R : V → Hp → Prop} (h : H a = some (.dK kvs)) (sz : kvs.length ≤ 100000) (q : ∀ v H', H' a = some (.dK (if (valV kvs k).isSome = true then kvs else putK kvs k z)) → del H' a = del H a → R v H') :
    ∃ (kvs : List (Key × V)) (j : Key), H a = some (.dK kvs) ∧ kV k = kV j ∧ kvs.length < sizeLine ∧ (∀ v, valV kvs j = some v → R v H) ∧ (valV kvs j = none → R z (upd H a (.dK (putK kvs j z)))) := by
  refine ⟨kvs, k, h, rfl, Nat.lt_of_le_of_lt sz (by decide), fun v e => ?_, fun e => ?_⟩
  · exact q v H (by rw [e]; exact h) rfl
  · exact q z _ (by rw [e]; exact upd_same) del_upd
theorem w_isDK {R : Addr → Prop} (h : H a = some (.dK kvs)) (q : R a) : ∃ b, V.ref a = .ref b ∧ IsD H b ∧ R b := ⟨a, rfl, .inl ⟨kvs, .inl h⟩, q⟩
theorem w_index {xs : List V} {y z : V} {j : Nat} (h : SqL K H a xs) (hy : flatV y = true) (ha : xs.all flatV = true) (hz : xs[j]? = some z) (e : eqV z y = true) (hn : ∀ (i : Nat) w, i < j → xs[i]? = some w → eqV w y = false) (q : Q (.int (j : Int)) H) : rIndex K (.ref a) [y] H Q := ⟨a, xs, y, j, z, rfl, rfl, h, hy, ha, hz, e, hn, q⟩
end
theorem w_lenD {a : Addr} {kvs : List (Key × V)} {H : Hp} {Q : VK} (h : H a = some (.dK kvs)) (q : Q (.int kvs.length) H) : (fun xs H Q => ∃ a kvs, xs = [V.ref a] ∧ H a = some (.dK kvs) ∧ Q (.int kvs.length) H : List V → Hp → VK → Prop) [V.ref a] H Q := ⟨a, kvs, rfl, h, q⟩
def rLenD : List V → Hp → VK → Prop := fun xs H Q => ∃ d kvs, xs = [.ref d] ∧ H d = some (.dK kvs) ∧ Q (.int kvs.length) H
theorem w_lenDN {a : Addr} {kvs : List (Key × V)} {H : Hp} {Q : VK} (h : H a = some (.dK kvs)) (q : Q (.int kvs.length) H) : rLenD [V.ref a] H Q := ⟨a, kvs, rfl, h, q⟩
theorem call_lenDN {X : Cx} : CallR X (.builtin "len") rLenD := call_lenD
/-- the end of a law whose defs may raise -/
theorem walk_nc {l : PySem.W.OpenLaw} {n k : Nat} {q : Program} {loose : List Str} {XP : (Str → Option Value) → Heap → Prop} {YP : World → Heap → Prop} {d : DefRec} {x : Str}
    (hn : l.most = some n) (hn2 : n ≤ sizeLine) (hdf : d.params.defaults = []) (hr : Room k callerA)
    (F : ∀ (w : World) (mg : Str → Option Value) (fa : Addr) (h : Heap), YP w h → h.Ns mainGlobals mg → mg d.name = some (.ref fa) →
      ∃ (K : PySem.W.Frag) (fd : FuncData) (sp : Sp), K.In h ∧ (∀ (s : Shared) (u : Value), BindsTo s fd ⟨[u], []⟩ [(x, u)]) ∧
        (∀ (H : Hp) (a : Addr) (ns : List Int), ns.length ≤ n → (∀ z ∈ ns, Builtin.Int.intBits z ≤ 1048576) → Only H → SqL K H a (ns.map V.int) → sp [.ref a] H (fun v _ => v = .bl true) fun _ _ _ => False) ∧
        ∀ base : Heap, K.In base → base.Ns mainGlobals mg → FnOk l.prog w K mg base (L2.CX l.prog w) k fa fd [x] sp) :
    PySem.W.WalkO q loose XP YP l.row.toRowW d [] (fun f vs => PySem.call f vs) := by
  refine Att.attach_callB hn hdf fun w s₀ s₁ mg mb fa o pm cd doc a vs ns G Y ho hd hcd hmg hobj hints hlen hbits hg => ?_
  obtain ⟨K, fd, sp, KX, hb, hsp, hF⟩ := F w mg fa _ Y G.T.g hmg
  exact law_call KX G.T.g G.T.b G.T.builtins G.T.nolimit hg hobj hints (Nat.le_trans hlen hn2) hr hF hb (fun H hO hS => hsp H a ns hlen hbits hO hS) fun H e s' z => by
    obtain ⟨_, _, _, _, _, _, _, _, _, _, _, _, z⟩ := z
    exact z
end Nc

namespace Nc
open PySem PySem.Spec PySem.Calls PyProof.Rows L2 PySem.W
/-! ## a, b, *c = a tuple -/
section
variable {prog : Program} {w : World} {A : Around} {E : Value → Shared → Prop} {s : Shared}
theorem star_tup {l : Addr} {items : Array Value} {i : Nat} {Q : List Value → Shared → Prop} (hl : IsTup s.heap l items) (hh : A.handled = none) (hi : i ≤ items.size) (hz : items.size ≤ 16384)
    (h : ∀ (h' : Heap) (tk : Nat), (∀ b o, s.heap.get? b = some o → h'.get? b = some o) → Q (items.toList.take i ++ [.ref h'.objs.size]) { s with heap := h'.push { cls := .type "list", data := .seq (items.toList.drop i).toArray }, toks := tk }) :
    wpAny (model prog w) A (unpackItems (.ref l) (i + 1) (some i)) Q E s := by
  have hlt : l ≠ s.heap.objs.size := by obtain ⟨o, ho, _⟩ := hl; exact Nat.ne_of_lt (Heap.lt_size ho)
  have hll : l < s.heap.objs.size := by obtain ⟨o, ho, _⟩ := hl; exact Heap.lt_size ho
  unfold unpackItems
  refine wpAny_bind ?_
  unfold notIterableAtAll
  refine wpAny_bind (wpAny_specialOf hl.typeIs slot_tuple_iter.lookup ?_)
  refine wpAny_pure ?_
  simp only [Bool.false_eq_true, if_false]
  refine wpAny_bind (wpAny_holding (iter_tuple hl ?_))
  refine wpAny_bind (wpAny_holding (draw_tuple hlt i 0 _ _ ⟨_, Heap.get?_push_size _ rfl, rfl, rfl⟩ (hl.push _) (by omega) fun h₁ hit₁ hs₁ => ?_))
  have hl₁ : IsTup h₁ l items := (hl.push _).extBut hs₁.extBut hlt
  rw [Nat.zero_add] at hit₁
  have hit₁' := hit₁
  obtain ⟨oi, hoi, _⟩ := hit₁'
  have hl₁' := hl₁
  obtain ⟨ol, hol, _⟩ := hl₁'
  rw [List.drop_zero]
  have hfl : (items.toList.take i).length = i := by rw [List.length_take, Array.length_toList]; omega
  rw [if_neg (show ¬ ((items.toList.take i).length < i) by rw [hfl]; omega)]
  refine wpAny_bind (wpAny_holding (kun_collect (s := { s with heap := h₁ }) (T := "tuple_iterator") (.inr (.inr (.inr rfl))) (Walks.tuple (A := A.in1) hh s.heap.objs.size l hlt items) (fun j u st => st.1.typeIs) (k := i) (by omega) ⟨hit₁, hl₁⟩ (Heap.lt_size hoi) (Heap.lt_size hol) (fun h₂ tk hk => ?_) (by rw [sizeLine_eq]; omega)))
  have hrl : (items.toList.drop i).length = items.size - i := by rw [List.length_drop, Array.length_toList]
  have hmid : (items.toList.drop i).length - (i + 1 - 1 - i) = (items.toList.drop i).length := by omega
  show wpAny _ _ (if (items.toList.drop i).length < i + 1 - 1 - i then _ else _) _ _ _
  rw [if_neg (by rw [hrl]; omega)]
  show wpAny _ _ (newList ((items.toList.drop i).take ((items.toList.drop i).length - (i + 1 - 1 - i))) >>= fun d => pure (items.toList.take i ++ [d] ++ (items.toList.drop i).drop ((items.toList.drop i).length - (i + 1 - 1 - i)))) _ _ _
  rw [hmid, List.take_length, List.drop_length, ]
  refine wpAny_bind (wpAny_newList ?_ (by rw [hrl, sizeLine_eq]; omega))
  rw [List.append_nil]
  refine wpAny_pure (h h₂ tk fun b o e => ?_)
  have hb : b ≠ s.heap.objs.size := Nat.ne_of_lt (Heap.lt_size e)
  exact hk b o hb (hs₁.extBut b o hb (Heap.get?_push_of_some _ e))
end
section
variable {X : Cx} {pos : Pos}
def gTupStar (K : PySem.W.Frag) (n : Nat) (t : TGs) : TG := fun v σ H Q => ∃ a xs, v = .ref a ∧ SqT K H a xs ∧ n ≤ xs.length ∧ xs.length ≤ 16384 ∧ ∀ p, H p = none → t (xs.take n ++ [.ref p]) σ (upd H p (.lst (xs.drop n))) Q
theorem pg_tupStar {es : List Expr} {k : Nat} {t : TGs} {n : Nat} (hc : X.calm = true) (h : PGs X es t) (hn : (assignEach es X.env).length = n + 1 := by rfl) (hst : (assignEach es X.env).findIdx? (·.1) = some n := by rfl) : PG X (.Tuple es k pos) (gTupStar X.K n t) := by
  refine ⟨fun pins s σ H v u Q I r hw => ?_⟩
  obtain ⟨a, xs, e1, hq, hl, hz, hw⟩ := hw
  subst e1
  cases r
  obtain ⟨its, rv, ht, hz2⟩ := I.tuple hq
  have hlen : its.length = xs.length := rv.length.symm
  rw [assign_Tuple]
  refine wpAny_bind (wpAny_standAt ?_)
  unfold unpack
  rw [hn, hst]
  refine wpAny_bind (wpAny_holding (star_tup ht (I.ok.hd hc) (by rw [List.size_toArray]; omega) (by rw [List.size_toArray]; omega) fun h' tk hk => ?_))
  have I1 : Inv X pins σ H { s with heap := h', toks := tk } := I.kept (t' := tk) hk
  have hf : H h'.objs.size = none := I1.hok.fresh (Nat.le_refl _)
  have hd : Vals (xs.drop n) (its.drop n) := rv.drop n
  have I2 : Inv X pins σ (upd H h'.objs.size (.lst (xs.drop n))) { s with heap := h'.push { cls := .type "list", data := .seq (its.drop n).toArray }, toks := tk } :=
    I1.laid (t' := tk) (fun b u e => Heap.get?_push_of_some _ e) (Nat.le_refl _) ⟨by rw [List.length_drop, sizeLine_eq]; omega, its.drop n, 0, hd, Heap.get?_push_size _ rfl⟩
  exact h.run pins _ σ _ _ _ Q I2 ((rv.take n).append (.cons (show RelV (.ref _) (.ref _) from rfl) .nil)) (hw _ hf)
theorem pgs_consStar {e : Expr} {es : List Expr} {t : TG} {u : TGs} {p : Pos} (h1 : PG X e t) (h2 : PGs X es u)
    (hs : (assignEach (.Starred e p :: es) X.env).map (·.2) = assign e X.env :: (assignEach es X.env).map (·.2) := by rfl) : PGs X (.Starred e p :: es) (gCons t u) := by
  refine ⟨fun pins s σ H vs us Q I r h => ?_⟩
  obtain ⟨v, vr, e1, h⟩ := h
  subst e1
  cases r with
  | cons r rr =>
    rw [hs]
    refine assignInOrder_cons (thn (h1.run pins s σ H _ _ _ I r h) fun _ s1 ⟨σ1, H1, I1, q1⟩ => ?_)
    exact h2.run pins s1 σ1 H1 _ _ Q I1 rr q1
end
/-! ## max(xs, default=n) of ints -/
def mxD (d : Int) : List Int → Int
  | [] => d
  | n :: ns => ns.foldl max n
def rMaxDef (K : PySem.W.Frag) : List V → List V → Hp → VK → Prop := fun vs zs H Q => ∃ (a : Addr) (ns : List Int) (d : Int), vs = [.ref a] ∧ zs = [.int d] ∧ SqL K H a (ns.map V.int) ∧ Q (.int (mxD d ns)) H
theorem alike_ints (ns : List Int) : AlikeAll (ns.map PyData.int) := by
  refine ⟨fun x hx y hy => ?_, fun x hx => ?_⟩
  · obtain ⟨i, _, rfl⟩ := List.mem_map.mp hx
    obtain ⟨j, _, rfl⟩ := List.mem_map.mp hy
    simp [alike]
  · obtain ⟨i, _, rfl⟩ := List.mem_map.mp hx
    simp
theorem cr_maxDef {X : Cx} (hc : X.calm = true) (hu : X.A.units + 64 < cLine) : CallRK X (.builtin "max") [Str.ofString "default"] (rMaxDef X.K) := by
  intro pins s σ H xs zs us ws Q I r1 r2 h
  obtain ⟨a, ns, d, rfl, rfl, hs, q⟩ := h
  obtain ⟨its, rv, hl, hz⟩ := I.list hs
  rw [Vals.ref1 r1]
  obtain ⟨u, rfl, t, rfl⟩ := vals1 r2
  obtain ⟨as, hr⟩ := Dp.readsAll I (ns.map PyData.int) (ns.map V.int) its (DpAll.ints ns) rv
  have hd : ∀ ns : List Int, PyData.depthAll (ns.map PyData.int) = 0 := fun ns => by
    induction ns with
    | nil => rfl
    | cons n r ih => simp [PyData.depthAll, PyData.depth, ih]
  refine PySem.W.max_list_default (I.ok.hd hc) hl.isList (xs := ns.map .int) (by simpa using hr) (alike_ints ns) (by rw [hd]; omega) (fun e h' tk hk => ?_) fun y ys i v h' tk bs e hv hr2 hk => ?_
  · have e2 : ns = [] := List.map_eq_nil_iff.mp e
    subst e2
    exact ⟨.int d, H, I.kept (t' := tk) hk, ⟨t, rfl⟩, q⟩
  · cases ns with
    | nil => cases e
    | cons n ms =>
      cases e
      rw [PySem.W.maxD_ints] at hr2
      cases hr2
      exact ⟨.int (ms.foldl max n), H, I.kept (t' := tk) hk, ⟨_, rfl⟩, q⟩
end Nc

namespace Nc
open PySem PySem.Spec PyProof.Rows L2 ClX
/-! ## own exceptions -/
section
variable {X : Cx} {CX : CXT} {k : Nat} {C f : Addr} {mc : Value} {sp : Sp} {E : XK} {o e : Expr} {es : List Expr} {m : Str} {pos apos : Pos} {t : TA} {pl : Sem Bool} {fd : FuncData} {ps : List Str} {dvs : List V} {ds : List Value}
/-- C.m(self, ..): a def read off its class -/
theorem pe_cfn (he : PE X o (tC (.ref C))) (r : CRead X.K C mc) (c : CVal X.K C mc m (.ref f) (.ref f)) (F : FnOk X.prog X.w X.K X.mg X.base CX k f fd ps sp) (hr : Room k X.A) (kp : PySem.W.keepIn X.K (.ref f) = true) (hb : Binds X.K fd ps ds) (hd : Vals dvs ds) (hx : Passes CX X E) (ha : PA X (e :: es) t)
    (ht : eval (.Call (.Attribute o m apos) (e :: es) [] pos) X.env = (do
      let ov ← eval o X.env
      standAt apos.atName
      let (f, first) ← holding [ov] (getMethod ov m pl)
      callWith pos f first (backTo pos (starEach (e :: es) X.env)) (backToKw pos (keywordEach [] X.env))) := by rfl)
    (hst : starEach (e :: es) X.env = (false, eval e X.env) :: starEach es X.env := by rfl) (hpl : (backTo pos (starEach es X.env)).any (·.1) = false := by rfl) :
    PE X (.Call (.Attribute o m apos) (e :: es) [] pos) (tCall sp dvs E t) := by
  refine ⟨fun pins s σ H Q I h => ?_⟩
  refine PySem.W.methodCall_KW (pl := pl) (thn (he.run pins s σ H (fun x H1 => x = .ref C ∧ tCall sp dvs E t σ H1 Q) I ⟨rfl, h⟩) fun u s1 ⟨x, H1, I1, rx, ex, q⟩ => ?_) ht
  subst ex
  obtain rfl : u = Value.ref C := rx
  refine PySem.W.method_cls I1.kIn r.ga (getcval_ok I1 r c fun s2 I2 => ?_)
  show wpAny _ _ (callWith pos (.ref f) [] _ _) _ _ _
  refine PySem.W.callWith_K (h₀ := X.base) I2.ok.mod.kin kp (thn (ha.run pos pins s2 σ H1 _ I2 q) fun us s3 ⟨vs, H2, I3, rv, q2⟩ => ⟨I3.kIn, ?_⟩) hst hpl
  exact run_fn F hr hb hd hx I3 rv q2
end
theorem isfn_ty {K : PySem.W.Frag} {f : Addr} (h : PySem.W.isFn K (.ref f) = true) : PySem.W.typeIn K (.ref f) = some (.type "function") := beq_iff_eq.mp h
/-! ### what the written part says of such a class, looked up -/
def oexB (K : PySem.W.Frag) (C : Addr) : Bool := (match K.lookup C with
  | some ⟨.type "type", _, .cls cd, sl⟩ => (match cd.mro, sl.toList with
    | .ref C' :: bm, [_, _, _, _, some (.builtin n), _] => C' == C && n == "ValueError.__new__" && !cd.hasDel && cd.hasDict && PySem.HandSPX.refsVE bm
    | _, _ => false)
  | _ => false) && (He.eqO (PySem.W.findIn K (.ref C) "__setattr__") (some (some (.builtin "object.__setattr__"))) && (decide (PySem.W.subIn K (.ref C) (.type "BaseException") = some true) && (decide (PySem.W.typeIn K (.ref C) = some (.type "type")) && PySem.W.keepIn K (.ref C))))
theorem oexB_ok {K : PySem.W.Frag} {C : Addr} (h : oexB K C = true) : OexC K C := by
  unfold oexB at h
  obtain ⟨q, h⟩ := He.ba h
  obtain ⟨h1, h⟩ := He.ba h
  obtain ⟨h2, h⟩ := He.ba h
  obtain ⟨h3, h4⟩ := He.ba h
  refine ⟨?_, He.eqO_ok h1, of_decide_eq_true h2, of_decide_eq_true h3, h4⟩
  split at q
  · rename_i dd cd sl ho
    split at q
    · rename_i C' bm k0 k1 k2 k3 n k5 hm hs
      simp only [Bool.and_eq_true, beq_iff_eq, Bool.not_eq_true'] at q
      obtain ⟨⟨⟨⟨rfl, rfl⟩, hdel⟩, hdi⟩, ht⟩ := q
      obtain ⟨nm, bs, mro, ns, qn, hd, sn, sub, ab, col, del⟩ := cd
      dsimp only at hm hdel hdi
      subst hm hdel hdi
      have hsl : sl = #[k0, k1, k2, k3, some (.builtin "ValueError.__new__"), k5] := by
        obtain ⟨l⟩ := sl
        simp only at hs
        rw [hs]
      subst hsl
      exact ⟨nm, qn, ns, bs, bm, sn, sub, ab, col, dd, k0, k1, k2, k3, k5, ho, ht⟩
    · cases q
  · cases q
/-- a def read off a class -/
def creadB (K : PySem.W.Frag) (C : Addr) (m : Str) (f : Addr) : Bool := PySem.W.readsIn K C (.type "type") && (He.eqO (PySem.W.specialIn K (.ref C) "__getattribute__") (some (some (.builtin "type.__getattribute__"))) &&
  (match PySem.W.findCls K (.ref C) (.type "type") m with
  | some (.val (.ref g)) => decide (g = f)
  | _ => false))
theorem creadB_ok {K : PySem.W.Frag} {C f : Addr} {m : Str} (h : creadB K C m f = true) : CRead K C (.type "type") ∧ CVal K C (.type "type") m (.ref f) (.ref f) := by
  obtain ⟨h1, h⟩ := He.ba h
  obtain ⟨h2, h3⟩ := He.ba h
  refine ⟨⟨h1, He.eqO_ok h2⟩, ⟨?_, rfl⟩⟩
  split at h3
  · rename_i e
    rw [e, of_decide_eq_true h3]
  · cases h3
/-! ### the __init__ of the family -/
theorem upd_comm {H : Hp} {a b : Addr} {o u : HO} (h : a ≠ b) : upd (upd H a o) b u = upd (upd H b u) a o := by
  funext c
  unfold upd
  by_cases h1 : c = b
  · subst h1
    rw [if_pos rfl, if_neg (fun z => h z.symm), if_pos rfl]
  · rw [if_neg h1]
    by_cases h2 : c = a
    · subst h2; rw [if_pos rfl, if_pos rfl]
    · rw [if_neg h2, if_neg h2, if_neg h1]
def fldOk (K : PySem.W.Frag) (C : Addr) (f : Str) : Prop := PySem.W.findIn K (.ref C) f = some none
/-- CoteError.__init__(self, v) -/
def sp_init0 (K : PySem.W.Frag) : Sp := fun vs H Q _ => ∃ (a C : Addr) (v : V), vs = [.ref a, v] ∧ OexC K C ∧ fldOk K C "called" ∧ H a = some (exo a C none) ∧ ∀ d, H d = none → d ≠ a → Q .non (upd (upd H d (exd d [("called", v)])) a (exo a C (some d)))
theorem rd_init0 {K : PySem.W.Frag} {vs : List V} {H : Hp} {Q : VK} {E : XK} {N : List Str} (hN : N.length = 2) (h : sp_init0 K vs H Q E) :
    tSeq (tDrop (tVeI K (tCons (tVar 0) (tCons (tVar 1) tNil)))) (tOst K "called" (tVar 0) (tVar 1)) { nx := fun _ H' => Q .non H', rt := Q } (L2.start N vs) H := by
  obtain ⟨a, C, v, rfl, T, f1, ha, k⟩ := h
  have h0 : (L2.start N [V.ref a, v])[0]? = some (some (.ref a)) := rfl
  have h1 : (L2.start N [V.ref a, v])[1]? = some (some v) := rfl
  exact ⟨_, h0, ⟨_, h1, ⟨a, C, [v], rfl, by simp, T, ha, ⟨_, h1, ⟨_, h0, ⟨a, C, rfl, T, f1, .inl ⟨ha, fun d hd hne => k d hd hne⟩⟩⟩⟩⟩⟩⟩
/-- X.__init__(self, v): CoteError.__init__(self, 'X'); self.f = v -/
def sp_init1 (nm f : Str) (K : PySem.W.Frag) : Sp := fun vs H Q _ => ∃ (a C : Addr) (v : V), vs = [.ref a, v] ∧ OexC K C ∧ fldOk K C "called" ∧ fldOk K C f ∧ H a = some (exo a C none) ∧
  ∀ d, H d = none → d ≠ a → Q .non (upd (upd H d (exd d [(f, v), ("called", .str nm)])) a (exo a C (some d)))
theorem rd_init1 {K : PySem.W.Frag} {vs : List V} {H : Hp} {Q : VK} {E : XK} {N : List Str} {nm f : Str} (h : sp_init1 nm f K vs H Q E) :
    tSeq (tDrop (tCall (sp_init0 K) [] E (tCons (tVar 0) (tCons (tC (.str nm)) tNil)))) (tOst K f (tVar 0) (tVar 1)) { nx := fun _ H' => Q .non H', rt := Q } (L2.start N vs) H := by
  obtain ⟨a, C, v, rfl, T, f1, f2, ha, k⟩ := h
  have h0 : (L2.start N [V.ref a, v])[0]? = some (some (.ref a)) := rfl
  have h1 : (L2.start N [V.ref a, v])[1]? = some (some v) := rfl
  refine ⟨_, h0, ⟨a, C, .str nm, rfl, T, f1, ha, fun d hd hne => ⟨_, h1, ⟨_, h0, ⟨a, C, rfl, T, f2, .inr ⟨d, [("called", .str nm)], upd_same, ?_, by simp, ?_⟩⟩⟩⟩⟩⟩
  · rw [upd_ne hne]; exact upd_same
  · have := k d hd hne
    rw [upd_comm (Ne.symm hne), upd_upd]
    exact this
/-- X.__init__(self): CoteError.__init__(self, 'X') -/
def sp_initN (nm : Str) (K : PySem.W.Frag) : Sp := fun vs H Q _ => ∃ (a C : Addr), vs = [.ref a] ∧ OexC K C ∧ fldOk K C "called" ∧ H a = some (exo a C none) ∧
  ∀ d, H d = none → d ≠ a → Q .non (upd (upd H d (exd d [("called", .str nm)])) a (exo a C (some d)))
theorem rd_initN {K : PySem.W.Frag} {vs : List V} {H : Hp} {Q : VK} {E : XK} {N : List Str} {nm : Str} (h : sp_initN nm K vs H Q E) :
    tDrop (tCall (sp_init0 K) [] E (tCons (tVar 0) (tCons (tC (.str nm)) tNil))) { nx := fun _ H' => Q .non H', rt := Q } (L2.start N vs) H := by
  obtain ⟨a, C, rfl, T, f1, ha, k⟩ := h
  have h0 : (L2.start N [V.ref a])[0]? = some (some (.ref a)) := rfl
  exact ⟨_, h0, ⟨a, C, .str nm, rfl, T, f1, ha, fun d hd hne => k d hd hne⟩⟩
/-- what is raised: the class, the fields -/
theorem del_upd_new {H : Hp} {a d : Addr} {o u w : HO} (ha : H a = none) (hne : d ≠ a) : upd (del (upd (upd H d o) a u) a) d w = upd H d w := by
  funext c
  unfold upd L2.del
  by_cases h1 : c = d
  · rw [if_pos h1, if_pos h1]
  · rw [if_neg h1, if_neg h1]
    by_cases h2 : c = a
    · rw [if_pos h2, h2, ha]
    · rw [if_neg h2]
      show (if c = a then some u else if c = d then some o else H c) = H c
      rw [if_neg h2, if_neg h1]
/-! ### the Hook, with one more Bool and the dicts of the top -/
abbrev AlX : Type := He.AlD × Bool × List (Option (List (Option (Str × Int))))
def obsX (fa : List He.Fa) (fn : List He.DefD) (ex : PySem.W.Frag → Bool) (ts : List (Str × List Str)) (K : PySem.W.Frag) : AlX := (He.obsD fa fn K, ex K, ts.map fun t => He.dicW K (He.ga K t.1))
def valX (fn : List He.DefD) (ts : List (Str × List Str)) (w : World) : AlX := (He.valD fn, true, ts.map fun t => some (He.keysIn w.params t.2))
def obsXG (n : Nat) (fa : List He.Fa) (fn : List He.DefD) (ex : PySem.W.Frag → Bool) (ts : List (Str × List Str)) (g : Addr → Option Obj) : AlX := obsX fa fn ex ts (He.frG g (cStatics :: He.asD g n))
structure SaysX (fa : List He.Fa) (fn : List He.DefD) (ex : PySem.W.Frag → Bool) (ts : List (Str × List Str)) (w : World) (K : PySem.W.Frag) : Prop where
  c : He.SaysD fa fn K
  x : ex K = true
  t : (ts.map fun t => He.dicW K (He.ga K t.1)) = ts.map fun t => some (He.keysIn w.params t.2)
def hookX (n : Nat) (fa : List He.Fa) (fn : List He.DefD) (ex : PySem.W.Frag → Bool) (ts : List (Str × List Str)) : PySem.W.Hook where
  α := AlX
  obs := fun s => obsXG n fa fn ex ts s.heap.get?
  val := fun w => valX fn ts w
  says := fun w h => ∃ K : PySem.W.Frag, K.In h ∧ SaysX fa fn ex ts w K
  of := fun _ _ e => ⟨_, He.frG_in, congrArg (fun z : AlX => z.1) e, congrArg (fun z : AlX => z.2.1) e, congrArg (fun z : AlX => z.2.2) e⟩
  keeps := fun _ _ _ ⟨K, hK, c⟩ k => ⟨K, PySem.W.Frag.In.keeps hK k, c⟩
theorem obsXG_eq {n : Nat} {fa : List He.Fa} {fn : List He.DefD} {ex : PySem.W.Frag → Bool} {ts : List (Str × List Str)} {g : Addr → Option Obj} {s : Shared} (h : ∀ a, g a = s.heap.get? a) : obsXG n fa fn ex ts g = (hookX n fa fn ex ts).obs s := by
  have e : g = s.heap.get? := funext h
  rw [e] <;> rfl
theorem SaysX.tab {fa : List He.Fa} {fn : List He.DefD} {ex : PySem.W.Frag → Bool} {ts : List (Str × List Str)} {w : World} {K : PySem.W.Frag} (c : SaysX fa fn ex ts w K) (i : Nat) {t : Str × List Str} (h : ts[i]? = some t := by rfl) : ∃ es n, KDict K w (He.ga K t.1) es n := by
  have e2 : (ts.map fun t => He.dicW K (He.ga K t.1))[i]? = (ts.map fun t => some (He.keysIn w.params t.2))[i]? := by rw [c.t]
  rw [List.getElem?_map, List.getElem?_map, h] at e2
  exact He.dicW_ok (Option.some.inj e2)
/-! a dict of the top: its entries -/
def entOf (e : DictEntry) : Option (Str × V) := match e.key, e.val with
  | .str x _, .int i _ => some (x, .int i)
  | .str x _, .str z _ => some (x, .str z)
  | _, _ => none
def tblIs (K : PySem.W.Frag) (a : Addr) (kvs : List (Str × V)) : Bool := match K.lookup a with
  | some ⟨_, _, .dict es _, _⟩ => decide (es.toList.map entOf = kvs.map some)
  | _ => false
theorem tbl_find {es : List DictEntry} {kvs : List (Str × V)} {z : Str} (h : es.map entOf = kvs.map some) : (∀ v, kvs.lookup z = some v → ∃ e, es.find? (·.key.isStr z) = some e ∧ RelV v e.val) ∧ (kvs.lookup z = none → es.find? (·.key.isStr z) = none ∧ es.any (·.refKey) = false) := by
  induction es generalizing kvs with
  | nil =>
    cases kvs with
    | nil => exact ⟨fun v q => (by cases q), fun _ => ⟨rfl, rfl⟩⟩
    | cons _ _ => cases h
  | cons e r ih =>
    cases kvs with
    | nil => cases h
    | cons p kvs =>
      injection h with h1 h2
      obtain ⟨x, v0⟩ := p
      have ih := ih h2
      unfold entOf at h1
      have key : ∃ t, e.key = .str x t ∧ RelV v0 e.val := by
        split at h1
        · rename_i x' t i u e1 e2
          cases h1
          exact ⟨t, e1, by rw [e2]; exact ⟨_, rfl⟩⟩
        · rename_i x' t i u e1 e2
          cases h1
          exact ⟨t, e1, by rw [e2]; exact ⟨_, rfl⟩⟩
        · cases h1
      obtain ⟨t, e1, e2⟩ := key
      have hs : e.key.isStr z = (x == z) := by rw [e1]; rfl
      have hr : e.refKey = false := by unfold DictEntry.refKey; rw [e1] <;> rfl
      rw [List.lookup_cons, List.find?_cons, hs, List.any_cons, hr, Bool.false_or]
      by_cases q : x = z
      · subst q
        simp only [beq_self_eq_true]
        exact ⟨fun v w => (by cases w; exact ⟨e, rfl, e2⟩), fun w => (by cases w)⟩
      · have q1 : (x == z) = false := beq_eq_false_iff_ne.mpr q
        have q2 : (z == x) = false := beq_eq_false_iff_ne.mpr (Ne.symm q)
        rw [q1, q2]
        exact ih
theorem tbl_ns {K : PySem.W.Frag} {a : Addr} {kvs : List (Str × V)} (h : tblIs K a kvs = true) (z : Str) : (∀ v, kvs.lookup z = some v → ∃ u, PySem.W.nsIn K a z = some (some u) ∧ RelV v u) ∧ (kvs.lookup z = none → PySem.W.nsIn K a z = some none) := by
  unfold tblIs at h
  unfold PySem.W.nsIn
  split at h
  · rename_i q
    rw [q]
    have := tbl_find (z := z) (of_decide_eq_true h)
    refine ⟨fun v e => ?_, fun e => ?_⟩
    · obtain ⟨en, h1, h2⟩ := this.1 v e
      exact ⟨en.val, by simp only [h1], h2⟩
    · obtain ⟨h1, h2⟩ := this.2 e
      simp only [h1, h2]
      rfl
  · cases h
/-- x in T, T[x] -/
def rInTbl (K : PySem.W.Frag) (d : Addr) : R2 := fun x y H Q => ∃ (z : Str) (r : Option Value), x = .str z ∧ y = .ref d ∧ PySem.W.nsIn K d z = some r ∧ Q (.bl r.isSome) H
theorem op_inTbl {X : Cx} {d : Addr} (h : ∃ es n, KDict X.K X.w d es n) : OpR X (compareOp .In) (rInTbl X.K d) := let ⟨_, _, D⟩ := h; op_in_kd D
def allB : List Bool → Bool
  | [] => true
  | b :: r => b && allB r
theorem allB_at : ∀ {l : List Bool} {i : Nat} {b : Bool}, allB l = true → l[i]? = some b → b = true
  | [], _, _, _, e => by cases e
  | c :: r, 0, b, h, e => by cases e; exact (He.ba h).1
  | c :: r, i + 1, b, h, e => allB_at (l := r) (i := i) (He.ba h).2 e
end Nc

namespace Nc
open PySem PySem.Spec PyProof.Rows L2
/-! ### try with clauses of any kind: one class or a tuple of classes, with a name or without -/
section
variable {M : Model} {A : Around} {E : Value → Shared → Prop} {s : Shared}
theorem fi_all {f : Value → PUnit → Sem (ForInStep PUnit)} : ∀ {cs : List Value}, (∀ c ∈ cs, ∀ Q : ForInStep PUnit → Shared → Prop, Q (.yield PUnit.unit) s → wpAny M A (f c PUnit.unit) Q E s) → ∀ {Q : PUnit → Shared → Prop}, Q PUnit.unit s → wpAny M A (forIn cs PUnit.unit f) Q E s
  | [], _, Q, q => by rw [List.forIn_nil]; exact wpAny_pure q
  | c :: cs, h, Q, q => by
    rw [List.forIn_cons]
    exact wpAny_bind (h c (List.mem_cons_self ..) _ (fi_all (fun c hc => h c (List.mem_cons_of_mem _ hc)) q))
theorem fi_any {σ : Type} {st0 st1 : σ} {f : Value → σ → Sem (ForInStep σ)} {K : PySem.W.Frag} {cls : Value} : ∀ {cs : List Value} {b : Bool}, PySem.W.exmAny K cls cs = some b →
    (∀ c ∈ cs, ∀ v, PySem.W.exmOne K cls c = some v → ∀ Q : ForInStep σ → Shared → Prop, Q (if v = true then .done st1 else .yield st0) s → wpAny M A (f c st0) Q E s) → ∀ {Q : σ → Shared → Prop}, Q (if b = true then st1 else st0) s → wpAny M A (forIn cs st0 f) Q E s
  | [], b, hb, _, Q, q => by
    have : some false = some b := hb
    cases this
    rw [List.forIn_nil]
    exact wpAny_pure q
  | c :: cs, b, hb, h, Q, q => by
    obtain ⟨b1, d1, x1, y1, z1⟩ := PySem.W.exmAny_cons hb
    rw [List.forIn_cons]
    refine wpAny_bind (h c (List.mem_cons_self ..) b1 x1 _ ?_)
    cases b1 with
    | true =>
      subst z1
      exact wpAny_pure q
    | false =>
      subst z1
      exact fi_any y1 (fun c hc => h c (List.mem_cons_of_mem _ hc)) q
end
theorem exm_each {K : PySem.W.Frag} {cls : Value} : ∀ {cs : List Value} {b : Bool}, PySem.W.exmAny K cls cs = some b → ∀ c ∈ cs, ∃ v, PySem.W.exmOne K cls c = some v
  | [], _, _, _, h => by cases h
  | c :: cs, b, hb, c', h => by
    obtain ⟨b1, d1, x1, y1, z1⟩ := PySem.W.exmAny_cons hb
    rcases List.mem_cons.mp h with rfl | h
    · exact ⟨_, x1⟩
    · exact exm_each y1 c' h
theorem exm_tup {M : Model} {K : PySem.W.Frag} {cs : List Value} {cls : Value} {tp e : Addr} {b : Bool} {h : Heap} (X : K.In h) (LT : PySem.W.Looks M h (typeOf (.ref e)) cls) (hp : h.get? tp = some { cls := .type "tuple", data := .seq cs.toArray }) (hx : PySem.W.exmAny K cls cs = some b) :
    PySem.W.Looks M h (excMatches (.ref e) (.ref tp)) b := by
  intro A Q E s k₀ q
  obtain ⟨hh, g, d, tk, os⟩ := s
  have k : ∀ b o, h.get? b = some o → hh.get? b = some o := k₀
  have LT0 : PySem.W.Looks M h (isInstance (.ref tp) (.type "tuple")) true := ((PySem.W.Looks.ld hp).andThen .now).andThen (PySem.W.Looks.of_pure isSubtype_tuple_tuple)
  have hp' := k _ _ hp
  unfold excMatches
  refine wpAny_bind ((LT0.keeps k).here ?_)
  dsimp only
  rw [if_pos rfl]
  first
    | refine wpAny_bind (wpAny_seqItems hp' rfl ?_)
    | refine wpAny_bind (wpAny_bind (wpAny_seqItems hp' rfl (wpAny_pure ?_)))
  dsimp only [Option.getD_some, Option.getD]
  refine wpAny_bind (wpAny_pure ?_)
  refine wpAny_bind (fi_all (fun c hc Q q => ?_) ?_)
  · obtain ⟨v, hv⟩ := exm_each hx c hc
    obtain ⟨e1, _⟩ := PySem.W.exm_cls (M := M) X hv
    refine wpAny_bind ((e1.keeps k).here ?_)
    exact wpAny_pure q
  refine wpAny_bind ((LT.keeps k).here ?_)
  refine wpAny_bind (fi_any (st1 := (some true, PUnit.unit)) hx (fun c hc v hv Q q => ?_) ?_)
  · obtain ⟨_, S1⟩ := PySem.W.exm_cls (M := M) X hv
    refine wpAny_bind ((S1.keeps k).here ?_)
    cases v <;> exact wpAny_pure q
  · cases b <;> exact wpAny_pure q
/-- a clause: its classes, its name's slot, its suite -/
structure Cl where
  cs : List Value
  oi : Option Nat
  ts : Addr → Value → Option Addr → TS
def asEnds (oi : Option Nat) (D : Ends) : Ends := match oi with
  | none => D
  | some i => { nx := fun σ' H' => D.nx (σ'.set i none) H', rt := D.rt, bk := fun σ' H' => D.bk (σ'.set i none) H', ct := fun σ' H' => D.ct (σ'.set i none) H' }
def asSt (oi : Option Nat) (a : Addr) (σ : L2.St) : L2.St := match oi with
  | none => σ
  | some i => σ.set i (some (.ref a))
/-- what the clauses wish of an exception of the body, one after the other -/
def wGen (K : PySem.W.Frag) (Wout : WX) (D : Ends) : List Cl → WX
  | [] => Wout
  | c :: r => fun cls d σ H => ∃ b, PySem.W.exmAny K cls c.cs = some b ∧ (b = true → ∀ a, H a = none → c.ts a cls d (asEnds c.oi D) (asSt c.oi a σ) H) ∧ (b = false → wGen K Wout D r cls d σ H)
inductive NamesAll (X : Cx) : List Expr → List Value → Prop
  | nil : NamesAll X [] []
  | cons {x : Str} {c : Value} {np : Pos} {es : List Expr} {cs : List Value} (hc : Names X x c) (r : NamesAll X es cs) : NamesAll X (.Name x np :: es) (c :: cs)
theorem NamesAll.suite {X : Cx} {a : Addr} {pn : List (Addr × Obj)} {es : List Expr} {cs : List Value} (h : NamesAll X es cs) : NamesAll (X.suite a pn) es cs := by
  induction h with
  | nil => exact .nil
  | cons hc r ih => exact .cons hc ih
inductive ClT (X : Cx) : Expr → List Value → Prop
  | one {x : Str} {c : Value} {np : Pos} (hc : Names X x c) : ClT X (.Name x np) [c]
  | tup {es : List Expr} {cs : List Value} {kk : Nat} {tpos : Pos} (h : NamesAll X es cs) (hz : cs.length ≤ sizeLine) : ClT X (.Tuple es kk tpos) cs
inductive ClN (X : Cx) : Option Str → Option Nat → Prop
  | no : ClN X none none
  | yes {n : Str} {i : Nat} (hi : X.N[i]? = some n) (hln : X.env.kindOf n = some .local) : ClN X (some n) (some i)
inductive HdsG (X : Cx) : List ExceptHandler → List Cl → Prop
  | nil : HdsG X [] []
  | cons {t : Expr} {n : Option Str} {c : Cl} {b₀ : Stmt} {suite : List Stmt} {pos' : Pos} {hds : List ExceptHandler} {l : List Cl} (ht : ClT X t c.cs) (hn : ClN X n c.oi)
      (hsu : ∀ (a : Addr) (oe : Obj) (cls : Value) (d : Option Addr) (pn : List (Addr × Obj)), Zc cls d oe → (∃ vs, oe.data = .fields vs) → PSs (X.suite a ((a, oe) :: pn)) (b₀ :: suite) (c.ts a cls d)) (r : HdsG X hds l) :
      HdsG X (.ExceptHandler (some t) n (b₀ :: suite) pos' :: hds) (c :: l)
theorem flyingZ_keeps {B h h' : Heap} {l : List Env} {e : Addr} {Z : Obj → Prop} (f : HandSPX.FlyingZ B l e Z h) (k : ∀ b o, h.get? b = some o → h'.get? b = some o) : HandSPX.FlyingZ B l e Z h' := by
  obtain ⟨f1, f2, f3, oe, vs, T, oT, ts, he, hz, hd, h1, hnT, hTe, hT, hdT, h3⟩ := f
  exact ⟨fun b o q => k b o (f1 b o q), f2, f3.of_keeps fun b o q _ => ⟨o, k b o q, rfl⟩, oe, vs, T, oT, ts, k _ _ he, hz, hd, h1, hnT, hTe, k _ _ hT, hdT, h3⟩
section
variable {X : Cx} {pins : List (Addr × Obj)} {σ : L2.St} {H : Hp} {s : Shared}
theorem ld_name {M : Model} {E : Value → Shared → Prop} {x : Str} {c : Value} {np : Pos} {Q : Value → Shared → Prop} (I : Inv X pins σ H s) (hc : Names X x c) (q : Q c s) : wpAny (model X.prog X.w) X.A (eval (.Name x np) X.env) Q E s := by
  obtain ⟨hg, hdbg, hm | ⟨hm, hv, hnn⟩⟩ := hc
  · exact ld_glob I hg hm q hdbg
  · exact ld_blt I hg hm hv q hnn hdbg
theorem ld_names {E : Value → Shared → Prop} {es : List Expr} {cs : List Value} {pos : Pos} (I : Inv X pins σ H s) (h : NamesAll X es cs) : ∀ {Q : List Value → Shared → Prop}, Q cs s → wpAny (model X.prog X.w) X.A (spliced (backTo pos (starEach es X.env))) Q E s := by
  induction h with
  | nil => exact fun q => wpAny_items_nil q
  | cons hc r ih => exact fun q => wpAny_items_cons (ld_name (M := model X.prog X.w) I hc (ih q))
end
section
variable {X : Cx} {body : List Stmt} {h₀ : ExceptHandler} {hds : List ExceptHandler} {l : List Cl} {pos : Pos} {tb : WX → TS} {Wout : WX}
theorem ps_try_gen (hs : X.stack = X.env :: X.outer) (hf : X.env.frame = some X.env.locals) (hN : X.N.Nodup) (tk : Takes X Wout)
    (hb : ∀ (W : WX) (pn : List (Addr × Obj)) (xe : Value → Shared → Prop), Takes (X.tr pn xe) W → PassesOwn (model X.prog X.w) X.A X.env xe → PSs (X.tr pn xe) body (tb W))
    (hh : HdsG X (h₀ :: hds) l) : PS X (.Try body (h₀ :: hds) [] [] pos) (fun D σ H => tb (wGen X.K Wout D l) D σ H) := by
  refine ⟨fun pins s σ H D I h => ?_⟩
  have ok := I.ok
  have hfr : X.A.frames = some (X.env :: X.outer) := by rw [ok.frames, hs]
  refine wpAny_Try_except ?_
  refine wpAny_mono ((hb (wGen X.K Wout D l) (X.pn ++ pins) (fun e s₁ => wpAny (model X.prog X.w) X.A (noteFrame e X.env) (fun _ s₂ => wpAny (model X.prog X.w) X.A (setFlight e none) (fun _ s₃ =>
    wpAny (model X.prog X.w) X.A (handleBy e X.env (h₀ :: hds)) (SP X pins D) X.xe s₃) X.xe s₂) X.xe s₁) (fun u s' xx => ?_) PassesOwn.looking).run [] s σ H D (I.toTry _) h) (fun f s1 hsp => ?_) (fun e s1 he => he)
  · -- the catch
    obtain ⟨a, B, sI, pins', σ', H', cls, d, rfl, J', nb, up, sky, na, os, ag, w⟩ := xx
    have J : Inv X pins σ' H' sI := J'.ofTry ok
    have sky' : Sky B (X.env :: X.outer) a (Zc cls d) X.env.locals s'.heap := by rw [← hs]; exact sky
    show wpAny (model X.prog X.w) X.A (noteFrame (.ref a) X.env) _ _ _
    refine Sky.land Zc.steady hfr hf sky' fun h3 fl3 up3 => ?_
    have notFr : ∀ {h : Heap} {o : Obj} {vs : Array Value}, h.FunFrames B (X.env :: X.outer) → h.get? a = some o → o.data = .fields vs → a ∉ frs (X.env :: X.outer) := fun {h o vs} ff e dd hm => by
      obtain ⟨_, o', e', hnf⟩ := ff.mem hm
      rw [e] at e'; cases e'
      exact hnf _ dd
    have nfr : a ∉ frs (X.env :: X.outer) := by
      obtain ⟨oe3, vs3, he3, hz3, hd3⟩ := fl3.there
      exact notFr fl3.2.2.1 he3 hd3
    have nL : a ≠ X.env.locals := fun z => nfr (List.mem_filterMap.mpr ⟨X.env, List.mem_cons_self, by rw [hf, z]⟩)
    have nF : a ∉ X.fs := fun hm => by
      obtain ⟨e, he, q⟩ := List.mem_filterMap.mp hm
      exact nfr (List.mem_filterMap.mpr ⟨e, List.mem_cons_of_mem _ he, q⟩)
    have go : ∀ {hds' : List ExceptHandler} {l' : List Cl}, HdsG X hds' l' → wGen X.K Wout D l' cls d σ' H' → ∀ h3, HandSPX.FlyingZ B (X.env :: X.outer) a (Zc cls d) h3 → s'.heap.UpToSlots h3 →
        wpAny (model X.prog X.w) X.A (handleBy (.ref a) X.env hds') (SP X pins D) X.xe { s' with heap := h3 } := by
      intro hds' l' hk
      induction hk with
      | nil =>
        intro w h3 fl3 up3
        refine wpAny_handleBy_nil ?_
        obtain ⟨k1, k2, k3, oe, vs, T, oT, ts', he, hz, hd, h1, hr⟩ := id fl3
        unfold PySem.passOn
        refine wpAny_bind (wpAny_field he hd h1 ?_)
        rw [if_neg (show ¬ ((Value.ref T == Value.none) = true) from by simp)]
        have fin : wpAny (model X.prog X.w) X.A (setFlight (.ref a) X.env.frame) (fun _ s4 => wpAny (model X.prog X.w) X.A (throw (.ref a) : Sem Flow) (SP X pins D) X.xe s4) X.xe { s' with heap := h3 } := by
          rw [hf]
          refine HandSPX.setFlight_upZ fl3 fun h4 hh4 up4 => wpAny_throw (tk _ _ ?_)
          exact ⟨a, B, sI, pins, σ', H', cls, d, rfl, J, nb, (up.trans up3).trans up4, .inr (.inr (by rw [hs]; exact hh4)), na, os, ag, w⟩
        first
          | exact wpAny_bind (wpAny_pure (wpAny_bind fin))
          | exact wpAny_bind fin
      | @cons t n c b₀ suite pos' hds2 l2 ht hn hsu r ih =>
        intro w h3 fl3 up3
        have J3 : Inv X pins σ' H' { s' with heap := h3 } := J.landed nb fl3.1 (up.trans up3) os ag
        obtain ⟨oe3, vs3, he3, hz3, hd3⟩ := fl3.there
        have S3 := J3.suite he3 hd3 na nL nF
        obtain ⟨b, hb1, hyes, hno⟩ := w
        refine wpAny_handleBy_cons (codeAny_handlers_test ?_) (by intro q; cases q)
        -- the class or the classes
        have test : ∀ {R : Bool → Shared → Prop} {E : Value → Shared → Prop}, (∀ h5, HandSPX.FlyingZ B (X.env :: X.outer) a (Zc cls d) h5 → s'.heap.UpToSlots h5 → R b { s' with heap := h5 }) →
            wpAny (model X.prog X.w) (X.A.mark (some (.ref a))) (eval t X.env) (fun c s₁ => wpAny (model X.prog X.w) (X.A.mark (some (.ref a))) (excMatches (.ref a) c) R E s₁) E { s' with heap := h3 } := by
          intro R E q
          have LT : PySem.W.Looks (model X.prog X.w) h3 (typeOf (.ref a)) cls := fun A Q E s k q => wpAny_typeOf_ref (k _ _ he3) (by rw [hz3.1]; exact q)
          generalize hcs : c.cs = cs at ht hb1
          cases ht with
          | one hc =>
            obtain ⟨b1, d1, x1, y1, z1⟩ := PySem.W.exmAny_cons hb1
            have y1 : some false = some d1 := y1
            cases y1
            rw [Bool.or_false] at z1
            subst z1
            have LM := PySem.W.exm_one (M := model X.prog X.w) (J3.kIn) LT x1
            exact ld_name (X := X.suite a ((a, oe3) :: (X.pn ++ pins))) (M := model X.prog X.w) S3 hc (LM.here (q _ fl3 up3))
          | tup hN' hz =>
            refine wpAny_Tuple (ld_names (X := X.suite a ((a, oe3) :: (X.pn ++ pins))) S3 hN'.suite ⟨hz, ?_⟩)
            have kp : ∀ b o, h3.get? b = some o → (h3.push { cls := .type "tuple", data := .seq cs.toArray }).get? b = some o := fun _ _ z => Heap.get?_push_of_some _ z
            have LM := exm_tup (M := model X.prog X.w) (fun b o z => kp _ _ (J3.kIn b o z)) (LT.keeps kp) (Heap.get?_push_size h3 rfl) hb1
            exact LM.here (q _ (flyingZ_keeps fl3 kp) (up3.trans (Heap.UpToSlots.of_keeps kp)))
        refine test fun h5 fl5 up5 => ?_
        cases b with
        | true =>
          have J4 : ∀ h4, HandSPX.FlyingZ B (X.env :: X.outer) a (Zc cls d) h4 → h5.UpToSlots h4 → Inv X pins σ' H' { s' with heap := h4 } := fun h4 fl4 up4 => J.landed nb fl4.1 ((up.trans up5).trans up4) os ag
          generalize hoi : c.oi = oi at hn hyes
          cases hn with
          | no =>
            refine codeAny_handlers_suite ?_
            refine HandSPX.lands_againZ fl5 fun h4 fl4 up4 => ?_
            have J4 := J4 h4 fl4 up4
            obtain ⟨oe4, vs4, he4, hz4, hd4⟩ := fl4.there
            have S4 := J4.suite he4 hd4 na nL nF
            refine wpAny_mono ((hsu a oe4 cls d (X.pn ++ pins) hz4 ⟨_, hd4⟩).run [] _ _ H' _ S4 (hyes rfl a na)) (fun f s6 hsp => ?_) (fun _ _ z => False.elim z)
            cases f with
            | next =>
              obtain ⟨σ6, H6, S6, q6⟩ := hsp
              exact ⟨_, _, S6.unsuite ok, q6⟩
            | brk =>
              obtain ⟨σ6, H6, S6, q6⟩ := hsp
              exact ⟨_, _, S6.unsuite ok, q6⟩
            | cont =>
              obtain ⟨σ6, H6, S6, q6⟩ := hsp
              exact ⟨_, _, S6.unsuite ok, q6⟩
            | ret u =>
              obtain ⟨v6, σ6, H6, S6, r6, q6⟩ := hsp
              exact ⟨_, _, _, S6.unsuite ok, r6, q6⟩
          | @yes n i hi hln =>
            have hloc : Loc X.env.scope n := .inl hln
            refine codeAny_handlers_suite_as ?_
            refine HandSPX.lands_againZ fl5 fun h4 fl4 up4 => ?_
            have J4 := J4 h4 fl4 up4
            obtain ⟨oe4, vs4, he4, hz4, hd4⟩ := fl4.there
            have S4 := J4.suite he4 hd4 na nL nF
            refine store_ok (X := X.suite a ((a, oe4) :: (X.pn ++ pins))) (v := .ref a) S4 hN hi hloc rfl (fun s5 S5 => ?_) (.inr hln)
            refine wpAny_mono ((hsu a oe4 cls d (X.pn ++ pins) hz4 ⟨_, hd4⟩).run [] s5 _ H' _ S5 (hyes rfl a na)) (fun f s6 hsp => ?_) (fun _ _ z => False.elim z)
            have end_ : ∀ {σ6 : L2.St} {H6 : Hp} {Q : Shared → Prop}, Inv (X.suite a ((a, oe4) :: (X.pn ++ pins))) [] σ6 H6 s6 → (∀ s7, Inv X pins (σ6.set i none) H6 s7 → Q s7) →
                wpAny (model X.prog X.w) X.A (do bindName X.env n .none; unbindBehindTheSuite X.env n pos') (fun _ s7 => Q s7) X.xe s6 := fun {σ6 H6 Q} S6 hq => gone_ok (S6.unsuite ok) hN hi hln hq
            cases f with
            | next =>
              obtain ⟨σ6, H6, S6, q6⟩ := hsp
              exact end_ S6 fun s7 J7 => ⟨_, _, J7, q6⟩
            | brk =>
              obtain ⟨σ6, H6, S6, q6⟩ := hsp
              exact end_ S6 fun s7 J7 => ⟨_, _, J7, q6⟩
            | cont =>
              obtain ⟨σ6, H6, S6, q6⟩ := hsp
              exact end_ S6 fun s7 J7 => ⟨_, _, J7, q6⟩
            | ret u =>
              obtain ⟨v6, σ6, H6, S6, r6, q6⟩ := hsp
              exact end_ S6 fun s7 J7 => ⟨_, _, _, J7, r6, q6⟩
        | false =>
          show wpAny _ X.A (handleBy (.ref a) X.env hds2) _ _ _
          exact ih (hno rfl) h5 fl5 up5
    exact go hh w h3 fl3 up3
  · cases f with
    | next =>
      obtain ⟨σ', H', J', q⟩ := hsp
      exact wpAny_execs_nil ⟨σ', H', J'.ofTry ok, q⟩
    | brk =>
      obtain ⟨σ', H', J', q⟩ := hsp
      exact ⟨σ', H', J'.ofTry ok, q⟩
    | cont =>
      obtain ⟨σ', H', J', q⟩ := hsp
      exact ⟨σ', H', J'.ofTry ok, q⟩
    | ret u =>
      obtain ⟨v, σ', H', J', r, q⟩ := hsp
      exact ⟨v, σ', H', J'.ofTry ok, r, q⟩
end
end Nc

namespace Nc
open PySem PySem.Spec PyProof.Rows L2
/-! ### tables of code objects: for lambdas -/
/-- a def's code object, its table, the name of its lambdas -/
def tabAt (K : PySem.W.Frag) (p : Addr × Obj) : Option (Addr × Addr × Str) := match p.2.data with
  | .func fd => match fd.code with
    | .ref c => match K.lookup c with
      | some ⟨_, _, .fields vs, _⟩ => match (vs[11]? : Option Value) with
        | some (.ref P) => some (c, P, fd.qualname ++ ".<locals>." ++ "<lambda>")
        | _ => none
      | _ => none
    | _ => none
  | _ => none
def tabsL (K : PySem.W.Frag) : List (Addr × Addr × Str) := K.filterMap (tabAt K)
/-- the tables, each with the name of the code objects in it -/
def tabsOf (K : PySem.W.Frag) : List (Addr × Str) := (tabsL K).map (·.2)
/-- an empty table -/
def emptyT (g : Addr → Option Obj) (a : Addr) : Bool := match g a with
  | some ⟨.none, none, .fields vs, sl⟩ => vs.size == 0 && sl.size == 0
  | _ => false
theorem emptyT_ok {g : Addr → Option Obj} {a : Addr} (h : emptyT g a = true) : g a = some { cls := .none, data := .fields #[] } := by
  unfold emptyT at h
  split at h
  · rename_i vs sl q
    rw [Bool.and_eq_true_iff] at h
    rw [q]
    have h1 : vs = #[] := Array.size_eq_zero_iff.mp (beq_iff_eq.mp h.1)
    have h2 : sl = #[] := Array.size_eq_zero_iff.mp (beq_iff_eq.mp h.2)
    rw [h1, h2]
  · cases h
/-- each table: empty, not in K, of one name -/
def tabsB (g : Addr → Option Obj) (K : PySem.W.Frag) : Bool := (tabsL K).all fun t => emptyT g t.2.1 && ((K.lookup t.2.1).isNone && (PySem.W.codeHdIn K t.1 t.2.1 && ((mainGlobals != t.2.1) && (tabsL K).all fun u => u.2.1 != t.2.1 || u.2.2 == t.2.2)))
structure TabsIn (K : PySem.W.Frag) (h : Heap) : Prop where
  emp : ∀ t ∈ tabsL K, h.get? t.2.1 = some { cls := .none, data := .fields #[] }
  out : ∀ t ∈ tabsL K, K.lookup t.2.1 = none
  code : ∀ t ∈ tabsL K, PySem.W.codeHdIn K t.1 t.2.1 = true
  gl : ∀ t ∈ tabsL K, mainGlobals ≠ t.2.1
  uniq : ∀ t ∈ tabsL K, ∀ u ∈ tabsL K, u.2.1 = t.2.1 → u.2.2 = t.2.2
theorem tabsB_ok {K : PySem.W.Frag} {h : Heap} (b : tabsB h.get? K = true) : TabsIn K h := by
  have q := List.all_eq_true.mp b
  have q2 : ∀ t ∈ tabsL K, emptyT h.get? t.2.1 = true ∧ (K.lookup t.2.1).isNone = true ∧ PySem.W.codeHdIn K t.1 t.2.1 = true ∧ (mainGlobals != t.2.1) = true ∧ ((tabsL K).all fun u => u.2.1 != t.2.1 || u.2.2 == t.2.2) = true := fun t ht => by
    have := q t ht
    simp only [Bool.and_eq_true] at this
    exact this
  refine ⟨fun t ht => emptyT_ok (q2 t ht).1, fun t ht => Option.isNone_iff_eq_none.mp (q2 t ht).2.1, fun t ht => (q2 t ht).2.2.1, fun t ht => by have := (q2 t ht).2.2.2.1; simpa using this, fun t ht u hu e => ?_⟩
  have := List.all_eq_true.mp (q2 t ht).2.2.2.2 u hu
  rw [e] at this
  simpa using this
/-- the objects of the head, but for the empty tables -/
def frT (g : Addr → Option Obj) (as : List Addr) : PySem.W.Frag := He.frG g (as.filter fun a => !emptyT g a)
abbrev AlT : Type := AlX × Bool
def obsT (n : Nat) (fa : List He.Fa) (fn : List He.DefD) (ex : PySem.W.Frag → Bool) (ts : List (Str × List Str)) (g : Addr → Option Obj) : AlT :=
  (obsX fa fn ex ts (frT g (cStatics :: He.asD g n)), tabsB g (frT g (cStatics :: He.asD g n)))
def hookT (n : Nat) (fa : List He.Fa) (fn : List He.DefD) (ex : PySem.W.Frag → Bool) (ts : List (Str × List Str)) : PySem.W.Hook where
  α := AlT
  obs := fun s => obsT n fa fn ex ts s.heap.get?
  val := fun w => (valX fn ts w, true)
  says := fun w h => ∃ K : PySem.W.Frag, K.In h ∧ SaysX fa fn ex ts w K ∧ TabsIn K h
  of := fun _ _ e => ⟨_, He.frG_in, ⟨congrArg (fun z : AlT => z.1.1) e, congrArg (fun z : AlT => z.1.2.1) e, congrArg (fun z : AlT => z.1.2.2) e⟩, tabsB_ok (congrArg (fun z : AlT => z.2) e)⟩
  keeps := fun _ _ _ ⟨K, hK, c, t⟩ k => ⟨K, PySem.W.Frag.In.keeps hK k, c, ⟨fun x hx => k _ _ (t.emp x hx), t.out, t.code, t.gl, t.uniq⟩⟩
theorem obsT_eq {n : Nat} {fa : List He.Fa} {fn : List He.DefD} {ex : PySem.W.Frag → Bool} {ts : List (Str × List Str)} {g : Addr → Option Obj} {s : Shared} (h : ∀ a, g a = s.heap.get? a) : obsT n fa fn ex ts g = (hookT n fa fn ex ts).obs s := by
  have e : g = s.heap.get? := funext h
  rw [e] <;> rfl
end Nc

namespace Nc
open PySem PySem.Spec PyProof.Rows L2
/-! ### zip of two things, each a text, a list or a tuple -/
inductive Zs where
  | str (x : Str) (t : Tok) | lst (a : Addr) | tup (a : Addr)
def Zs.src : Zs → List Addr
  | .str _ _ => [] | .lst a => [a] | .tup a => [a]
def Zs.it (it : Addr) (i : Nat) (h : Heap) : Zs → Prop
  | .str x t => h.IsStrIter it (strIterType x) x t i
  | .lst a => h.IsListIter it a i
  | .tup a => h.IsTupleIter it a i
/-- what it gives, turn by turn -/
def Zs.rd (K : PySem.W.Frag) (H : Hp) : Zs → List V → Prop
  | .str x _, vs => vs = x.cps.toList.map fun c => V.str ⟨#[c]⟩
  | .lst a, vs => SqL K H a vs
  | .tup a, vs => SqT K H a vs
def Zs.val : Zs → Value
  | .str x t => .str x t | .lst a => .ref a | .tup a => .ref a
theorem Zs.it_obj {z : Zs} {it : Addr} {i : Nat} {h : Heap} (e : z.it it i h) : ∃ o, h.get? it = some o ∧ ∀ v, o.data ≠ .seq v 0 → True := by
  cases z <;> (obtain ⟨o, h1, _⟩ := e; exact ⟨o, h1, fun _ _ => trivial⟩)
theorem Zs.it_fld {z : Zs} {it : Addr} {i : Nat} {h : Heap} (e : z.it it i h) : ∃ o vs, h.get? it = some o ∧ o.data = .fields vs := by
  cases z <;> (obtain ⟨o, h1, _, h2⟩ := e; exact ⟨o, _, h1, h2⟩)
theorem Zs.it_at {z : Zs} {it : Addr} {i : Nat} {h h' : Heap} (e : z.it it i h) (k : ∀ o, h.get? it = some o → h'.get? it = some o) : z.it it i h' := by
  cases z <;> (obtain ⟨o, h1, h2⟩ := e; exact ⟨o, k _ h1, h2⟩)
/-- its draws, where it stands -/
theorem Zs.draws {X : Cx} {pins : List (Addr × Obj)} {σ : L2.St} {H : Hp} {s : Shared} {A : Around} {z : Zs} {it : Addr} {vs : List V} (hh : A.handled = none) (I : Inv X pins σ H s) (r : z.rd X.K H vs) (hne : ∀ a ∈ z.src, a ≠ it) :
    ∃ (P : Nat → Value → Prop) (St : Nat → Heap → Prop), Draws X.prog X.w A it (it :: z.src) vs.length P St ∧ (∀ i, z.it it i s.heap → St i s.heap) ∧ (∀ i h, St i h → z.it it i h) ∧ ∀ i v, P i v → ∃ x, vs[i]? = some x ∧ RelV x v := by
  cases z with
  | str x t =>
    have r : vs = x.cps.toList.map fun c => V.str ⟨#[c]⟩ := r
    subst r
    have D := Draws.text (prog := X.prog) (w := X.w) hh it x t
    rw [show x.cps.size = (x.cps.toList.map fun c => V.str ⟨#[c]⟩).length by simp] at D
    refine ⟨_, _, D, fun i h => h, fun i h e => e, fun i v h => ?_⟩
    obtain ⟨c, u, h1, rfl⟩ := h
    exact ⟨.str ⟨#[c]⟩, by rw [List.getElem?_map, Array.getElem?_toList, h1]; rfl, u, rfl⟩
  | lst a =>
    obtain ⟨its, rv, p, _⟩ := I.list r
    have D := Draws.list (prog := X.prog) (w := X.w) hh it a (hne a (List.mem_singleton.mpr rfl)) its.toArray
    rw [show its.toArray.size = vs.length by rw [List.size_toArray, rv.length]] at D
    refine ⟨_, _, D, fun i h => ⟨h, p.isList⟩, fun i h e => e.1, fun i v h => ?_⟩
    have h : its[i]? = some v := by simpa using h
    have hl := rv.length
    have hi : i < vs.length := by have := (List.getElem?_eq_some_iff.mp h).1; omega
    obtain ⟨u, h1, h2⟩ := rv.get (List.getElem?_eq_getElem hi)
    rw [h] at h1
    cases h1
    exact ⟨_, List.getElem?_eq_getElem hi, h2⟩
  | tup a =>
    obtain ⟨its, rv, p, _⟩ := I.tuple r
    have D := Draws.tuple (prog := X.prog) (w := X.w) hh it a (hne a (List.mem_singleton.mpr rfl)) its.toArray
    rw [show its.toArray.size = vs.length by rw [List.size_toArray, rv.length]] at D
    refine ⟨_, _, D, fun i h => ⟨h, p⟩, fun i h e => e.1, fun i v h => ?_⟩
    have h : its[i]? = some v := by simpa using h
    have hl := rv.length
    have hi : i < vs.length := by have := (List.getElem?_eq_some_iff.mp h).1; omega
    obtain ⟨u, h1, h2⟩ := rv.get (List.getElem?_eq_getElem hi)
    rw [h] at h1
    cases h1
    exact ⟨_, List.getElem?_eq_getElem hi, h2⟩
theorem Zs.rd_inj {X : Cx} {pins : List (Addr × Obj)} {σ : L2.St} {H : Hp} {s : Shared} {z : Zs} {vs us : List V} (I : Inv X pins σ H s) (r : z.rd X.K H vs) (r' : z.rd X.K H us) : vs = us := by
  cases z with
  | str x t => exact Eq.trans r (Eq.symm r')
  | lst a => exact I.list_inj r r'
  | tup a => exact I.tuple_inj r r'
theorem Zs.apart {X : Cx} {pins : List (Addr × Obj)} {σ : L2.St} {H : Hp} {s : Shared} {z : Zs} {vs : List V} {it : Addr} {i : Nat} (I : Inv X pins σ H s) (r : z.rd X.K H vs) (h1 : z.it it i s.heap) : ∀ a ∈ z.src, a ≠ it := fun a m e => by
  obtain ⟨o, v, e1, d1⟩ := Zs.it_fld h1
  cases z with
  | str x t => cases m
  | lst b =>
    cases List.mem_singleton.mp m
    obtain ⟨its, rv, pp, hk⟩ := I.list r
    have q := pp.isList
    obtain ⟨o', e2, _, n, d2⟩ := q
    rw [e] at e2
    rw [e1] at e2
    cases e2
    rw [d1] at d2
    cases d2
  | tup b =>
    cases List.mem_singleton.mp m
    obtain ⟨its, rv, pp, hk⟩ := I.tuple r
    obtain ⟨o', e2, _, n, d2⟩ := pp
    rw [e] at e2
    rw [e1] at e2
    cases e2
    rw [d1] at d2
    cases d2
/-- the turns of zip -/
def ItzZ (K : PySem.W.Frag) (p q : Zs) : It :=
  ⟨fun i H => ∃ xs ys, p.rd K H xs ∧ q.rd K H ys ∧ i < min xs.length ys.length,
    fun i H v H' => ∃ T x y, v = .ref T ∧ H T = none ∧ H' = upd H T (.tup [x, y]) ∧ (∀ xs, p.rd K H xs → xs[i]? = some x) ∧ ∀ ys, q.rd K H ys → ys[i]? = some y,
    fun i H => ∃ xs ys, p.rd K H xs ∧ q.rd K H ys ∧ min xs.length ys.length = i⟩
theorem turn_zipZ {P : Program} {w : World} {K : PySem.W.Frag} {elts : List Expr} {kk : Nat} {tpos : Pos} (p q : Zs) {z TI TO i1 i2 : Addr} (S : ZipSep2 z TI TO i1 i2 (i1 :: p.src) (i2 :: q.src)) :
    Turn P w K (.Tuple elts kk tpos) (ItzZ K p q) [z, TI, TO, i1, i2] z (fun i h => IsZip h z TI TO .none ∧ IsTupOf2 h TI (.ref i1) (.ref i2) ∧ (∃ a1 a2, IsTupOf2 h TO a1 a2) ∧ p.it i1 i h ∧ q.it i2 i h) where
  mem := by simp
  obj := fun i h st c hc => by
    obtain ⟨hz, hTI, ⟨x, y, hTO⟩, h1, h2⟩ := st
    obtain ⟨o1, v1, e1, d1⟩ := Zs.it_fld h1
    obtain ⟨o2, v2, e2, d2⟩ := Zs.it_fld h2
    have e' : c = z ∨ c = TI ∨ c = TO ∨ c = i1 ∨ c = i2 := by simpa using hc
    rcases e' with q | q | q | q | q
    · rw [q]; exact ⟨_, hz, fun v q => nomatch q⟩
    · rw [q]; exact ⟨_, hTI, fun v q => nomatch q⟩
    · rw [q]; exact ⟨_, hTO, fun v q => nomatch q⟩
    · rw [q]; exact ⟨o1, e1, fun v q => by rw [d1] at q; cases q⟩
    · rw [q]; exact ⟨o2, e2, fun v q => by rw [d2] at q; cases q⟩
  keep := fun i h h' st k => by
    obtain ⟨hz, hTI, ⟨x, y, hTO⟩, h1, h2⟩ := st
    exact ⟨k z (by simp) _ hz, k TI (by simp) _ hTI, ⟨x, y, k TO (by simp) _ hTO⟩, Zs.it_at h1 fun o e => k i1 (by simp) _ e, Zs.it_at h2 fun o e => k i2 (by simp) _ e⟩
  item := by
    intro X hP hw hK hc i pins s σ H E I hf st hg
    subst hP hw hK
    have hh : X.A.in1.handled = none := I.ok.hd hc
    obtain ⟨xs, ys, r1, r2, hi⟩ := hg
    obtain ⟨hz, hTI, ⟨a1, a2, hTO⟩, h1, h2⟩ := id st
    have ne1 := Zs.apart I r1 h1
    have ne2 := Zs.apart I r2 h2
    obtain ⟨P1, St1, D1, f1, g1, k1⟩ := Zs.draws (A := X.A.in1) hh I r1 ne1
    obtain ⟨P2, St2, D2, f2, g2, k2⟩ := Zs.draws (A := X.A.in1) hh I r2 ne2
    have W := GoesN.zip2 (A := X.A) (elts := elts) (x1 := kk) (pos := tpos) S D1 D2
    refine wpAny_mono (W.goes i s (fun v s2 => ∃ x1 H', Inv X pins σ H' s2 ∧ RelV x1 v ∧ (ItzZ X.K p q).yld i H x1 H' ∧ (IsZip s2.heap z TI TO .none ∧ IsTupOf2 s2.heap TI (.ref i1) (.ref i2) ∧ (∃ a1 a2, IsTupOf2 s2.heap TO a1 a2) ∧ p.it i1 (i + 1) s2.heap ∧ q.it i2 (i + 1) s2.heap) ∧ ∀ b ∈ [z, TI, TO, i1, i2], H' b = none) E hi ⟨hz, hTI, ⟨a1, a2, hTO⟩, f1 i h1, f2 i h2⟩ fun v h' tk hY st' hk htk => ?_) (fun r s1 q => ?_) fun _ _ q => q
    · obtain ⟨T, a, b, rfl, hT, ha, hb, hIT⟩ := hY
      obtain ⟨x, hx, rx⟩ := k1 i a ha
      obtain ⟨y, hy, ry⟩ := k2 i b hb
      have new : ObjOk X.prog X.w (upd H T (.tup [x, y])) h' T (.tup [x, y]) := by
        obtain ⟨o, ho, h2, h3⟩ := hIT
        exact ⟨by show 2 ≤ sizeLine; decide, [a, b], .cons rx (.cons ry .nil), o, ho, h2, h3⟩
      have sub : ∀ b ∈ [z, TO, i1, i2], FpOk X pins H b := fun b hb => hf b (by
        have e' : b = z ∨ b = TO ∨ b = i1 ∨ b = i2 := by simpa using hb
        rcases e' with q | q | q | q <;> simp [q])
      refine ⟨.ref T, _, I.turnedNew (t' := tk) (ch := [z, TO, i1, i2]) hk sub hT new, rfl, ⟨T, x, y, rfl, I.hok.fresh hT, rfl, fun l hl => by rw [Zs.rd_inj I hl r1]; exact hx, fun l hl => by rw [Zs.rd_inj I hl r2]; exact hy⟩, ⟨st'.1, st'.2.1, st'.2.2.1, g1 _ _ st'.2.2.2.1, g2 _ _ st'.2.2.2.2⟩, fun b hb => ?_⟩
      have hb2 : b ≠ T := by
        rintro rfl
        obtain ⟨o, ho, _⟩ := (show ∃ o, s.heap.get? b = some o ∧ True from by
          obtain ⟨o1, v1, e1, d1⟩ := Zs.it_fld h1
          obtain ⟨o2, v2, e2, d2⟩ := Zs.it_fld h2
          have e' : b = z ∨ b = TI ∨ b = TO ∨ b = i1 ∨ b = i2 := by simpa using hb
          rcases e' with q | q | q | q | q
          · rw [q]; exact ⟨_, hz, trivial⟩
          · rw [q]; exact ⟨_, hTI, trivial⟩
          · rw [q]; exact ⟨_, hTO, trivial⟩
          · rw [q]; exact ⟨o1, e1, trivial⟩
          · rw [q]; exact ⟨o2, e2, trivial⟩)
        exact absurd (Nat.lt_of_lt_of_le (Heap.lt_size ho) hT) (Nat.lt_irrefl _)
      rw [upd_ne hb2]
      exact (hf b hb).1
    · exact q
  done := by
    intro X hP hw hK hc i pins s σ H E I hf st hg
    subst hP hw hK
    have hh : X.A.in1.handled = none := I.ok.hd hc
    obtain ⟨xs, ys, r1, r2, hi⟩ := hg
    obtain ⟨hz, hTI, ⟨a1, a2, hTO⟩, h1, h2⟩ := id st
    have ne1 := Zs.apart I r1 h1
    have ne2 := Zs.apart I r2 h2
    obtain ⟨P1, St1, D1, f1, g1, k1⟩ := Zs.draws (A := X.A.in1) hh I r1 ne1
    obtain ⟨P2, St2, D2, f2, g2, k2⟩ := Zs.draws (A := X.A.in1) hh I r2 ne2
    have W := GoesN.zip2 (A := X.A) (elts := elts) (x1 := kk) (pos := tpos) S D1 D2
    refine W.stops s (fun s1 => Inv X pins σ H s1) E (by rw [hi]; exact ⟨hz, hTI, ⟨a1, a2, hTO⟩, f1 i h1, f2 i h2⟩) fun h' tk hk htk => ?_
    exact I.turnedL (t' := tk) (ch := [z, TO, i1, i2]) hk fun b hb => hf b (by
        have e' : b = z ∨ b = TO ∨ b = i1 ∨ b = i2 := by simpa using hb
        rcases e' with q | q | q | q <;> simp [q])
  self := fun A i s Q E st h => wpAny_pyIter_zip st.1 h
/-- the sources of zip -/
def zsV (K : PySem.W.Frag) (H : Hp) (v : V) (p : Zs) (xs : List V) : Prop := match p with
  | .str x _ => v = .str x ∧ p.rd K H xs
  | .lst a => v = .ref a ∧ p.rd K H xs
  | .tup a => v = .ref a ∧ p.rd K H xs
inductive ZV (K : PySem.W.Frag) (H : Hp) : V → List V → (Tok → Zs) → Prop
  | str (x : Str) : ZV K H (.str x) (x.cps.toList.map fun c => V.str ⟨#[c]⟩) (fun t => .str x t)
  | lst {a : Addr} {xs : List V} : SqL K H a xs → ZV K H (.ref a) xs (fun _ => .lst a)
  | tup {a : Addr} {xs : List V} : SqT K H a xs → ZV K H (.ref a) xs (fun _ => .tup a)
def iZipZ (K : PySem.W.Frag) (ta : TA) : TI := fun σ H R => ta σ H fun vs H1 => ∃ x y xs ys p q, vs = [x, y] ∧ ZV K H1 x xs p ∧ ZV K H1 y ys q ∧ ∀ t u, R (ItzZ K (p t) (q u)) H1
theorem ZV.beg {X : Cx} {pins : List (Addr × Obj)} {σ : L2.St} {H : Hp} {s : Shared} {v : V} {u : Value} {xs : List V} {p : Tok → Zs} (I : Inv X pins σ H s) (z : ZV X.K H v xs p) (r : RelV v u) :
    ∃ (t : Tok) (o : Obj) (G : Heap → Prop), u = (p t).val ∧ Begins u o G ∧ G s.heap ∧ (∀ h : Heap, ∀ it, h.get? it = some o → (p t).it it 0 h) ∧ ∀ a ∈ (p t).src, a < s.heap.objs.size := by
  cases z with
  | str x =>
    obtain ⟨t, rfl⟩ := r
    exact ⟨t, _, _, rfl, begins_text x t, trivial, fun h it e => ⟨_, e, rfl, rfl⟩, fun a m => by cases m⟩
  | @lst a xs h =>
    cases r
    obtain ⟨its, rv, pp, hk⟩ := I.list h
    exact ⟨0, _, _, rfl, begins_list a its.toArray, pp.isList, fun h it e => ⟨_, e, rfl, rfl⟩, fun b m => by
      cases List.mem_singleton.mp m
      exact pp.lt⟩
  | @tup a xs h =>
    cases r
    obtain ⟨its, rv, pp, hk⟩ := I.tuple h
    exact ⟨0, _, _, rfl, begins_tuple a its.toArray, pp, fun h it e => ⟨_, e, rfl, rfl⟩, fun b m => by
      cases List.mem_singleton.mp m
      obtain ⟨o, e, _⟩ := pp
      exact Heap.lt_size e⟩
theorem pi_zipZ {X : Cx} {e e2 : Expr} {ta : TA} {p pos tpos : Pos} {elts : List Expr} {kk : Nat} (hg : Gl X "zip") (hm : X.mg "zip" = none) (ha : PA X [e, e2] ta)
    (hs : starEach [e, e2] X.env = (false, eval e X.env) :: starEach [e2] X.env := by rfl) (hpl : (backTo pos (starEach [e2] X.env)).any (·.1) = false := by rfl) :
    PI X (.Tuple elts kk tpos) (.Call (.Name "zip" p) [e, e2] [] pos) (iZipZ X.K ta) := by
  refine ⟨fun pins s σ H R I h => ?_⟩
  refine Call_ (ld_blt I hg hm PyProof.Rows.boot_zip (PyProof.Rows.callWith_type1 (thn (ha.run pos pins s σ H _ I h) fun us s1 ⟨vs, H1, I1, r1, q1⟩ => ?_) hs hpl))
  obtain ⟨x, y, xs, ys, p, q, ex, zx, zy, k⟩ := q1
  subst ex
  cases r1 with
  | cons r rr =>
    cases rr with
    | cons r' rr =>
      cases rr
      obtain ⟨t, o1, G1, e1, b1, w1, i1, l1⟩ := ZV.beg I1 zx r
      obtain ⟨u, o2, G2, e2, b2, w2, i2, l2⟩ := ZV.beg I1 zy r'
      refine zip_begins2 b1 b2 w1 w2 fun h' hz hTI hTO h1 h2 hsz hk => wpAny_pyIter_zip hz ?_
      have I2 : Inv X pins σ H1 { s1 with heap := h' } := I1.kept (t' := s1.toks) hk
      refine ⟨s1.heap.objs.size + 4, [s1.heap.objs.size + 4, s1.heap.objs.size + 2, s1.heap.objs.size + 3, s1.heap.objs.size, s1.heap.objs.size + 1], _, _, H1, rfl, I2, turn_zipZ (p t) (q u) (zip_sep2 (N := s1.heap.objs.size) l1 l2), ⟨hz, hTI, ⟨_, _, hTO⟩, i1 h' _ h1, i2 h' _ h2⟩, fun c hcm => ?_, k t u⟩
      have e' : c = s1.heap.objs.size + 4 ∨ c = s1.heap.objs.size + 2 ∨ c = s1.heap.objs.size + 3 ∨ c = s1.heap.objs.size ∨ c = s1.heap.objs.size + 1 := by simpa using hcm
      have hle : s1.heap.objs.size ≤ c := by
        rcases e' with z | z | z | z | z
        · rw [z]; exact Nat.le_add_right _ _
        · rw [z]; exact Nat.le_add_right _ _
        · rw [z]; exact Nat.le_add_right _ _
        · rw [z]; exact Nat.le_refl _
        · rw [z]; exact Nat.le_add_right _ _
      exact I1.fpOk hle (I1.hok.fresh hle)
theorem walk_zipZ {K : PySem.W.Frag} {p q : Zs} {xs ys : List V} : Walk (ItzZ K p q) (min xs.length ys.length) (fun H => (p.rd K H xs ∧ q.rd K H ys)) (YPair (fun i => xs[i]?) (fun i => ys[i]?)) :=
  ⟨fun i H hi g => ⟨xs, ys, g.1, g.2, hi⟩, fun H g => ⟨xs, ys, g.1, g.2, rfl⟩, fun i H v H' _ g yl => by
    obtain ⟨T, c, d, h1, h2, h3, h4, h5⟩ := yl
    exact ⟨T, _, _, h1, h2, h3, h4 _ g.1, h5 _ g.2⟩⟩
end Nc

namespace Nc
open PySem PySem.Spec PyProof.Rows L2
/-! ### a dict of the top, its keys walked -/
def ItKd (ks : List Str) : It := ⟨fun i _ => i < ks.length, fun i H x H' => H' = H ∧ ∃ k, ks[i]? = some k ∧ x = .str k, fun i _ => ks.length ≤ i⟩
theorem ent_key {e : DictEntry} {p : Str × V} (h : entOf e = some p) : ∃ t, e.key = .str p.1 t := by
  unfold entOf at h
  split at h
  · rename_i q _
    cases h
    exact ⟨_, q⟩
  · rename_i q _
    cases h
    exact ⟨_, q⟩
  · cases h
theorem turn_kd {P : Program} {w : World} {K : PySem.W.Frag} {tg : Expr} {d : Addr} {es : Array DictEntry} {n : Nat} {kvs : List (Str × V)} (it : Addr) (D : KDict K w d es n) (hk : es.toList.map entOf = kvs.map some) : Turn P w K tg (ItKd (kvs.map (·.1))) [it] it (fun i h => h.IsKeyIter it d i es.size n) where
  mem := by simp
  obj := fun i h st b hb => by
    have e : b = it := by simpa using hb
    subst e
    obtain ⟨oi, e, c, dd⟩ := st
    exact ⟨oi, e, fun v z => by rw [dd] at z; cases z⟩
  keep := fun i h h' st k => st.at fun oi e => k it (by simp) oi e
  item := by
    intro X hP hw hK hc i pins s σ H E I hf st hg
    subst hP hw hK
    have hl : es.size = kvs.length := by
      have := congrArg List.length hk
      simpa using this
    have hi : i < kvs.length := by
      have : i < (kvs.map (·.1)).length := hg
      simpa using this
    obtain ⟨f0, f1, f2, f3, f4, f5⟩ := hf it (by simp)
    have hgd := I.kIn d _ D.at_
    have hen : es[i]? = some es[i] := Array.getElem?_eq_getElem (by omega)
    have he : entOf (es[i]'(by omega)) = some kvs[i] := by
      have h1 : (es.toList.map entOf)[i]? = (kvs.map some)[i]? := by rw [hk]
      rw [List.getElem?_map, List.getElem?_map, Array.getElem?_toList, hen, List.getElem?_eq_getElem hi] at h1
      exact Option.some.inj h1
    obtain ⟨t, ek⟩ := ent_key he
    refine next_key_item st hgd rfl rfl hen fun h' st' sb => ?_
    have I1 : Inv X pins σ H { s with heap := h' } := I.turned (t' := s.toks) (fun b ob hb e => (sb.2 b hb).trans e) f0 f1 f3 f4 f5
    obtain ⟨oi, e, c, dd⟩ := id st'
    exact ⟨_, rfl, go_of (s := { s with heap := h' }) e c dd (by decide) ⟨.str kvs[i].1, H, I1, ⟨t, ek⟩, ⟨rfl, kvs[i].1, by rw [List.getElem?_map, List.getElem?_eq_getElem hi]; rfl, rfl⟩, st', fun b hb => (hf b hb).1⟩⟩
  done := by
    intro X hP hw hK hc i pins s σ H E I hf st hg
    subst hP hw hK
    have hl : es.size = kvs.length := by
      have := congrArg List.length hk
      simpa using this
    have hi : es.size ≤ i := by
      have : (kvs.map (·.1)).length ≤ i := hg
      rw [List.length_map] at this
      omega
    obtain ⟨f0, f1, f2, f3, f4, f5⟩ := hf it (by simp)
    have hgd := I.kIn d _ D.at_
    exact next_key_end (I.ok.hd hc) st hgd rfl rfl hi fun h' eb => ⟨rfl, I.turned (t' := s.toks) (fun b ob hb e => eb b ob hb e) f0 f1 f3 f4 f5⟩
  self := fun A i s Q E st h => by
    refine wpAny_pyIter_slot st.typeIs F.slot_dict_keyiterator_iter (wpAny_call_entry F.slot_dict_keyiterator_iter st.typeIs F.entry_dict_keyiterator_iter ?_ (F.args_dict_keyiterator_iter_1 _))
    show wpAny _ _ (ret (.ref it)) _ _ s
    exact wpAny_pure ⟨_, rfl, "dict_keyiterator", _, st.typeIs, F.slot_dict_keyiterator_next.lookup, h⟩
def iKd (ks : List Str) : TI := fun _ H R => R (ItKd ks) H
theorem pi_kd {X : Cx} {tg e : Expr} {d : Addr} {kvs : List (Str × V)} (hd : ∃ es n, KDict X.K X.w d es n) (ht : tblIs X.K d kvs = true) (he : PE X e (tC (.ref d))) : PI X tg e (iKd (kvs.map (·.1))) := by
  obtain ⟨es, n, D⟩ := hd
  have hk : es.toList.map entOf = kvs.map some := by
    unfold tblIs at ht
    rw [D.at_] at ht
    exact of_decide_eq_true ht
  refine ⟨fun pins s σ H R I h => ?_⟩
  refine thn (he.run pins s σ H (fun x H1 => x = .ref d ∧ H1 = H) I ⟨rfl, rfl⟩) fun u s1 ⟨x, H1, I1, rx, ex, eH⟩ => ?_
  subst ex
  rw [eH] at I1
  obtain rfl : u = Value.ref d := rx
  have hgd := I1.kIn d _ D.at_
  exact iter_keys D.low hgd ⟨rfl, rfl, rfl⟩ rfl (pi_one (tk := s1.toks) I1 _ (turn_kd _ D hk) ⟨_, Heap.get?_push_size _ rfl, rfl, rfl⟩ h)
theorem walk_kd {ks : List Str} : Walk (ItKd ks) ks.length (fun _ => True) (fun i H x H' => H' = H ∧ ∃ k, ks[i]? = some k ∧ x = .str k) :=
  ⟨fun _ _ hi _ => hi, fun _ _ => Nat.le_refl _, fun _ _ _ _ _ _ y => y⟩
def rNotInTbl (K : PySem.W.Frag) (d : Addr) : R2 := fun x y H Q => ∃ (z : Str) (r : Option Value), x = .str z ∧ y = .ref d ∧ PySem.W.nsIn K d z = some r ∧ Q (.bl (!r.isSome)) H
theorem op_notInTbl {X : Cx} {d : Addr} (h : ∃ es n, KDict X.K X.w d es n) : OpR X (compareOp .NotIn) (rNotInTbl X.K d) := let ⟨_, _, D⟩ := h; op_notIn_kd D
/-! str(..) of a text or an int; a text += a text -/
def rStrA : List V → Hp → VK → Prop := fun xs H Q => (∃ i, xs = [.int i] ∧ i.natAbs.log2 < 1920 ∧ Q (.str (toString i)) H) ∨ ∃ a, xs = [.str a] ∧ Q (.str a) H
theorem call_strA {X : Cx} : CallR X (.type "str") rStrA := by
  intro pins s σ H xs us Q I r h
  rcases h with h | h
  · exact call_str_int pins s σ H xs us Q I r h
  · exact SkE.call_str_str pins s σ H xs us Q I r h
theorem ip_addS {X : Cx} : PIp X .Add rAddS := fun pins s σ H x y v u Q I r1 r2 h => in_addS pins s σ H x y v u Q I r1 r2 h
end Nc

namespace Nc
open PySem PySem.Spec PyProof.Rows L2
/-! ## sets, their very state: of ints, of texts -/
section
variable {P : Program} {w : World} {κ : Type} [DecidableEq κ] {knd : KeyKind P w κ} {A : Around} {E : Value → Shared → Prop} {s : Shared} {a : Addr}
/-- keys whose values are told apart at a look -/
def Seen (knd : KeyKind P w κ) : Prop := ∀ k v, knd.is k v = true → v.scannable = true
abbrev Keyed (knd : KeyKind P w κ) : List (Int × Value) → List κ → Prop := Paired fun e k => knd.is k e.2 = true ∧ e.1 = knd.hash k
theorem Keyed.len {es : List (Int × Value)} {ks : List κ} (h : Keyed knd es ks) : es.length = ks.length := by
  induction h with
  | nil => rfl
  | cons _ _ ih => simp [ih]
theorem Keyed.perm {es es' : List (Int × Value)} {ks : List κ} (p : es'.Perm es) : Keyed knd es ks → ∃ ks', ks'.Perm ks ∧ Keyed knd es' ks' := by
  induction p generalizing ks with
  | nil => exact fun h => ⟨ks, .refl _, h⟩
  | cons x _ ih =>
    intro h
    cases h with
    | cons r t => obtain ⟨k2, p2, h2⟩ := ih t; exact ⟨_ :: k2, p2.cons _, .cons r h2⟩
  | swap x y l =>
    intro h
    cases h with
    | cons r t => cases t with
      | cons r2 t => exact ⟨_, .swap _ _ _, .cons r2 (.cons r t)⟩
  | trans _ _ i1 i2 =>
    intro h
    obtain ⟨k1, p1, h1⟩ := i2 h
    obtain ⟨k2, p2, h2⟩ := i1 h1
    exact ⟨k2, p2.trans p1, h2⟩
theorem Keyed.push {e : Int × Value} {k : κ} {es : List (Int × Value)} {ks : List κ} (h : Keyed knd es ks) (he : knd.is k e.2 = true ∧ e.1 = knd.hash k) : Keyed knd (es ++ [e]) (ks ++ [k]) := by
  induction h with
  | nil => exact .cons he .nil
  | cons r _ ih => exact .cons r ih
theorem Keyed.elems (sn : Seen knd) {es : List (Int × Value)} {ks : List κ} (h : Keyed knd es ks) : ElemsOf knd es := by
  induction h with
  | nil => exact fun e he => by cases he
  | cons r _ ih =>
    intro e he
    rcases List.mem_cons.mp he with q | q
    · subst q; exact ⟨⟨_, r⟩, sn _ _ r.1⟩
    · exact ih e q
theorem Keyed.mem {es : List (Int × Value)} {ks : List κ} {k : κ} (h : Keyed knd es ks) : k ∈ ks ↔ ∃ e ∈ es, knd.is k e.2 = true := by
  induction h with
  | nil => simp
  | cons r _ ih =>
    rw [List.mem_cons, ih]
    constructor
    · rintro (q | ⟨e, he, q⟩)
      · exact ⟨_, List.mem_cons_self .., by rw [q]; exact r.1⟩
      · exact ⟨e, List.mem_cons_of_mem _ he, q⟩
    · rintro ⟨e, he, q⟩
      rcases List.mem_cons.mp he with z | z
      · rw [z] at q; exact .inl (knd.inj _ _ _ q r.1)
      · exact .inr ⟨e, z, q⟩
structure SetX (knd : KeyKind P w κ) (h : Heap) (a : Addr) (l : List κ) : Prop where
  nd : l.Nodup
  ex : ∃ o es ep t ks, h.get? a = some o ∧ o.ExactSet ∧ o.data = .set es ep t ∧ Keyed knd es.toList ks ∧ ks.Perm l ∧ es.size < scanBound ∧ t.fits es.size = true ∧ Ris t.place.toList ∧ (w.params.followText "set-order" = true ∨ t.led = true)
def insK (l : List κ) (k : κ) : List κ := if k ∈ l then l else l ++ [k]
/-- behind the laying of a new one: the table grown or not -/
theorem setX_tail {l : List κ} {g : Bool → Sem Unit} (hg : ∀ (b : Bool) (s₁ : Shared) (Q' : Unit → Shared → Prop), Q' () s₁ → wpAny (model P w) A (g b) Q' E s₁)
    {o : Obj} {es es1 : Array (Int × Value)} {ep : Nat} {t t2 : SetTable} {ks : List κ} {wd : Bool} {R : Option Bool → Shared → Prop} (ho : s.heap.get? a = some o) (hx : o.ExactSet) (hd : o.data = .set es ep t) (nd : l.Nodup)
    (hk : Keyed knd es1.toList ks) (hp : ks.Perm l) (hb : es1.size < scanBound) (hf : t2.fits es1.size = true) (hr : Ris t2.place.toList) (hl : w.params.followText "set-order" = true ∨ t2.led = true)
    (hR : ∀ h', Heap.SameBut a s.heap h' → SetX knd h' a l → R (some true) { s with heap := h' }) :
    wpAny (model P w) A (do
        storeSet a es1 t2
        if (!wd && t2.tooFull) = true then do
            g (relayAll t2 es1 (SetTable.grown es1.size)).2.2
            storeSet a (relayAll t2 es1 (SetTable.grown es1.size)).1 (relayAll t2 es1 (SetTable.grown es1.size)).2.1
            pure (some true)
          else pure (some true)) R E s := by
  have o1 := store_at (es' := es1) (t' := t2) ho hd
  refine wpAny_bind (wpAny_storeSet_of ho hd ?_ (fits_of_scanBound hb))
  have b1 := Heap.SameBut.update s.heap a (Obj.putSet es1 t2)
  by_cases c : (!wd && t2.tooFull) = true
  · rw [if_pos c]
    have pm := relayAll_perm t2 es1 (SetTable.grown es1.size)
    obtain ⟨ks2, p2, k2⟩ := hk.perm pm
    have sz : (relayAll t2 es1 (SetTable.grown es1.size)).1.size = es1.size := by rw [← Array.length_toList, pm.length_eq, Array.length_toList]
    refine wpAny_bind (hg _ _ _ (wpAny_bind (wpAny_storeSet_of o1 rfl (wpAny_pure (hR _ (b1.trans (Heap.SameBut.update _ a _)) ⟨nd, _, _, _, _, ks2, store_at o1 rfl, hx, rfl, k2, p2.trans hp, by rw [sz]; exact hb, ?_, relayAll_ris _ _ _, ?_⟩)) ?_)))
    · exact relayAll_fits t2 es1 (SetTable.grown es1.size)
    · rw [relayAll_led]; exact hl
    · exact fits_of_scanBound (by rw [sz]; exact hb)
  · rw [if_neg c]
    exact wpAny_pure (hR _ b1 ⟨nd, _, _, _, _, ks, o1, hx, rfl, hk, hp, hb, hf, hr, hl⟩)
theorem setX_add (sn : Seen knd) {x : Value} {k : κ} {l : List κ} {Q : Bool → Shared → Prop} (R : SetX knd s.heap a l) (hk : knd.is k x = true) (room : l.length + 1 < scanBound)
    (hQ : ∀ h', Heap.SameBut a s.heap h' → SetX knd h' a (insK l k) → Q (!decide (k ∈ l)) { s with heap := h' }) : wpAny (model P w) A (setAddHashed a x (knd.hash k)) Q E s := by
  obtain ⟨nd, o, es, ep, t, ks, ho, hx, hd, ky, pk, hb, hf, hr, hl⟩ := R
  have sx : x.scannable = true := sn _ _ hk
  have hel : ElemsOf knd es.toList := ky.elems sn
  have give : ∀ (b : Bool) {s₁ : Shared} {Q' : Unit → Shared → Prop}, Q' () s₁ → wpAny (model P w) A (match b with | true => rule "set.scan.the-table-gave-way" | false => pure ()) Q' E s₁ := fun b _ _ q => by
    cases b
    · exact wpAny_pure q
    · exact wpAny_rule q
  unfold setAddHashed setAddHashedIn
  refine wpAny_holding (wpAny_bind (wpAny_setState_of ho hd hf ?_))
  dsimp only
  rw [byScan_of sx hb hel]
  simp only [↓reduceIte]
  unfold setAddByScan
  refine wpAny_bind (wpAny_bind (wpAny_rule (wpAny_bind (wpAny_setScan_of hk ho hd hf hel ?_))))
  cases hfi : es.toList.findIdx? (fun e => knd.is k e.2) with
  | some j =>
    obtain ⟨hj, pj, _⟩ := List.findIdx?_eq_some_iff_getElem.mp hfi
    have kin : k ∈ l := pk.mem_iff.mp (ky.mem.mpr ⟨_, List.getElem_mem hj, pj⟩)
    have q := hQ s.heap (Heap.SameBut.refl a s.heap) ⟨by unfold insK; rw [if_pos kin]; exact nd, o, es, ep, t, ks, ho, hx, hd, ky, by unfold insK; rw [if_pos kin]; exact pk, hb, hf, hr, hl⟩
    rw [decide_eq_true kin] at q
    exact wpAny_pure (wpAny_pure q)
  | none =>
    have kout : k ∉ l := fun z => by
      obtain ⟨e, he, q⟩ := ky.mem.mp (pk.mem_iff.mpr z)
      rw [List.findIdx?_eq_none_iff.mp hfi e he] at q
      cases q
    have e1 : insK l k = l ++ [k] := if_neg kout
    have pm := layNew_perm t es (knd.hash k) x
    have hf1 := layNew_fits t es (knd.hash k) x
    have hr1 := layNew_ris t es (knd.hash k) x hr
    have hl1 := layNew_led t es (knd.hash k) x
    dsimp only
    generalize layNew t es (knd.hash k) x = Z at pm hf1 hr1 hl1 ⊢
    obtain ⟨es1, t1, wd, gave⟩ := Z
    dsimp only at pm hf1 hr1 hl1 ⊢
    rw [Array.toList_push] at pm
    obtain ⟨ks1, p1, k1⟩ := (ky.push (e := (knd.hash k, x)) ⟨hk, rfl⟩).perm pm
    have p2 : ks1.Perm (insK l k) := by rw [e1]; exact p1.trans (pk.append_right _)
    have nd1 : (insK l k).Nodup := by
      rw [e1, List.nodup_append]
      exact ⟨nd, by simp, fun a ha b hb => by rw [List.mem_singleton.mp hb]; exact fun z => kout (z ▸ ha)⟩
    have sz : es1.size = l.length + 1 := by rw [← Array.length_toList, k1.len, p2.length_eq, e1]; simp
    have hb1 : es1.size < scanBound := by rw [sz]; exact room
    have led : w.params.followText "set-order" = true ∨ t1.led = true := hl.imp id fun z => by rw [hl1]; exact z
    have fin : ∀ h', Heap.SameBut a s.heap h' → SetX knd h' a (insK l k) → Q true { s with heap := h' } := fun h' sb r => by
      have q := hQ h' sb r
      rw [decide_eq_false kout] at q
      exact q
    refine wpAny_bind (give _ ?_)
    split
    · refine wpAny_bind ?_
      rw [hashByValue_scannable 8 sx]
      refine wpAny_pure (setX_tail (fun b s₁ Q' q => give b q) ho hx hd nd1 k1 p2 hb1 ?_ ?_ ?_ fun h' sb r => wpAny_pure (fin h' sb r))
      · first
        | (split <;> first | exact hf1 | exact SetTable.fits_plain_off hf1)
        | exact hf1
      · first | (split <;> exact hr1) | exact hr1
      · first | (split <;> exact led) | exact led
    · refine wpAny_bind (wpAny_pure ?_)
      simp only [↓reduceIte]
      exact setX_tail (fun b s₁ Q' q => give b q) ho hx hd nd1 k1 p2 hb1 hf1 hr1 led fun h' sb r => wpAny_pure (fin h' sb r)
def gatherK (key : Nat → κ) : Nat → List κ
  | 0 => []
  | i + 1 => insK (gatherK key i) (key i)
theorem gatherK_le (key : Nat → κ) : ∀ i, (gatherK key i).length ≤ i
  | 0 => Nat.le_refl _
  | i + 1 => by
    have := gatherK_le key i
    unfold gatherK insK
    split
    · omega
    · rw [List.length_append]; simp; omega
theorem SetX.keep {h h' : Heap} {l : List κ} (R : SetX knd h a l) (k : ∀ o, h.get? a = some o → h'.get? a = some o) : SetX knd h' a l := by
  obtain ⟨nd, o, es, ep, t, ks, ho, r⟩ := R
  exact ⟨nd, o, es, ep, t, ks, k o ho, r⟩
/-- set.update's loop -/
theorem setX_loop (sn : Seen knd) {R : Result → Shared → Prop} {I : Addr} {fp wr : List Addr} {G : Array GenState → Array GenState → Prop} {n : Nat} {Pv : Nat → Value → Prop} {St : Nat → Shared → Prop} (W : WalksS P w A.in1 I fp wr G n Pv St) (hS : a ∉ fp)
    (key : Nat → κ) (hkey : ∀ i v, Pv i v → knd.is (key i) v = true) (hb : n + 1 < scanBound) : ∀ (m i : Nat) (s : Shared), n - i = m → i ≤ n → St i s → SetX knd s.heap a (gatherK key i) →
      (∀ s', Moved (a :: wr) G s s' → SetX knd s'.heap a (gatherK key n) → R (.ok (.ret .none)) s') → codeAny (model P w) A (.builtin "set.update.loop" ⟨[.ref a, .ref I], []⟩) R s := by
  have out : a ∉ wr := fun h => hS (W.sub _ h)
  have wide : ∀ b ∈ wr, b ∈ a :: wr := fun b hb => List.mem_cons_of_mem _ hb
  intro m
  induction m with
  | zero =>
    intro i s hm hi st X q
    obtain rfl : i = n := by omega
    refine codeAny_builtin F.entry_set_update_loop ?_
    rw [Around.under_plainId F.plain_set_update_loop _]
    show wpAny _ A.in1 (pyNext (.ref I) >>= _) _ _ s
    exact wpAny_bind (W.done s _ _ st fun s' mv => wpAny_pure (q s' (mv.mono wide) (X.keep fun o ho => mv.heap a _ out ho)))
  | succ m ih =>
    intro i s hm hi st X q
    have lt : i < n := by omega
    refine codeAny_builtin F.entry_set_update_loop ?_
    rw [Around.under_plainId F.plain_set_update_loop _]
    show wpAny _ A.in1 (pyNext (.ref I) >>= _) _ _ s
    refine wpAny_bind (W.item i s _ _ lt st fun v s' pv st' mv => ?_)
    have kv := hkey i v pv
    have X' : SetX knd s'.heap a (gatherK key i) := X.keep fun o ho => mv.heap a _ out ho
    show wpAny _ A.in1 (holding [v] (setAdd a v) >>= _) _ _ s'
    unfold setAdd
    refine wpAny_bind (wpAny_holding (wpAny_holding (wpAny_bind (knd.pyHash kv ?_))))
    refine setX_add (s := { s' with toks := s'.toks + 1 }) sn X' kv (by have := gatherK_le key i; omega) fun h' sb X2 => ?_
    refine wpAny_pure ⟨plainId_quiet F.plain_set_update_loop _, ih (i + 1) _ (by omega) lt (W.frame _ s' _ _ st' (Nat.le_succ _) fun b hb o e => ?_) X2 fun s2 mv2 X3 => ?_⟩
    · rw [sb.2 b fun z => hS (by rw [← z]; exact hb)]; exact e
    · refine q s2 (Moved.trans W.gtrans ((mv.mono wide).then_heap (Nat.le_succ _) fun b o hb e => ?_) mv2) X3
      rw [sb.2 b fun z => hb (by rw [z]; exact List.mem_cons_self ..)]; exact e
/-- an empty set, new -/
abbrev set0 (w : World) : Obj := { cls := .type "set", dict := none, data := .set #[] 0 (.fresh 0 0 (!w.params.followText "set-order")) }
theorem setX_fresh {h : Heap} (k : h.get? a = some (set0 w)) : SetX knd h a [] :=
  ⟨List.nodup_nil, _, #[], 0, _, [], k, ⟨rfl, rfl, rfl⟩, rfl, .nil, .refl _, by decide, by rfl, List.Pairwise.nil, by
    show _ ∨ (!w.params.followText "set-order") = true
    cases w.params.followText "set-order"
    · exact .inr rfl
    · exact .inl rfl⟩
/-- set.__new__(set, x) -/
theorem set_new1 (x : Value) {Q : Value → Shared → Prop} (q : Q (.ref s.heap.objs.size) { s with heap := s.heap.push (set0 w) }) : codeAny (model P w) A (.call (.builtin "set.__new__") ⟨[.type "set", x], []⟩) (wants Q E) s := by
  refine codeAny_of_tree ?_
  show wpAny _ A.in1 (do checkBuiltinCall "set.__new__" ⟨[.type "set", x], []⟩; again (.builtin "set.__new__" ⟨[.type "set", x], []⟩)) _ _ s
  refine wpAny_bind (wpAny_of_eq (F.newCall_set_1 x) (wpAny_pure ⟨plainId_quiet F.plain_set_new _, codeAny_builtin F.entry_set_new ?_⟩))
  rw [Around.under_plainId F.plain_set_new _]
  unfold Builtin.«set.__new__» Builtin.Frozenset.newClass
  have sub := sub_set_self
  obtain ⟨hp, g, d, tk, os⟩ := s
  dsimp only
  wp_walk
  refine wpAny_askSetting (wpAny_pure ?_)
  simp only [newObj]
  exact wpAny_bind (wpAny_alloc (wpAny_pure (wpAny_pure q)))
set_option maxHeartbeats 3200000 in
/-- set(xs) -/
theorem setX_list (sn : Seen knd) {l : Addr} {xs : Array Value} {Q : Value → Shared → Prop} (calm : A.handled = none) (hl : s.heap.IsList l xs) (key : Nat → κ) (hkey : ∀ i v, xs[i]? = some v → knd.is (key i) v = true) (hb : xs.size + 1 < scanBound)
    (q : ∀ (h' : Heap) (tk : Nat), SetX knd h' s.heap.objs.size (gatherK key xs.size) → (∀ b o, s.heap.get? b = some o → h'.get? b = some o) → Q (.ref s.heap.objs.size) { s with heap := h', toks := tk }) :
    wpAny (model P w) A (call (.type "set") [.ref l]) Q E s := by
  obtain ⟨c, tl, hmro⟩ := F.called_set.mro
  have hmade := F.called_set.made
  have hsub := F.called_set.sub
  have lt : l < s.heap.objs.size := let ⟨_, e, _⟩ := hl; Heap.lt_size e
  refine wpAny_call (codeAny_of_tree ?_)
  show wpAny _ _ (callAny (.type "set") _) _ _ _
  refine wpAny_pure ⟨Code.quiet_builtin _ (by decide +kernel), codeAny_builtin F.entry_type_call ?_⟩
  rw [Around.under_plain (weight_type_call_type "set" [.ref l] []) rfl]
  have h1 := F.called_set.notType
  have h2 := F.called_set.canCreate
  have hct := F.typeCall_set_1 (.ref l)
  repeat (any_goals (first | assumption | wp_step))
  refine codeAny_mono (set_new1 (.ref l) (E := E) (Q := fun obj s₁ => obj = .ref s.heap.objs.size ∧ s₁ = { s with heap := s.heap.push (set0 w) }) ⟨rfl, rfl⟩) fun r s₁ hr => ?_
  cases r with
  | error e => exact hr
  | ok fl =>
    cases fl with
    | ret obj =>
      obtain ⟨rfl, rfl⟩ := hr
      have gS : (s.heap.push (set0 w)).get? s.heap.objs.size = some (set0 w) := Heap.get?_push_size _ rfl
      have hT : Shared.TypeIs { s with heap := s.heap.push (set0 w) } (.ref s.heap.objs.size) "set" := ⟨_, gS, rfl⟩
      have hli := F.called_set.init.lookup
      have hbi := F.called_set.init.bind (.ref s.heap.objs.size)
      repeat (any_goals (first | assumption | wp_step))
      refine codeAny_mono (codeAny_call_builtin (R := wants (fun r s₂ => r = .none ∧ ∃ h' tk, s₂ = { s with heap := h', toks := tk } ∧ SetX knd h' s.heap.objs.size (gatherK key xs.size) ∧ (∀ b o, s.heap.get? b = some o → h'.get? b = some o)) E)
        F.called_set.init.plain F.entry_set_init (check_set_init_1 hT ?_)) fun r₂ s₂ hr₂ => ?_
      · obtain ⟨ol, hol, hcl, nl, hdl⟩ := hl
        obtain ⟨ocls, odict, odata, oslots⟩ := ol
        simp only at hcl hdl
        subst hcl; subst hdl
        have hol' : (s.heap.push (set0 w)).get? l = some { cls := .type "list", dict := odict, data := .seq xs nl, slots := oslots } := Heap.get?_push_of_some _ hol
        have hsls := F.sub_list_set
        have hslf := F.sub_list_frozenset
        have hne : (Value.type "list" == Value.type "dict") = false := by decide
        have hl1 : (s.heap.push (set0 w)).IsList l xs := ⟨_, hol', rfl, nl, rfl⟩
        unfold Builtin.«set.__init__» noKeywords Builtin.Frozenset.updateFrom
        generalize hPI : pyIter = PI
        wp_walk
        subst hPI
        refine wpAny_pyIter_list hl1 (wpAny_bind (wpAny_runValue ?_))
        have calm3 : A.in1.in1.in1.handled = none := by simp [calm]
        have sz : (s.heap.push (set0 w)).objs.size = s.heap.objs.size + 1 := Heap.size_push ..
        have nI : l ≠ (s.heap.push (set0 w)).objs.size := by rw [sz]; exact Nat.ne_of_lt (Nat.lt_succ_of_lt lt)
        have nS : s.heap.objs.size ∉ [(s.heap.push (set0 w)).objs.size, l] := by
          simp only [List.mem_cons, List.not_mem_nil, or_false, not_or]
          rw [sz]
          exact ⟨Nat.ne_of_lt (Nat.lt_succ_self _), Nat.ne_of_gt lt⟩
        refine setX_loop sn ((Walks.list calm3 _ l nI xs).toS) nS key hkey hb (xs.size - 0) 0 _ (by omega) (Nat.zero_le _) ⟨⟨_, Heap.get?_push_size _ rfl, rfl, rfl⟩, (hl1.push _)⟩ (setX_fresh (Heap.get?_push_of_some _ gS)) fun s' mv X => ?_
        obtain ⟨h', g', d', tk', os'⟩ := s'
        obtain rfl : g' = s.gens := mv.gens
        obtain rfl : d' = s.drawn := mv.drawn
        obtain rfl : os' = s.os := mv.os
        show wpAny _ _ _ _ _ _
        refine wpAny_pure ?_
        show wpAny _ _ (ret Value.none) _ _ _
        refine wpAny_pure ⟨rfl, h', tk', rfl, X, fun b o e => mv.heap b o ?_ (Heap.get?_push_of_some _ (Heap.get?_push_of_some _ e))⟩
        have lb := Heap.lt_size e
        simp only [List.mem_cons, List.not_mem_nil, or_false, not_or]
        rw [sz]
        exact ⟨Nat.ne_of_lt lb, Nat.ne_of_lt (Nat.lt_succ_of_lt lb)⟩
      · cases r₂ with
        | error e => exact hr₂
        | ok fl₂ =>
          cases fl₂ with
          | ret r =>
            obtain ⟨rfl, h', tk, rfl, X, hk'⟩ := hr₂
            repeat (any_goals (first | assumption | wp_step))
            exact q _ _ X hk'
          | _ => exact hr₂.elim
    | _ => exact hr.elim
end
theorem paired_perm {α β : Type} {F : α → β → Prop} {xs ys : List α} {zs : List β} (p : ys.Perm xs) : Paired F xs zs → ∃ ws, ws.Perm zs ∧ Paired F ys ws := by
  induction p generalizing zs with
  | nil => exact fun h => ⟨zs, .refl _, h⟩
  | cons x _ ih =>
    intro h
    cases h with
    | cons r t => obtain ⟨k2, p2, h2⟩ := ih t; exact ⟨_ :: k2, p2.cons _, .cons r h2⟩
  | swap x y l =>
    intro h
    cases h with
    | cons r t => cases t with
      | cons r2 t => exact ⟨_, .swap _ _ _, .cons r2 (.cons r t)⟩
  | trans _ _ i1 i2 =>
    intro h
    obtain ⟨k1, p1, h1⟩ := i2 h
    obtain ⟨k2, p2, h2⟩ := i1 h1
    exact ⟨k2, p2.trans p1, h2⟩
section
variable {P : Program} {w : World} {A : Around} {E : Value → Shared → Prop} {s : Shared} {a : Addr}
theorem seen_str : Seen (strKind P w) := fun k v h => by
  obtain ⟨t, rfl⟩ := Value.isStrOf_shape h
  rfl
theorem seen_int : Seen (intKind P w) := fun k v h => by
  obtain ⟨t, rfl⟩ := Value.isInt_shape h
  rfl
theorem strs_keyed {es : List (Int × Value)} {ks : List Str} (h : Keyed (strKind P w) es ks) : Paired (fun v k => (strKind P w).is k v = true) (es.map (·.2)) ks := by
  induction h with
  | nil => exact .nil
  | cons r _ ih => exact .cons r.1 ih
theorem strs_are {vs : List Value} {ks : List Str} (h : Paired (fun v k => (strKind P w).is k v = true) vs ks) : StrsAre vs ks := by
  induction h with
  | nil => exact .nil
  | cons r _ ih =>
    obtain ⟨t, rfl⟩ := Value.isStrOf_shape r
    exact .cons _ t ih
end
end Nc

namespace Nc
open PySem PySem.Spec PyProof.Rows L2
/-! ## sorted(set) of texts -/
section
variable {P : Program} {w : World} {A : Around} {E : Value → Shared → Prop} {s : Shared} {a : Addr}
theorem sorted_setS {l : List Str} {Q : Value → Shared → Prop} (R : SetX (strKind P w) s.heap a l) (calm : A.handled = none) (few : l.length < 64)
    (q : ∀ (s' : Shared) (p : Addr) (out : Array Value) (c : Nat) (ys : List Str), (∀ b o, s.heap.get? b = some o → s'.heap.get? b = some o) → s'.gens = s.gens → s'.os = s.os → s.heap.objs.size ≤ p →
      s'.heap.get? p = some (seqObj "list" out c) → StrsAre out.toList ys → ys.Perm l → sortedS ys = true → Q (.ref p) s') :
    wpAny (model P w) A (call (.builtin "sorted") [.ref a]) Q E s := by
  obtain ⟨nd, o, es, ep, t, ks, ho, hx, hd, ky, pk, hb, hf, hr, hl⟩ := R
  refine Calls.call_function_entry kind_sorted plain_sorted entry_sorted (args_sorted1 _) ?_
  unfold Builtin.«sorted»
  refine wpAny_bind (m := checkCount "sorted" 1 1 _) (wpAny_pure ?_)
  refine wpAny_bind (collect_set (A := A.in1) calm ⟨o, ho, hx.1, hd⟩ hf hb hr hl fun s1 vs k1 le g1 o1 pm => ?_)
  obtain ⟨zs, pz, hz⟩ := paired_perm pm (strs_keyed ky)
  have vz : StrsAre vs zs := strs_are hz
  have plz : zs.Perm l := pz.trans pk
  have len : vs.length = zs.length := vz.length
  have few2 : vs.length < 64 := by rw [len, plz.length_eq]; exact few
  refine wpAny_bind (wpAny_newList ?_ (by rw [sizeLine_eq]; omega))
  have hoL : (s1.heap.push (seqObj "list" vs.toArray 0)).get? s1.heap.objs.size = some (seqObj "list" vs.toArray 0) := Heap.get?_push_size _ rfl
  refine wpAny_bind (wpAny_holding (wpAny_call_entry slot_list_sort ⟨_, hoL, rfl⟩ entry_list_sort
    (list_sort_treeK strKind_oneLt hoL vz.keysOf (fun v₁ v₂ rest e => keyKind_strs (by rw [← e]; exact vz)) few2 fun st' hp hs => ⟨_, rfl, ?_⟩) (args_list_sort _)))
  obtain ⟨ys, y1, y2, y3⟩ := sorted_out_str vz hp hs
  obtain ⟨c, hc⟩ := sortedHeap_at (vs := vs) (out := (arrOf st').map (·.2)) hoL
  refine wpAny_pure ⟨_, rfl, q _ s1.heap.objs.size _ c ys (fun b u e => ?_) g1 o1 le hc y1 (y2.trans plz) y3⟩
  have e1 := k1 b u e
  have lt := Heap.lt_size e1
  show (sortedHeap (s1.heap.push (seqObj "list" vs.toArray 0)) s1.heap.objs.size vs _).get? b = some u
  rw [sortedHeap_old (Nat.ne_of_lt lt) (by rw [size_push']; exact Nat.lt_succ_of_lt lt)]
  exact Heap.get?_push_of_some _ e1
end
def foldK {κ : Type} [DecidableEq κ] (l : List κ) : List κ := l.foldl insK []
theorem gather_fold {κ : Type} [DecidableEq κ] {l : List κ} {key : Nat → κ} (h : ∀ i k, l[i]? = some k → key i = k) : ∀ n, n ≤ l.length → gatherK key n = (l.take n).foldl insK []
  | 0, _ => rfl
  | n + 1, hn => by
    have e : l[n]? = some l[n] := List.getElem?_eq_getElem hn
    rw [List.take_add_one, e, List.foldl_append]
    show insK (gatherK key n) (key n) = _
    rw [gather_fold h n (by omega), h n _ e]
    rfl
/-- the set at a, its members -/
def SetXO {P : Program} {w : World} {κ : Type} [DecidableEq κ] (knd : KeyKind P w κ) (a : Addr) (l : List κ) : HO := .ext fun h => SetX knd h a l
theorem setXO_new {P : Program} {w : World} {κ : Type} [DecidableEq κ] {knd : KeyKind P w κ} {H : Hp} {h : Heap} {a : Addr} {l : List κ} (R : SetX knd h a l) : ObjOk P w H h a (SetXO knd a l) := by
  have ⟨_, o, _, _, _, _, ho, _⟩ := R
  exact ⟨R, ⟨o, ho⟩, fun h1 h2 p k => SetX.keep p k⟩
def rSetS (K : PySem.W.Frag) (P : Program) (w : World) : List V → Hp → VK → Prop := fun xs H Q => ∃ (p : Addr) (zs : List Str), xs = [.ref p] ∧ SqL K H p (zs.map V.str) ∧ zs.length + 1 < scanBound ∧ ∀ q, H q = none → Q (.ref q) (upd H q (SetXO (strKind P w) q (foldK zs)))
theorem cr_setS {X : Cx} (hc : X.calm = true) : CallR X (.type "set") (rSetS X.K X.prog X.w) := by
  intro pins s σ H xs us Q I r h
  obtain ⟨p, zs, rfl, hs, hb, q⟩ := h
  obtain ⟨its, rv, hl, _⟩ := I.list hs
  rw [Vals.ref1 r]
  have hlen : its.length = zs.length := by have := rv.length; rw [List.length_map] at this; exact this.symm
  have sv := rv.strs
  refine setX_list (knd := strKind X.prog X.w) seen_str (I.ok.hd hc) hl.isList (fun i => zs.getD i default) (fun i v hv => ?_) (by rw [List.size_toArray, hlen]; exact hb) fun h' tk R keep => ?_
  · have hv2 : its[i]? = some v := by simpa using hv
    obtain ⟨x, hx, rx⟩ : ∃ x, zs[i]? = some x ∧ RelV (.str x) v := by
      have hi : i < zs.length := by rw [← hlen]; exact (List.getElem?_eq_some_iff.mp hv2).1
      obtain ⟨u, hu, ru⟩ := rv.get (i := i) (x := .str zs[i]) (by simp [hi])
      rw [hv2] at hu
      cases hu
      exact ⟨zs[i], List.getElem?_eq_getElem hi, ru⟩
    obtain ⟨t, rfl⟩ := rx
    rw [List.getD_eq_getElem?_getD, hx]
    exact strKind_is X.prog X.w x t
  · rw [gather_fold (l := zs) (fun i k e => by rw [List.getD_eq_getElem?_getD, e]; rfl) _ (by rw [List.size_toArray, hlen]; exact Nat.le_refl _), show its.toArray.size = zs.length by rw [List.size_toArray, hlen], List.take_length] at R
    exact ⟨.ref _, _, I.laid (t' := tk) keep (Nat.le_refl _) (setXO_new R), rfl, q _ (I.hok.fresh (Nat.le_refl _))⟩
def rSortX (P : Program) (w : World) : List V → Hp → VK → Prop := fun xs H Q => ∃ (a : Addr) (l : List Str), xs = [.ref a] ∧ H a = some (SetXO (strKind P w) a l) ∧ l.length < 64 ∧
  ∀ (ys : List Str) (p : Addr), ys.Perm l → sortedS ys = true → H p = none → Q (.ref p) (upd H p (.lst (ys.map V.str)))
theorem cr_sortX {X : Cx} (hc : X.calm = true) : CallR X (.builtin "sorted") (rSortX X.prog X.w) := by
  intro pins s σ H vs us Q I r h
  obtain ⟨a, l, rfl, ha, few, q⟩ := h
  have R : SetX (strKind X.prog X.w) s.heap a l := (I.hok a _ ha).1
  rw [Vals.ref1 r]
  refine sorted_setS R (I.ok.hd hc) few fun s' p out c ys k g o hp hg hi pm so => ?_
  have hlen : (ys.map V.str).length ≤ sizeLine := by rw [List.length_map, pm.length_eq, sizeLine_eq]; omega
  have hn : H p = none := I.hok.fresh hp
  have J : L2.Inv X pins σ (upd H p (.lst (ys.map V.str))) { s with heap := s'.heap, gens := s'.gens, drawn := s'.drawn, toks := s'.toks } :=
    I.call (ch := []) (Un.laid k hp hn) (I.hok.laid k hp ⟨hlen, out.toList, c, vals_of_strs hi, hg⟩) (by rw [g]; exact I.bare) (fun _ z => nomatch z)
  have e : s' = { s with heap := s'.heap, gens := s'.gens, drawn := s'.drawn, toks := s'.toks } := by
    cases s'
    cases s
    cases o
    rfl
  rw [e]
  exact ⟨.ref p, _, J, rfl, q ys p pm so hn⟩
end Nc

namespace Nc
open PySem PySem.Spec PyProof.Rows L2
/-! ## the data layer: what a def means, on data and a store of objects that change -/
/-- data -/
inductive D where
  | non | bl (b : Bool) | int (i : Int) | str (z : Str)
  | lst (ds : List D) | tup (ds : List D)
  | dic (ks ds : List D)
  | ins (C : Str) (ns : List Str) (ds : List D)
  | ob (i : Nat)
  | bag
  | raw (v : V)
/-- an object that changes -/
inductive Ob where
  | ins (C : Str) (fs : List (Str × D))
  | lst (ds : List D)
  | dic (ks ds : List D)
abbrev Sto := List Ob
/-- a law's bag: its place, its script's copy; its tables of code objects -/
structure BG where
  bg : Option (Addr × Addr × List Int)
  tb : List (Addr × Str)
/-- no table -/
def Ntb (o : HO) : Prop := ∀ ps, o ≠ .tbl ps
def noT : Option HO → Option HO
  | some (.tbl _) => none
  | x => x
theorem noT_some {x : Option HO} {o : HO} (h : noT x = some o) : x = some o ∧ Ntb o := by
  unfold noT at h
  split at h
  · cases h
  · rename_i q
    exact ⟨h, fun ps z => q ps (by rw [h, z])⟩
theorem noT_get {x : Option HO} {o : HO} (h : x = some o) (n : Ntb o) : noT x = some o := by
  subst h
  unfold noT
  split
  · rename_i q
    cases q
    exact (n _ rfl).elim
  · rfl
def kD : Key → D
  | .inl n => .int n
  | .inr z => .str z
open Classical in
/-- the heap but for what is hidden, and the tables -/
noncomputable def hid (A : Addr → Prop) (H : Hp) : Hp := fun a => if A a then none else noT (H a)
section
variable {A B : Addr → Prop} {H H' : Hp} {a : Addr} {o : HO}
theorem hid_get (h : ¬ A a) (e : H a = some o) (n : Ntb o := by intro _ z; cases z) : hid A H a = some o := by unfold hid; rw [if_neg h]; exact noT_get e n
theorem hid_some (h : hid A H a = some o) : ¬ A a ∧ H a = some o := by
  unfold hid at h
  by_cases c : A a
  · rw [if_pos c] at h; cases h
  · rw [if_neg c] at h; exact ⟨c, (noT_some h).1⟩
theorem hid_nt (h : hid A H a = some o) : Ntb o := by
  unfold hid at h
  by_cases c : A a
  · rw [if_pos c] at h; cases h
  · rw [if_neg c] at h; exact (noT_some h).2
theorem hid_same : Same (hid A H) H := fun _ _ h => (hid_some h).2
theorem hid_mono (h : ∀ a, B a → A a) : Same (hid A H) (hid B H) := fun a o e => by
  obtain ⟨h1, h2⟩ := hid_some e
  exact hid_get (fun z => h1 (h a z)) h2 (hid_nt e)
theorem hid_step (h : Same H H') : Same (hid A H) (hid A H') := fun a o e => by
  obtain ⟨h1, h2⟩ := hid_some e
  exact hid_get h1 (h _ _ h2) (hid_nt e)
end
/-- a dict with int and text keys, locked or not -/
def DicK (H : Hp) (a : Addr) (kvs : List (Key × V)) : Prop := H a = some (.dK kvs) ∨ ∃ o, H a = some (.frz o (.dK kvs))
theorem DicK.same {H H' : Hp} {a : Addr} {kvs : List (Key × V)} (e : Same H H') (h : DicK H a kvs) : DicK H' a kvs := h.elim (fun h => .inl (e _ _ h)) fun ⟨o, h⟩ => .inr ⟨o, e _ _ h⟩
section
variable (K : PySem.W.Frag) (mg : Str → Option Value) (β : BG) (α : List Addr) (H : Hp)
mutual
inductive Rp : V → D → Prop
  | non : Rp .non .non
  | bl (b : Bool) : Rp (.bl b) (.bl b)
  | int (i : Int) : Rp (.int i) (.int i)
  | str {z : Str} : z.length ≤ sizeLine → Rp (.str z) (.str z)
  | lst {a : Addr} {xs : List V} {ds : List D} : H a = some (.lst xs) → xs.length ≤ sizeLine → RpAll xs ds → Rp (.ref a) (.lst ds)
  | tup {a : Addr} {xs : List V} {ds : List D} : SqT K H a xs → xs.length ≤ sizeLine → RpAll xs ds → Rp (.ref a) (.tup ds)
  | dK {a : Addr} {kvs : List (Key × V)} {ds : List D} : DicK H a kvs → kvs.length ≤ sizeLine → RpAll (kvs.map (·.2)) ds → Rp (.ref a) (.dic (kvs.map fun p => kD p.1) ds)
  | ins {a C dx : Addr} {c : Str} {fs : List (Str × V)} {ds : List D} : mg c = some (.ref C) → H a = some (.ins C dx fs) → RpAll (fs.map (·.2)) ds → Rp (.ref a) (.ins c (fs.map (·.1)) ds)
  | ob {i : Nat} {a : Addr} : α[i]? = some a → Rp (.ref a) (.ob i)
  | bag {b l : Addr} {ns : List Int} : β.bg = some (b, l, ns) → Rp (.ref b) .bag
  | raw (v : V) : Rp v (.raw v)
inductive RpAll : List V → List D → Prop
  | nil : RpAll [] []
  | cons {v : V} {vs : List V} {d : D} {ds : List D} : Rp v d → RpAll vs ds → RpAll (v :: vs) (d :: ds)
end
end
theorem pre_get {α α' : List Addr} (p : α <+: α') {i : Nat} {a : Addr} (h : α[i]? = some a) : α'[i]? = some a := by
  obtain ⟨t, rfl⟩ := p
  rw [List.getElem?_append_left (List.getElem?_eq_some_iff.mp h).1]
  exact h
section
variable {K : PySem.W.Frag} {mg : Str → Option Value} {β : BG} {α α' : List Addr} {H H' : Hp}
mutual
theorem Rp.mono (p : α <+: α') (e : Same H H') : ∀ {v : V} {d : D}, Rp K mg β α H v d → Rp K mg β α' H' v d
  | _, _, .non => .non
  | _, _, .bl b => .bl b
  | _, _, .int i => .int i
  | _, _, .str h => .str h
  | _, _, .lst h n r => .lst (e _ _ h) n (RpAll.mono p e r)
  | _, _, .tup h n r => .tup (Same.tup e h) n (RpAll.mono p e r)
  | _, _, .dK h n r => .dK (h.same e) n (RpAll.mono p e r)
  | _, _, .ins c h r => .ins c (e _ _ h) (RpAll.mono p e r)
  | _, _, .ob h => .ob (pre_get p h)
  | _, _, .bag h => .bag h
  | _, _, .raw v => .raw v
theorem RpAll.mono (p : α <+: α') (e : Same H H') : ∀ {vs : List V} {ds : List D}, RpAll K mg β α H vs ds → RpAll K mg β α' H' vs ds
  | _, _, .nil => .nil
  | _, _, .cons h r => .cons (Rp.mono p e h) (RpAll.mono p e r)
end
theorem Rp.same (e : Same H H') {v : V} {d : D} (h : Rp K mg β α H v d) : Rp K mg β α H' v d := h.mono (List.prefix_refl _) e
theorem RpAll.same (e : Same H H') {v : List V} {d : List D} (h : RpAll K mg β α H v d) : RpAll K mg β α H' v d := h.mono (List.prefix_refl _) e
theorem RpAll.len : ∀ {xs : List V} {ds : List D}, RpAll K mg β α H xs ds → xs.length = ds.length
  | _, _, .nil => rfl
  | _, _, .cons _ t => congrArg Nat.succ (RpAll.len t)
theorem RpAll.get : ∀ {xs : List V} {ds : List D} {i : Nat} {x : V}, RpAll K mg β α H xs ds → xs[i]? = some x → ∃ d, ds[i]? = some d ∧ Rp K mg β α H x d
  | _, _, _, _, .nil, e => by simp at e
  | _, _, 0, _, .cons h _, e => by simp at e; subst e; exact ⟨_, rfl, h⟩
  | _, _, i + 1, x, .cons _ t, e => by
    obtain ⟨d, h1, h2⟩ := RpAll.get (i := i) (x := x) t (by simpa using e)
    exact ⟨d, by simpa using h1, h2⟩
theorem RpAll.get' : ∀ {xs : List V} {ds : List D} {i : Nat} {d : D}, RpAll K mg β α H xs ds → ds[i]? = some d → ∃ x, xs[i]? = some x ∧ Rp K mg β α H x d
  | _, _, _, _, .nil, e => by simp at e
  | _, _, 0, _, .cons h _, e => by simp at e; subst e; exact ⟨_, rfl, h⟩
  | _, _, i + 1, x, .cons _ t, e => by
    obtain ⟨d, h1, h2⟩ := RpAll.get' (i := i) (d := x) t (by simpa using e)
    exact ⟨d, by simpa using h1, h2⟩
theorem RpAll.append : ∀ {xs ys : List V} {ds es : List D}, RpAll K mg β α H xs ds → RpAll K mg β α H ys es → RpAll K mg β α H (xs ++ ys) (ds ++ es)
  | _, _, _, _, .nil, s => s
  | _, _, _, _, .cons r t, s => .cons r (RpAll.append t s)
theorem RpAll.take : ∀ {xs : List V} {ds : List D} (n : Nat), RpAll K mg β α H xs ds → RpAll K mg β α H (xs.take n) (ds.take n)
  | _, _, 0, _ => .nil
  | _, _, _ + 1, .nil => .nil
  | _, _, n + 1, .cons r t => .cons r (RpAll.take n t)
theorem RpAll.drop : ∀ {xs : List V} {ds : List D} (n : Nat), RpAll K mg β α H xs ds → RpAll K mg β α H (xs.drop n) (ds.drop n)
  | _, _, 0, r => r
  | _, _, _ + 1, .nil => .nil
  | _, _, n + 1, .cons _ t => RpAll.drop n t
theorem RpAll.erase : ∀ {xs : List V} {ds : List D} (n : Nat), RpAll K mg β α H xs ds → RpAll K mg β α H (xs.eraseIdx n) (ds.eraseIdx n)
  | _, _, _, .nil => .nil
  | _, _, 0, .cons _ t => t
  | _, _, n + 1, .cons r t => .cons r (RpAll.erase n t)
theorem RpAll.set {v : V} {d : D} (h : Rp K mg β α H v d) : ∀ {xs : List V} {ds : List D} (n : Nat), RpAll K mg β α H xs ds → RpAll K mg β α H (xs.set n v) (ds.set n d)
  | _, _, _, .nil => .nil
  | _, _, 0, .cons _ t => .cons h t
  | _, _, n + 1, .cons r t => .cons r (RpAll.set h n t)
theorem RpAll.reverse : ∀ {xs : List V} {ds : List D}, RpAll K mg β α H xs ds → RpAll K mg β α H xs.reverse ds.reverse
  | _, _, .nil => .nil
  | _, _, .cons r t => by rw [List.reverse_cons, List.reverse_cons]; exact (RpAll.reverse t).append (.cons r .nil)
theorem RpAll.ints : ∀ (ns : List Int), RpAll K mg β α H (ns.map V.int) (ns.map D.int)
  | [] => .nil
  | n :: ns => .cons (.int n) (RpAll.ints ns)
theorem RpAll.bls : ∀ {xs : List V} {bs : List Bool}, RpAll K mg β α H xs (bs.map D.bl) → xs = bs.map V.bl
  | [], [], _ => rfl
  | _, [], h => by cases h; rfl
  | _, b :: bs, h => by
    cases h with
    | cons h t => cases h; rw [RpAll.bls t]; rfl
theorem RpAll.intsI : ∀ {xs : List V} {bs : List Int}, RpAll K mg β α H xs (bs.map D.int) → xs = bs.map V.int
  | [], [], _ => rfl
  | _, [], h => by cases h; rfl
  | _, b :: bs, h => by
    cases h with
    | cons h t => cases h; rw [RpAll.intsI t]; rfl
theorem RpAll.strsI : ∀ {xs : List V} {bs : List Str}, RpAll K mg β α H xs (bs.map D.str) → xs = bs.map V.str
  | [], [], _ => rfl
  | _, [], h => by cases h; rfl
  | _, b :: bs, h => by
    cases h with
    | cons h t => cases h; rw [RpAll.strsI t]; rfl
theorem RpAll.strs : ∀ {bs : List Str}, (∀ z ∈ bs, z.length ≤ sizeLine) → RpAll K mg β α H (bs.map V.str) (bs.map D.str)
  | [], _ => .nil
  | b :: bs, h => .cons (.str (h b (List.mem_cons_self ..))) (RpAll.strs fun z hz => h z (List.mem_cons_of_mem _ hz))
theorem Rp.intI {v : V} {i : Int} (h : Rp K mg β α H v (.int i)) : v = .int i := by cases h; rfl
theorem Rp.strI {v : V} {z : Str} (h : Rp K mg β α H v (.str z)) : v = .str z ∧ z.length ≤ sizeLine := by cases h; exact ⟨rfl, ‹_›⟩
theorem Rp.blI {v : V} {b : Bool} (h : Rp K mg β α H v (.bl b)) : v = .bl b := by cases h; rfl
theorem Rp.nonI {v : V} (h : Rp K mg β α H v .non) : v = .non := by cases h; rfl
theorem Rp.rawI {v x : V} (h : Rp K mg β α H v (.raw x)) : v = x := by cases h; rfl
theorem Rp.obI {v : V} {i : Nat} (h : Rp K mg β α H v (.ob i)) : ∃ a, v = .ref a ∧ α[i]? = some a := by cases h; exact ⟨_, rfl, ‹_›⟩
theorem Rp.tupI {v : V} {ds : List D} (h : Rp K mg β α H v (.tup ds)) : ∃ a xs, v = .ref a ∧ SqT K H a xs ∧ xs.length ≤ sizeLine ∧ RpAll K mg β α H xs ds := by
  cases h with
  | tup h1 h2 h3 => exact ⟨_, _, rfl, h1, h2, h3⟩
theorem Rp.lstI {v : V} {ds : List D} (h : Rp K mg β α H v (.lst ds)) : ∃ a xs, v = .ref a ∧ H a = some (.lst xs) ∧ xs.length ≤ sizeLine ∧ RpAll K mg β α H xs ds := by
  cases h with
  | lst h1 h2 h3 => exact ⟨_, _, rfl, h1, h2, h3⟩
theorem Rp.dicI {v : V} {ks ds : List D} (h : Rp K mg β α H v (.dic ks ds)) : ∃ a kvs, v = .ref a ∧ DicK H a kvs ∧ kvs.length ≤ sizeLine ∧ ks = kvs.map (fun p => kD p.1) ∧ RpAll K mg β α H (kvs.map (·.2)) ds := by
  cases h with
  | dK h1 h2 h3 => exact ⟨_, _, rfl, h1, h2, rfl, h3⟩
theorem Rp.insI {v : V} {c : Str} {ns : List Str} {ds : List D} (h : Rp K mg β α H v (.ins c ns ds)) : ∃ (a C dx : Addr) (fs : List (Str × V)), v = .ref a ∧ mg c = some (.ref C) ∧ H a = some (.ins C dx fs) ∧ ns = fs.map (·.1) ∧ RpAll K mg β α H (fs.map (·.2)) ds := by
  cases h with
  | ins h1 h2 h3 => exact ⟨_, _, _, _, rfl, h1, h2, rfl, h3⟩
/-! objects of which nothing is left -/
mutual
def D.obLt (n : Nat) : D → Bool
  | .ob i => decide (i < n)
  | .lst ds | .tup ds | .ins _ _ ds => D.obsLt n ds
  | .dic ks ds => D.obsLt n ds
  | .non | .bl _ | .int _ | .str _ | .bag | .raw _ => true
def D.obsLt (n : Nat) : List D → Bool
  | [] => true
  | d :: ds => d.obLt n && D.obsLt n ds
end
mutual
theorem Rp.obLt : ∀ {v : V} {d : D}, Rp K mg β α H v d → d.obLt α.length = true
  | _, _, .non => by unfold D.obLt; rfl
  | _, _, .bl b => by unfold D.obLt; rfl
  | _, _, .int i => by unfold D.obLt; rfl
  | _, _, .str h => by unfold D.obLt; rfl
  | _, _, .lst h n r => by unfold D.obLt; exact RpAll.obLt r
  | _, _, .tup h n r => by unfold D.obLt; exact RpAll.obLt r
  | _, _, .dK h n r => by unfold D.obLt; exact RpAll.obLt r
  | _, _, .ins c h r => by unfold D.obLt; exact RpAll.obLt r
  | _, _, .ob h => by unfold D.obLt; exact decide_eq_true (List.getElem?_eq_some_iff.mp h).1
  | _, _, .bag h => by unfold D.obLt; rfl
  | _, _, .raw v => by unfold D.obLt; rfl
theorem RpAll.obLt : ∀ {vs : List V} {ds : List D}, RpAll K mg β α H vs ds → D.obsLt α.length ds = true
  | _, _, .nil => by unfold D.obsLt; rfl
  | _, _, .cons h r => by unfold D.obsLt; rw [Rp.obLt h, RpAll.obLt r]; rfl
end
mutual
theorem Rp.cut (p : α' <+: α) : ∀ {v : V} {d : D}, Rp K mg β α H v d → d.obLt α'.length = true → Rp K mg β α' H v d
  | _, _, .non, _ => .non
  | _, _, .bl b, _ => .bl b
  | _, _, .int i, _ => .int i
  | _, _, .str h, _ => .str h
  | _, _, .lst h n r, q => .lst h n (RpAll.cut p r (by unfold D.obLt at q; exact q))
  | _, _, .tup h n r, q => .tup h n (RpAll.cut p r (by unfold D.obLt at q; exact q))
  | _, _, .dK h n r, q => .dK h n (RpAll.cut p r (by unfold D.obLt at q; exact q))
  | _, _, .ins c h r, q => .ins c h (RpAll.cut p r (by unfold D.obLt at q; exact q))
  | _, _, .ob (i := i) h, q => .ob (by
      unfold D.obLt at q
      obtain ⟨t, rfl⟩ := p
      rw [List.getElem?_append_left (of_decide_eq_true q)] at h
      exact h)
  | _, _, .bag h, _ => .bag h
  | _, _, .raw v, _ => .raw v
theorem RpAll.cut (p : α' <+: α) : ∀ {vs : List V} {ds : List D}, RpAll K mg β α H vs ds → D.obsLt α'.length ds = true → RpAll K mg β α' H vs ds
  | _, _, .nil, _ => .nil
  | _, _, .cons h r, q => by
    unfold D.obsLt at q
    rw [Bool.and_eq_true_iff] at q
    exact .cons (Rp.cut p h q.1) (RpAll.cut p r q.2)
end
end
/-- a bag and tables that hold -/
structure BgOk (β : BG) (H : Hp) : Prop where
  bag : ∀ b l ns, β.bg = some (b, l, ns) → BagX l ns H b
  tab : LamX.Tabs β.tb H
def NoBg (β : BG) (a : Addr) : Prop := ∀ b l ns, β.bg = some (b, l, ns) → a ≠ b
/-- what may change from one heap to a later one: the bag, the tables, the objects, and what is new -/
structure Fr (β : BG) (α : List Addr) (H : Hp) (α' : List Addr) (H' : Hp) : Prop where
  b0 : BgOk β H
  pre : α <+: α'
  bag : BgOk β H'
  keep : ∀ a o, NoBg β a → a ∉ α → H a = some o → Ntb o → H' a = some o
  stay : ∀ a, H a ≠ none → H' a ≠ none
  new : ∀ a ∈ α', a ∈ α ∨ H a = none
section
variable {β : BG} {α α' α1 : List Addr} {H H' H1 : Hp}
theorem BgOk.same (b : BgOk β H) (h : Same H H') : BgOk β H' := ⟨fun x l ns e => (b.bag x l ns e).same h, b.tab.ext h⟩
theorem Fr.refl (b : BgOk β H) : Fr β α H α H := ⟨b, List.prefix_refl _, b, fun _ _ _ _ h _ => h, fun _ h => h, fun _ h => .inl h⟩
theorem same_stay (h : Same H H') {a : Addr} (e : H a ≠ none) : H' a ≠ none := fun z => by
  cases q : H a with
  | none => exact e q
  | some o => rw [h _ _ q] at z; cases z
theorem Fr.of (b : BgOk β H) (h : Same H H') : Fr β α H α H' := ⟨b, List.prefix_refl _, b.same h, fun _ _ _ _ e _ => h _ _ e, fun _ e => same_stay h e, fun _ h => .inl h⟩
/-- what stands goes on to stand -/
theorem Fr.keepB (f : Fr β α H α' H') {a : Addr} (h : H a ≠ none) : H' a ≠ none := f.stay a h
theorem Fr.none_ahead (f : Fr β α H α' H') {a : Addr} (h : H' a = none) : H a = none := by
  by_cases q : H a = none
  · exact q
  · exact absurd h (f.keepB q)
theorem Fr.trans (f : Fr β α H α1 H1) (g : Fr β α1 H1 α' H') : Fr β α H α' H' := by
  refine ⟨f.b0, f.pre.trans g.pre, g.bag, fun a o n1 n2 h nt => ?_, fun a h => g.stay a (f.stay a h), fun a m => ?_⟩
  · refine g.keep a o n1 (fun z => ?_) (f.keep a o n1 n2 h nt) nt
    rcases f.new a z with z | z
    · exact n2 z
    · rw [h] at z; cases z
  · rcases g.new a m with m | m
    · exact f.new a m
    · exact .inr (f.none_ahead m)
theorem upd_stay {p : Addr} {o : HO} {a : Addr} (h : H a ≠ none) : upd H p o a ≠ none := by
  by_cases z : a = p
  · rw [z]; rw [upd_same]; simp
  · rw [upd_ne z]; exact h
/-- a new thing is written -/
theorem Fr.mut {p : Addr} {o : HO} (f : Fr β α H α' H') (h : H p = none) (h' : LamX.Tabs β.tb (upd H' p o)) : Fr β α H α' (upd H' p o) := by
  refine ⟨f.b0, f.pre, ⟨fun b l ns e => ?_, h'⟩, fun a u n1 n2 e nt => ?_, fun a e => upd_stay (f.stay a e), f.new⟩
  · have n := (f.b0.bag b l ns e).neB h
    exact (f.bag.bag b l ns e).at (upd_ne n.1.symm) (upd_ne n.2.symm)
  · rw [upd_ne (ne_of_none e h)]; exact f.keep a u n1 n2 e nt
theorem tabs_but {T : List (Addr × Str)} {p : Addr} {o1 : HO} (t : LamX.Tabs T H) (h : H p = some o1) (n : Ntb o1) (nc : ∀ c q, o1 ≠ LamX.CodeO c q) (k : ∀ a o, a ≠ p → H a = some o → H' a = some o) : LamX.Tabs T H' := fun r hr => by
  obtain ⟨ps, h1, h2, h3⟩ := t r hr
  refine ⟨ps, k _ _ (fun z => ?_) h1, h2, fun pos cv hc => ?_⟩
  · rw [z, h] at h1
    exact n ps (Option.some.inj h1)
  · obtain ⟨c, e1, e2⟩ := h3 pos cv hc
    refine ⟨c, e1, k _ _ (fun z => ?_) e2⟩
    rw [z, h] at e2
    exact nc _ _ (Option.some.inj e2)
theorem tabs_wr {T : List (Addr × Str)} {p : Addr} {o o1 : HO} (t : LamX.Tabs T H) (h : H p = some o1) (n : Ntb o1) (nc : ∀ c q, o1 ≠ LamX.CodeO c q) : LamX.Tabs T (upd H p o) :=
  tabs_but t h n nc fun a u z e => by rw [upd_ne z]; exact e
theorem ncLst {xs : List V} : ∀ c q, HO.lst xs ≠ LamX.CodeO c q := fun c q z => by unfold LamX.CodeO at z; cases z
theorem ncDK {xs : List (Key × V)} : ∀ c q, HO.dK xs ≠ LamX.CodeO c q := fun c q z => by unfold LamX.CodeO at z; cases z
theorem ncIns {C dx : Addr} {xs : List (Str × V)} : ∀ c q, HO.ins C dx xs ≠ LamX.CodeO c q := fun c q z => by unfold LamX.CodeO at z; cases z
theorem tabs_lst {T : List (Addr × Str)} {p : Addr} {xs : List V} {o : HO} (t : LamX.Tabs T H) (h : H p = some (.lst xs)) : LamX.Tabs T (upd H p o) := tabs_wr t h (by intro _ z; cases z) ncLst
theorem tabs_dK {T : List (Addr × Str)} {p : Addr} {xs : List (Key × V)} {o : HO} (t : LamX.Tabs T H) (h : H p = some (.dK xs)) : LamX.Tabs T (upd H p o) := tabs_wr t h (by intro _ z; cases z) ncDK
/-- an object is written -/
theorem Fr.wr {p : Addr} {o : HO} (f : Fr β α H α' H') (h : p ∈ α) (n : ∀ b l ns, β.bg = some (b, l, ns) → p ≠ b ∧ p ≠ l) (h' : LamX.Tabs β.tb (upd H' p o)) : Fr β α H α' (upd H' p o) := by
  refine ⟨f.b0, f.pre, ⟨fun b l ns e => (f.bag.bag b l ns e).at (upd_ne (n b l ns e).1.symm) (upd_ne (n b l ns e).2.symm), h'⟩, fun a u n1 n2 e nt' => ?_, fun a e => upd_stay (f.stay a e), f.new⟩
  rw [upd_ne fun z => n2 (by rw [z]; exact h)]; exact f.keep a u n1 n2 e nt'
end
/-- an exception: its class's name, its fields, the latest first -/
structure Ex where
  cls : Str
  fs : List (Str × D)
abbrev M (τ : Type) := Sto → (τ → Sto → Prop) → (Ex → Sto → Prop) → Prop
/-- a def's run: what is hidden, the heap and the objects at its start -/
structure Cy (K : PySem.W.Frag) (mg : Str → Option Value) (E : XK) where
  β : BG
  A : Addr → Prop
  H0 : Hp
  α0 : List Addr
  b0 : BgOk β H0
  hb : ∀ b l ns, β.bg = some (b, l, ns) → A b
  hA : ∀ a, A a → H0 a ≠ none
  h0 : ∀ a ∈ α0, H0 a ≠ none
/-- what a variable holds: nothing; a datum; an object of the def's own that is still written -/
inductive Sl where
  | un | va (d : D) | ow (d : D)
abbrev Env := List Sl
abbrev OwS := Nat → Option Addr
variable {K : PySem.W.Frag} {mg : Str → Option Value} {E : XK}
def Cy.hd (C : Cy K mg E) (α : List Addr) (ow : OwS) : Addr → Prop := fun a => C.A a ∨ a ∈ α ∨ ∃ i, ow i = some a
def ow0 : OwS := fun _ => none
/-- a datum that leans on nothing that is written -/
def Rv (C : Cy K mg E) (α : List Addr) (ow : OwS) (H : Hp) (v : V) (d : D) : Prop := Rp K mg C.β α (hid (C.hd α ow) H) v d
abbrev RvAll (C : Cy K mg E) (α : List Addr) (ow : OwS) (H : Hp) (vs : List V) (ds : List D) : Prop := RpAll K mg C.β α (hid (C.hd α ow) H) vs ds
/-- an own object, of things that lean on nothing of B -/
inductive OwB (K : PySem.W.Frag) (mg : Str → Option Value) (β : BG) (α : List Addr) (B : Addr → Prop) (H : Hp) (a : Addr) : D → Prop
  | lst {xs : List V} {ds : List D} : H a = some (.lst xs) → xs.length ≤ sizeLine → RpAll K mg β α (hid B H) xs ds → OwB K mg β α B H a (.lst ds)
  | dK {kvs : List (Key × V)} {ds : List D} : H a = some (.dK kvs) → kvs.length ≤ sizeLine → RpAll K mg β α (hid B H) (kvs.map (·.2)) ds → OwB K mg β α B H a (.dic (kvs.map fun p => kD p.1) ds)
def Ow (C : Cy K mg E) (α : List Addr) (ow : OwS) (H : Hp) (a : Addr) (d : D) : Prop := OwB K mg C.β α (C.hd α ow) H a d
/-- an object that changes -/
inductive ObOk (K : PySem.W.Frag) (mg : Str → Option Value) (β : BG) (α : List Addr) (B : Addr → Prop) (H : Hp) (a : Addr) : Ob → Prop
  | lst {xs : List V} {ds : List D} : H a = some (.lst xs) → xs.length ≤ sizeLine → RpAll K mg β α (hid B H) xs ds → ObOk K mg β α B H a (.lst ds)
  | dK {kvs : List (Key × V)} {ds : List D} : H a = some (.dK kvs) → kvs.length ≤ sizeLine → RpAll K mg β α (hid B H) (kvs.map (·.2)) ds → ObOk K mg β α B H a (.dic (kvs.map fun p => kD p.1) ds)
  | ins {C dx : Addr} {c : Str} {fs : List (Str × V)} {gs : List (Str × D)} : mg c = some (.ref C) → H a = some (.ins C dx fs) → fs.map (·.1) = gs.map (·.1) → RpAll K mg β α (hid B H) (fs.map (·.2)) (gs.map (·.2)) → ObOk K mg β α B H a (.ins c gs)
theorem OwB.mono {β : BG} {α α' : List Addr} {B B' : Addr → Prop} {H H' : Hp} {a : Addr} {d : D} (p : α <+: α') (s : Same (hid B H) (hid B' H')) (h : ∀ o, H a = some o → Ntb o → H' a = some o) (r : OwB K mg β α B H a d) : OwB K mg β α' B' H' a d := by
  cases r with
  | lst h1 h2 h3 => exact .lst (h _ h1 (by intro _ z; cases z)) h2 (h3.mono p s)
  | dK h1 h2 h3 => exact .dK (h _ h1 (by intro _ z; cases z)) h2 (h3.mono p s)
theorem ObOk.mono {β : BG} {α α' : List Addr} {B B' : Addr → Prop} {H H' : Hp} {a : Addr} {o : Ob} (p : α <+: α') (s : Same (hid B H) (hid B' H')) (h : ∀ o, H a = some o → Ntb o → H' a = some o) (r : ObOk K mg β α B H a o) : ObOk K mg β α' B' H' a o := by
  cases r with
  | lst h1 h2 h3 => exact .lst (h _ h1 (by intro _ z; cases z)) h2 (h3.mono p s)
  | dK h1 h2 h3 => exact .dK (h _ h1 (by intro _ z; cases z)) h2 (h3.mono p s)
  | ins c h1 n h3 => exact .ins c (h _ h1 (by intro _ z; cases z)) n (h3.mono p s)
theorem OwB.here {β : BG} {α : List Addr} {B : Addr → Prop} {H : Hp} {a : Addr} {d : D} (r : OwB K mg β α B H a d) : H a ≠ none := by
  cases r with
  | lst h _ _ => rw [h]; simp
  | dK h _ _ => rw [h]; simp
theorem OwB.tabs {β : BG} {α : List Addr} {B : Addr → Prop} {H : Hp} {a : Addr} {d : D} {T : List (Addr × Str)} {o : HO} (r : OwB K mg β α B H a d) (t : LamX.Tabs T H) : LamX.Tabs T (upd H a o) := by
  cases r with
  | lst h _ _ => exact tabs_lst t h
  | dK h _ _ => exact tabs_dK t h
theorem ObOk.tabs {β : BG} {α : List Addr} {B : Addr → Prop} {H : Hp} {a : Addr} {u : Ob} {T : List (Addr × Str)} {o : HO} (r : ObOk K mg β α B H a u) (t : LamX.Tabs T H) : LamX.Tabs T (upd H a o) := by
  cases r with
  | lst h _ _ => exact tabs_lst t h
  | dK h _ _ => exact tabs_dK t h
  | ins _ h _ _ => exact tabs_wr t h (by intro _ z; cases z) ncIns
theorem ObOk.here {β : BG} {α : List Addr} {B : Addr → Prop} {H : Hp} {a : Addr} {o : Ob} (r : ObOk K mg β α B H a o) : H a ≠ none := by
  cases r with
  | lst h _ _ => rw [h]; simp
  | dK h _ _ => rw [h]; simp
  | ins _ h _ _ => rw [h]; simp
structure StOk (C : Cy K mg E) (α : List Addr) (ow : OwS) (H : Hp) (S : Sto) : Prop where
  len : α.length = S.length
  nd : α.Nodup
  nA : ∀ a ∈ α, ¬ C.A a
  nL : ∀ a ∈ α, ∀ b l ns, C.β.bg = some (b, l, ns) → a ≠ l
  no : ∀ i a, ow i = some a → a ∉ α
  ob : ∀ (i : Nat) (a : Addr) (o : Ob), α[i]? = some a → S[i]? = some o → ObOk K mg C.β α (C.hd α ow) H a o
/-- a slot -/
inductive SlOk (C : Cy K mg E) (α : List Addr) (ow : OwS) (H : Hp) : Option Addr → Option (Option V) → Option Sl → Prop
  | out : SlOk C α ow H none none none
  | un {s : Option V} : SlOk C α ow H none (some s) (some .un)
  | va {v : V} {d : D} : Rv C α ow H v d → SlOk C α ow H none (some (some v)) (some (.va d))
  | ow {a : Addr} {d : D} : Ow C α ow H a d → SlOk C α ow H (some a) (some (some (.ref a))) (some (.ow d))
structure Ev (C : Cy K mg E) (α : List Addr) (ow : OwS) (σ : L2.St) (ρ : Env) (H : Hp) (S : Sto) : Prop where
  sl : ∀ i, SlOk C α ow H (ow i) σ[i]? ρ[i]?
  inj : ∀ i j a, ow i = some a → ow j = some a → i = j
  nA : ∀ i a, ow i = some a → ¬ C.A a
  fr : Fr C.β C.α0 C.H0 α H
  st : StOk C α ow H S
/-- a step: what may change, and the objects behind it -/
structure Go (C : Cy K mg E) (ow : OwS) (α : List Addr) (H : Hp) (α' : List Addr) (H' : Hp) (S' : Sto) : Prop where
  fr : Fr C.β α H α' H'
  st : StOk C α' ow H' S'
section
variable {C : Cy K mg E} {α α' α1 : List Addr} {ow : OwS} {σ : L2.St} {ρ : Env} {H H' H1 : Hp} {S S' S1 : Sto} {v : V} {d : D}
theorem Cy.noBg (C : Cy K mg E) {a : Addr} (h : ¬ C.A a) : NoBg C.β a := fun b l ns q z => h (by rw [z]; exact C.hb b l ns q)
theorem hid_fr (f : Fr C.β α H α' H') : Same (hid (C.hd α ow) H) (hid (C.hd α' ow) H') := fun a o e => by
  obtain ⟨h1, h2⟩ := hid_some e
  refine hid_get ?_ (f.keep a o (C.noBg fun z => h1 (.inl z)) (fun z => h1 (.inr (.inl z))) h2 (hid_nt e)) (hid_nt e)
  · rintro (z | z | z)
    · exact h1 (.inl z)
    · rcases f.new a z with z | z
      · exact h1 (.inr (.inl z))
      · rw [h2] at z; cases z
    · exact h1 (.inr (.inr z))
theorem Rv.fr (f : Fr C.β α H α' H') (h : Rv C α ow H v d) : Rv C α' ow H' v d := Rp.mono f.pre (hid_fr f) h
theorem RvAll.fr {vs : List V} {ds : List D} (f : Fr C.β α H α' H') (h : RvAll C α ow H vs ds) : RvAll C α' ow H' vs ds := RpAll.mono f.pre (hid_fr f) h
theorem Rv.go (f : Go C ow α H α' H' S') (h : Rv C α ow H v d) : Rv C α' ow H' v d := h.fr f.fr
theorem Ev.get (e : Ev C α ow σ ρ H S) (f : Fr C.β α H α' H') {i : Nat} {a : Addr} {o : HO} (hi : ow i = some a) (ho : H a = some o) (nt : Ntb o) : H' a = some o :=
  f.keep a o (C.noBg (e.nA i a hi)) (e.st.no i a hi) ho nt
theorem Ow.fr {a : Addr} {i : Nat} (e : Ev C α ow σ ρ H S) (f : Fr C.β α H α' H') (hi : ow i = some a) (h : Ow C α ow H a d) : Ow C α' ow H' a d :=
  OwB.mono f.pre (hid_fr f) (fun _ ho nt => e.get f hi ho nt) h
theorem Ev.step (e : Ev C α ow σ ρ H S) (g : Go C ow α H α' H' S') : Ev C α' ow σ ρ H' S' := by
  refine ⟨fun i => ?_, e.inj, e.nA, e.fr.trans g.fr, g.st⟩
  have h := e.sl i
  generalize hw : ow i = wi at h ⊢
  generalize σ[i]? = s at h ⊢
  generalize ρ[i]? = r at h ⊢
  cases h with
  | out => exact .out
  | un => exact .un
  | va h => exact .va (h.fr g.fr)
  | ow h => exact .ow (h.fr e g.fr hw)
theorem Ev.bg (e : Ev C α ow σ ρ H S) : BgOk C.β H := e.fr.bag
theorem Ev.owTabs (e : Ev C α ow σ ρ H S) {i : Nat} {a : Addr} {o : HO} (hi : ow i = some a) : LamX.Tabs C.β.tb (upd H a o) := by
  have q := e.sl i
  rw [hi] at q
  generalize σ[i]? = s at q
  generalize ρ[i]? = r at q
  cases q with
  | ow q => exact q.tabs e.bg.tab
theorem Ev.go (e : Ev C α ow σ ρ H S) : Go C ow α H α H S := ⟨Fr.refl e.bg, e.st⟩
theorem Go.trans (f : Go C ow α H α1 H1 S1) (g : Go C ow α1 H1 α' H' S') : Go C ow α H α' H' S' := ⟨f.fr.trans g.fr, g.st⟩
theorem StOk.here (h : StOk C α ow H S) {a : Addr} (m : a ∈ α) : H a ≠ none := by
  obtain ⟨i, hi⟩ := List.mem_iff_getElem?.mp m
  have hl : i < S.length := by rw [← h.len]; exact (List.getElem?_eq_some_iff.mp hi).1
  exact (h.ob i a _ hi (List.getElem?_eq_getElem hl)).here
theorem StOk.same (h : StOk C α ow H S) (s : Same H H') : StOk C α ow H' S := ⟨h.len, h.nd, h.nA, h.nL, h.no, fun i a o h1 h2 => (h.ob i a o h1 h2).mono (List.prefix_refl _) (hid_step s) fun _ q _ => s _ _ q⟩
theorem StOk.obTabs (h : StOk C α ow H S) (t : LamX.Tabs C.β.tb H) {i : Nat} {a : Addr} {o : HO} (hi : α[i]? = some a) : LamX.Tabs C.β.tb (upd H a o) := by
  have hl : i < S.length := by rw [← h.len]; exact (List.getElem?_eq_some_iff.mp hi).1
  exact (h.ob i a _ hi (List.getElem?_eq_getElem hl)).tabs t
/-- nothing that stood has changed -/
theorem Ev.sm (e : Ev C α ow σ ρ H S) (s : Same H H') : Go C ow α H α H' S := ⟨Fr.of e.bg s, e.st.same s⟩
theorem Ev.nw (e : Ev C α ow σ ρ H S) {p : Addr} {o : HO} (h : H p = none) : Go C ow α H α (upd H p o) S := e.sm (same_new h)
/-- what is hidden stands -/
theorem Ev.stands (e : Ev C α ow σ ρ H S) {a : Addr} (h : C.hd α ow a) : H a ≠ none := by
  rcases h with h | h | ⟨i, h⟩
  · exact e.fr.keepB (C.hA a h)
  · exact e.st.here h
  · have q := e.sl i
    rw [h] at q
    generalize σ[i]? = s at q
    generalize ρ[i]? = r at q
    cases q with
    | ow q => exact q.here
theorem Ev.seen (e : Ev C α ow σ ρ H S) {p : Addr} (h : H p = none) : ¬ C.hd α ow p := fun z => e.stands z h
/-! read, not kept -/
def Ob.dat : Ob → Option D
  | .lst ds => some (.lst ds)
  | .dic ks ds => some (.dic ks ds)
  | .ins _ _ => none
def Sto.rs (S : Sto) : D → D
  | .ob i => match S[i]? with
    | some (.lst ds) => .lst ds
    | some (.dic ks ds) => .dic ks ds
    | _ => .ob i
  | d => d
/-- a datum, or an own object, or what an object is -/
def Sh (C : Cy K mg E) (α : List Addr) (ow : OwS) (H : Hp) (v : V) (d : D) : Prop := Rv C α ow H v d ∨ (∃ i a, ow i = some a ∧ v = .ref a ∧ Ow C α ow H a d) ∨ (∃ a ∈ α, v = .ref a ∧ Ow C α ow H a d)
/-- .. before it is looked up -/
def Su (C : Cy K mg E) (α : List Addr) (ow : OwS) (H : Hp) (v : V) (d : D) : Prop := Rv C α ow H v d ∨ (∃ i a, ow i = some a ∧ v = .ref a ∧ Ow C α ow H a d)
theorem ObOk.own {β : BG} {B : Addr → Prop} {a : Addr} {o : Ob} (h : ObOk K mg β α B H a o) (e : o.dat = some d) : OwB K mg β α B H a d := by
  cases h with
  | lst h1 h2 h3 => cases e; exact .lst h1 h2 h3
  | dK h1 h2 h3 => cases e; exact .dK h1 h2 h3
  | ins _ _ _ _ => cases e
theorem Su.rs (h : Su C α ow H v d) (st : StOk C α ow H S) : Sh C α ow H v (S.rs d) := by
  rcases h with h | ⟨i, a, h1, rfl, h2⟩
  · unfold Sto.rs
    split
    · rename_i i
      obtain ⟨a, rfl, hi⟩ := h.obI
      split
      · exact .inr (.inr ⟨a, List.mem_of_getElem? hi, rfl, (st.ob i a _ hi ‹_›).own rfl⟩)
      · exact .inr (.inr ⟨a, List.mem_of_getElem? hi, rfl, (st.ob i a _ hi ‹_›).own rfl⟩)
      · exact .inl h
    · exact .inl h
  · refine .inr (.inl ⟨i, a, h1, rfl, ?_⟩)
    have : S.rs d = d := by cases h2 <;> rfl
    rw [this]; exact h2
theorem Su.go (e : Ev C α ow σ ρ H S) (g : Go C ow α H α' H' S') (h : Su C α ow H v d) : Su C α' ow H' v d := by
  rcases h with h | ⟨i, a, h1, h2, h3⟩
  · exact .inl (h.go g)
  · exact .inr ⟨i, a, h1, h2, h3.fr e g.fr h1⟩
theorem Sh.intI {i : Int} (h : Sh C α ow H v (.int i)) : v = .int i := by
  rcases h with h | ⟨_, _, _, _, h⟩ | ⟨_, _, _, h⟩
  · exact h.intI
  · cases h
  · cases h
theorem Sh.strI {z : Str} (h : Sh C α ow H v (.str z)) : v = .str z ∧ z.length ≤ sizeLine := by
  rcases h with h | ⟨_, _, _, _, h⟩ | ⟨_, _, _, h⟩
  · exact h.strI
  · cases h
  · cases h
theorem Sh.blI {b : Bool} (h : Sh C α ow H v (.bl b)) : v = .bl b := by
  rcases h with h | ⟨_, _, _, _, h⟩ | ⟨_, _, _, h⟩
  · exact h.blI
  · cases h
  · cases h
theorem Sh.nonI (h : Sh C α ow H v .non) : v = .non := by
  rcases h with h | ⟨_, _, _, _, h⟩ | ⟨_, _, _, h⟩
  · exact h.nonI
  · cases h
  · cases h
theorem Sh.rawI {x : V} (h : Sh C α ow H v (.raw x)) : v = x := by
  rcases h with h | ⟨_, _, _, _, h⟩ | ⟨_, _, _, h⟩
  · exact Rp.rawI h
  · cases h
  · cases h
theorem Sh.tupI' {ds : List D} (h : Sh C α ow H v (.tup ds)) : Rv C α ow H v (.tup ds) := by
  rcases h with h | ⟨_, _, _, _, h⟩ | ⟨_, _, _, h⟩
  · exact h
  · cases h
  · cases h
theorem Sh.tupI {ds : List D} (h : Sh C α ow H v (.tup ds)) : ∃ a xs, v = .ref a ∧ SqT K H a xs ∧ xs.length ≤ sizeLine ∧ RvAll C α ow H xs ds := by
  obtain ⟨a, xs, h1, h2, h3, h4⟩ := h.tupI'.tupI
  exact ⟨a, xs, h1, Same.tup hid_same h2, h3, h4⟩
theorem Sh.lstI {ds : List D} (h : Sh C α ow H v (.lst ds)) : ∃ a xs, v = .ref a ∧ H a = some (.lst xs) ∧ xs.length ≤ sizeLine ∧ RvAll C α ow H xs ds := by
  rcases h with h | ⟨i, a, _, rfl, h⟩ | ⟨a, _, rfl, h⟩
  · obtain ⟨a, xs, h1, h2, h3, h4⟩ := h.lstI
    exact ⟨a, xs, h1, hid_same _ _ h2, h3, h4⟩
  · cases h with
    | lst h1 h2 h3 => exact ⟨a, _, rfl, h1, h2, h3⟩
  · cases h with
    | lst h1 h2 h3 => exact ⟨a, _, rfl, h1, h2, h3⟩
theorem Sh.dicI {ks ds : List D} (h : Sh C α ow H v (.dic ks ds)) : ∃ a kvs, v = .ref a ∧ DicK H a kvs ∧ kvs.length ≤ sizeLine ∧ ks = kvs.map (fun p => kD p.1) ∧ RvAll C α ow H (kvs.map (·.2)) ds := by
  rcases h with h | ⟨i, a, _, rfl, h⟩ | ⟨a, _, rfl, h⟩
  · obtain ⟨a, xs, h1, h2, h3, h4, h5⟩ := h.dicI
    exact ⟨a, xs, h1, h2.same hid_same, h3, h4, h5⟩
  · cases h with
    | dK h1 h2 h3 => exact ⟨a, _, rfl, .inl h1, h2, rfl, h3⟩
  · cases h with
    | dK h1 h2 h3 => exact ⟨a, _, rfl, .inl h1, h2, rfl, h3⟩
end
end Nc

namespace Nc
open PySem PySem.Spec PyProof.Rows L2
/-! ## expressions, on data -/
abbrev ME := Env → M D
abbrev MA := Env → M (List D)
abbrev MT := Env → M Bool
section
variable {K : PySem.W.Frag} {mg : Str → Option Value} {E : XK}
def ExR (C : Cy K mg E) (α : List Addr) (e : Ex) (u : Value) (dx : Option Addr) (H : Hp) : Prop :=
  mg e.cls = some u ∧ ∃ d fs, dx = some d ∧ H d = some (.xd fs) ∧ fs.map (·.1) = e.fs.map (·.1) ∧ RvAll C α ow0 H (fs.map (·.2)) (e.fs.map (·.2))
def XOk (C : Cy K mg E) (X : Ex → Sto → Prop) : Prop := ∀ e u dx α H S, X e S → Go C ow0 C.α0 C.H0 α H S → ExR C α e u dx H → E u dx H
end
def DE (K : PySem.W.Frag) (mg : Str → Option Value) (E : XK) (t : TE) (m : ME) : Prop := ∀ (C : Cy K mg E) (α : List Addr) (ow : OwS) (σ : L2.St) (ρ : Env) (H : Hp) (S : Sto) (P : D → Sto → Prop) (X : Ex → Sto → Prop) (Q : VK),
  Ev C α ow σ ρ H S → m ρ S P X → XOk C X → (∀ d v α' H' S', P d S' → Go C ow α H α' H' S' → Rv C α' ow H' v d → Q v H') → t σ H Q
/-- .. whose value is but read -/
def DQ (K : PySem.W.Frag) (mg : Str → Option Value) (E : XK) (t : TE) (m : ME) : Prop := ∀ (C : Cy K mg E) (α : List Addr) (ow : OwS) (σ : L2.St) (ρ : Env) (H : Hp) (S : Sto) (P : D → Sto → Prop) (X : Ex → Sto → Prop) (Q : VK),
  Ev C α ow σ ρ H S → m ρ S P X → XOk C X → (∀ d v α' H' S', P d S' → Go C ow α H α' H' S' → Su C α' ow H' v d → Q v H') → t σ H Q
def DA (K : PySem.W.Frag) (mg : Str → Option Value) (E : XK) (t : TA) (m : MA) : Prop := ∀ (C : Cy K mg E) (α : List Addr) (ow : OwS) (σ : L2.St) (ρ : Env) (H : Hp) (S : Sto) (P : List D → Sto → Prop) (X : Ex → Sto → Prop) (Q : List V → Hp → Prop),
  Ev C α ow σ ρ H S → m ρ S P X → XOk C X → (∀ ds vs α' H' S', P ds S' → Go C ow α H α' H' S' → RvAll C α' ow H' vs ds → Q vs H') → t σ H Q
inductive ShAll {K : PySem.W.Frag} {mg : Str → Option Value} {E : XK} (C : Cy K mg E) (α : List Addr) (ow : OwS) (H : Hp) : List V → List D → Prop
  | nil : ShAll C α ow H [] []
  | cons {v : V} {vs : List V} {d : D} {ds : List D} : Sh C α ow H v d → ShAll C α ow H vs ds → ShAll C α ow H (v :: vs) (d :: ds)
inductive SuAll {K : PySem.W.Frag} {mg : Str → Option Value} {E : XK} (C : Cy K mg E) (α : List Addr) (ow : OwS) (H : Hp) : List V → List D → Prop
  | nil : SuAll C α ow H [] []
  | cons {v : V} {vs : List V} {d : D} {ds : List D} : Su C α ow H v d → SuAll C α ow H vs ds → SuAll C α ow H (v :: vs) (d :: ds)
def DB (K : PySem.W.Frag) (mg : Str → Option Value) (E : XK) (t : TA) (m : MA) : Prop := ∀ (C : Cy K mg E) (α : List Addr) (ow : OwS) (σ : L2.St) (ρ : Env) (H : Hp) (S : Sto) (P : List D → Sto → Prop) (X : Ex → Sto → Prop) (Q : List V → Hp → Prop),
  Ev C α ow σ ρ H S → m ρ S P X → XOk C X → (∀ ds vs α' H' S', P ds S' → Go C ow α H α' H' S' → SuAll C α' ow H' vs ds → Q vs H') → t σ H Q
def DT (K : PySem.W.Frag) (mg : Str → Option Value) (E : XK) (t : TT) (m : MT) : Prop := ∀ (C : Cy K mg E) (α : List Addr) (ow : OwS) (σ : L2.St) (ρ : Env) (H : Hp) (S : Sto) (P : Bool → Sto → Prop) (X : Ex → Sto → Prop) (Q : Bool → Hp → Prop),
  Ev C α ow σ ρ H S → m ρ S P X → XOk C X → (∀ b α' H' S', P b S' → Go C ow α H α' H' S' → Q b H') → t σ H Q
section
variable {K : PySem.W.Frag} {mg : Str → Option Value} {E : XK} {C : Cy K mg E} {α α' : List Addr} {ow : OwS} {σ : L2.St} {ρ : Env} {H H' : Hp} {S S' : Sto}
theorem SuAll.go {vs : List V} {ds : List D} (e : Ev C α ow σ ρ H S) (g : Go C ow α H α' H' S') (h : SuAll C α ow H vs ds) : SuAll C α' ow H' vs ds := by
  induction h with
  | nil => exact .nil
  | cons h _ ih => exact .cons (h.go e g) ih
theorem SuAll.rs {vs : List V} {ds : List D} (h : SuAll C α ow H vs ds) (st : StOk C α ow H S) : ShAll C α ow H vs (ds.map S.rs) := by
  induction h with
  | nil => exact .nil
  | cons h _ ih => exact .cons (h.rs st) ih
variable {ta tb tc : TE} {ma mb mc : ME} {r : R2}
theorem DE.q (h : DE K mg E ta ma) : DQ K mg E ta ma := fun C α ow σ ρ H S P X Q e hm hx k => h C α ow σ ρ H S P X Q e hm hx fun d v α' H' S' p g r => k d v α' H' S' p g (.inl r)
/-! constants, variables -/
def mC (d : D) : ME := fun _ S P _ => P d S
theorem de_c {v : V} {d : D} (h : ∀ mg β α H, Rp K mg β α H v d) : DE K mg E (tC v) (mC d) := fun C α ow σ ρ H S P X Q e hm hx k => k d v α H S hm e.go (h _ _ _ _)
theorem de_int {i : Int} : DE K mg E (tC (.int i)) (mC (.int i)) := de_c fun _ _ _ _ => .int i
theorem de_bl {b : Bool} : DE K mg E (tC (.bl b)) (mC (.bl b)) := de_c fun _ _ _ _ => .bl b
theorem de_non : DE K mg E (tC .non) (mC .non) := de_c fun _ _ _ _ => .non
theorem de_str {z : Str} (h : z.length ≤ sizeLine := by decide +kernel) : DE K mg E (tC (.str z)) (mC (.str z)) := de_c fun _ _ _ _ => .str h
theorem de_raw {v : V} : DE K mg E (tC v) (mC (.raw v)) := de_c fun _ _ _ _ => .raw v
def mVar (i : Nat) : ME := fun ρ S P _ => match ρ[i]? with
  | some (.va d) => P d S
  | _ => False
def mVarQ (i : Nat) : ME := fun ρ S P _ => match ρ[i]? with
  | some (.va d) => P d S
  | some (.ow d) => P d S
  | _ => False
theorem de_var {i : Nat} : DE K mg E (tVar i) (mVar i) := fun C α ow σ ρ H S P X Q e hm hx k => by
  have h := e.sl i
  unfold mVar at hm
  unfold tVar
  generalize ow i = wi at h
  generalize σ[i]? = s at h ⊢
  generalize ρ[i]? = p at h hm
  cases h with
  | va h => exact ⟨_, rfl, k _ _ α H S hm e.go h⟩
  | _ => exact hm.elim
theorem dq_var {i : Nat} : DQ K mg E (tVar i) (mVarQ i) := fun C α ow σ ρ H S P X Q e hm hx k => by
  have h := e.sl i
  unfold mVarQ at hm
  unfold tVar
  generalize hw : ow i = wi at h
  generalize σ[i]? = s at h ⊢
  generalize ρ[i]? = p at h hm
  cases h with
  | va h => exact ⟨_, rfl, k _ _ α H S hm e.go (.inl h)⟩
  | ow h => exact ⟨_, rfl, k _ _ α H S hm e.go (.inr ⟨i, _, hw, rfl, h⟩)⟩
  | _ => exact hm.elim
/-! operations -/
def OpD (K : PySem.W.Frag) (r : R2) (f : D → D → (D → Prop) → Prop) : Prop := ∀ (mg : Str → Option Value) (E : XK) (C : Cy K mg E) (α : List Addr) (ow : OwS) (σ : L2.St) (ρ : Env) (H : Hp) (S : Sto) (x y : V) (a b : D) (P : D → Prop) (Q : VK),
  Ev C α ow σ ρ H S → Sh C α ow H x a → Sh C α ow H y b → f a b P → (∀ d v H', P d → Go C ow α H α H' S → Rv C α ow H' v d → Q v H') → r x y H Q
def mOp (f : D → D → (D → Prop) → Prop) (ma mb : ME) : ME := fun ρ S P X => ma ρ S (fun a S1 => mb ρ S1 (fun b S2 => f (S2.rs a) (S2.rs b) fun d => P d S2) X) X
theorem de_op {f : D → D → (D → Prop) → Prop} (hr : OpD K r f) (ha : DQ K mg E ta ma) (hb : DQ K mg E tb mb) : DE K mg E (tOp r ta tb) (mOp f ma mb) := fun C α ow σ ρ H S P X Q e hm hx k =>
  ha C α ow σ ρ H S _ X _ e hm hx fun a x α1 H1 S1 hm1 g1 s1 => hb C α1 ow σ ρ H1 S1 _ X _ (e.step g1) hm1 hx fun b y α2 H2 S2 hm2 g2 s2 =>
    hr mg E C α2 ow σ ρ H2 S2 x y _ _ _ Q ((e.step g1).step g2) ((s1.go (e.step g1) g2).rs g2.st) (s2.rs g2.st) hm2 fun d v H3 p g3 r3 => k d v α2 H3 S2 p ((g1.trans g2).trans g3) r3
theorem OpD.or {r r' : R2} {f g : D → D → (D → Prop) → Prop} (h : OpD K r f) (h' : OpD K r' g) : OpD K (fun x y H Q => r x y H Q ∨ r' x y H Q) (fun a b P => f a b P ∨ g a b P) := fun mg E C α ow σ ρ H S x y a b P Q e sa sb hm k =>
  hm.elim (fun hm => .inl (h mg E C α ow σ ρ H S x y a b P Q e sa sb hm k)) fun hm => .inr (h' mg E C α ow σ ρ H S x y a b P Q e sa sb hm k)
theorem OpD.imp {r : R2} {f g : D → D → (D → Prop) → Prop} (h : OpD K r f) (hi : ∀ a b P, g a b P → f a b P) : OpD K r g := fun mg E C α ow σ ρ H S x y a b P Q e sa sb hm k => h mg E C α ow σ ρ H S x y a b P Q e sa sb (hi _ _ _ hm) k
def fI (c : Int → Int → Prop) (g : Int → Int → D) : D → D → (D → Prop) → Prop
  | .int i, .int j, P => c i j ∧ P (g i j)
  | _, _, _ => False
theorem od_I {c : Int → Int → Prop} {g : Int → Int → D} {gv : Int → Int → V} (h : ∀ i j mg β α H, Rp K mg β α H (gv i j) (g i j)) : OpD K (rI c gv) (fI c g) := fun mg E C α ow σ ρ H S x y a b P Q e sa sb hm k => by
  unfold fI at hm
  split at hm
  · exact ⟨_, _, sa.intI, sb.intI, hm.1, k _ _ H hm.2 e.go (h _ _ _ _ _ _)⟩
  · exact hm.elim
def fI0 (g : Int → Int → D) : D → D → (D → Prop) → Prop
  | .int i, .int j, P => P (g i j)
  | _, _, _ => False
theorem od_I0 {g : Int → Int → D} {gv : Int → Int → V} (h : ∀ i j mg β α H, Rp K mg β α H (gv i j) (g i j)) : OpD K (rI0 gv) (fI0 g) := fun mg E C α ow σ ρ H S x y a b P Q e sa sb hm k => by
  unfold fI0 at hm
  split at hm
  · exact ⟨_, _, sa.intI, sb.intI, k _ _ H hm e.go (h _ _ _ _ _ _)⟩
  · exact hm.elim
/-! new objects -/
theorem rv_tup {vs : List V} {ds : List D} {p : Addr} (e : Ev C α ow σ ρ H S) (h : H p = none) (hz : vs.length ≤ sizeLine) (r : RvAll C α ow H vs ds) : Rv C α ow (upd H p (.tup vs)) (.ref p) (.tup ds) := by
  have hp := e.seen h
  exact .tup (SqT.of (hid_get hp upd_same)) hz (RpAll.same (hid_step (same_new h)) r)
theorem rv_lst {vs : List V} {ds : List D} {p : Addr} (e : Ev C α ow σ ρ H S) (h : H p = none) (hz : vs.length ≤ sizeLine) (r : RvAll C α ow H vs ds) : Rv C α ow (upd H p (.lst vs)) (.ref p) (.lst ds) := by
  have hp := e.seen h
  exact .lst (hid_get hp upd_same) hz (RpAll.same (hid_step (same_new h)) r)
variable {tr : TA} {mr : MA}
def mNil : MA := fun _ S P _ => P [] S
def mCons (ma : ME) (mr : MA) : MA := fun ρ S P X => ma ρ S (fun d S1 => mr ρ S1 (fun ds S2 => P (d :: ds) S2) X) X
theorem da_nil : DA K mg E tNil mNil := fun C α ow σ ρ H S P X Q e hm hx k => k _ _ α H S hm e.go .nil
theorem da_cons (ha : DE K mg E ta ma) (hr : DA K mg E tr mr) : DA K mg E (tCons ta tr) (mCons ma mr) := fun C α ow σ ρ H S P X Q e hm hx k =>
  ha C α ow σ ρ H S _ X _ e hm hx fun a x α1 H1 S1 hm1 g1 s1 => hr C α1 ow σ ρ H1 S1 _ X _ (e.step g1) hm1 hx fun ds vs α2 H2 S2 hm2 g2 s2 => k _ _ α2 H2 S2 hm2 (g1.trans g2) (.cons (s1.go g2) s2)
theorem db_nil : DB K mg E tNil mNil := fun C α ow σ ρ H S P X Q e hm hx k => k _ _ α H S hm e.go .nil
theorem db_cons (ha : DQ K mg E ta ma) (hr : DB K mg E tr mr) : DB K mg E (tCons ta tr) (mCons ma mr) := fun C α ow σ ρ H S P X Q e hm hx k =>
  ha C α ow σ ρ H S _ X _ e hm hx fun a x α1 H1 S1 hm1 g1 s1 => hr C α1 ow σ ρ H1 S1 _ X _ (e.step g1) hm1 hx fun ds vs α2 H2 S2 hm2 g2 s2 => k _ _ α2 H2 S2 hm2 (g1.trans g2) (.cons (s1.go (e.step g1) g2) s2)
def mTup (mr : MA) : ME := fun ρ S P X => mr ρ S (fun ds S1 => ds.length ≤ sizeLine ∧ P (.tup ds) S1) X
def mLst (mr : MA) : ME := fun ρ S P X => mr ρ S (fun ds S1 => ds.length ≤ sizeLine ∧ P (.lst ds) S1) X
theorem de_tup (h : DA K mg E tr mr) : DE K mg E (tTup tr) (mTup mr) := fun C α ow σ ρ H S P X Q e hm hx k =>
  h C α ow σ ρ H S _ X _ e hm hx fun ds vs α1 H1 S1 hm1 g1 r1 => ⟨by rw [r1.len]; exact hm1.1, fun p hp => k _ _ _ _ _ hm1.2 (g1.trans ((e.step g1).nw hp)) (rv_tup (e.step g1) hp (by rw [r1.len]; exact hm1.1) r1)⟩
theorem de_lst (h : DA K mg E tr mr) : DE K mg E (tLst tr) (mLst mr) := fun C α ow σ ρ H S P X Q e hm hx k =>
  h C α ow σ ρ H S _ X _ e hm hx fun ds vs α1 H1 S1 hm1 g1 r1 => ⟨by rw [r1.len]; exact hm1.1, fun p hp => k _ _ _ _ _ hm1.2 (g1.trans ((e.step g1).nw hp)) (rv_lst (e.step g1) hp (by rw [r1.len]; exact hm1.1) r1)⟩
/-! calls of defs -/
/-- a def means m -/
def spD (K : PySem.W.Frag) (mg : Str → Option Value) (m : List D → M D) : Sp := fun vs H Q E => ∃ (C : Cy K mg E) (ds : List D) (S : Sto) (P : D → Sto → Prop) (X : Ex → Sto → Prop), C.H0 = H ∧ StOk C C.α0 ow0 H S ∧ RvAll C C.α0 ow0 H vs ds ∧ m ds S P X ∧ XOk C X ∧
  ∀ d v α' H' S', P d S' → Go C ow0 C.α0 H α' H' S' → Rv C α' ow0 H' v d → Q v H'
/-- a new object, leant on by nothing -/
structure Nu (K : PySem.W.Frag) (mg : Str → Option Value) (β : BG) (A : Addr → Prop) (α : List Addr) (H : Hp) (S : Sto) (p : Addr) (d : D) : Prop where
  np : p ∉ α
  ob : ∀ B : Addr → Prop, (∀ a, B a → A a ∨ a = p) → OwB K mg β α B H p d
  os : ∀ (i : Nat) (a : Addr) (o : Ob), α[i]? = some a → S[i]? = some o → ObOk K mg β α (fun a => A a ∨ a = p) H a o
/-- .. and its answer is new -/
def spF (K : PySem.W.Frag) (mg : Str → Option Value) (m : List D → M D) : Sp := fun vs H Q E => ∃ (C : Cy K mg E) (ds : List D) (S : Sto) (P : D → Sto → Prop) (X : Ex → Sto → Prop), C.H0 = H ∧ StOk C C.α0 ow0 H S ∧ RvAll C C.α0 ow0 H vs ds ∧ m ds S P X ∧ XOk C X ∧
  ∀ d p α' H' S', P d S' → Go C ow0 C.α0 H α' H' S' → H p = none → Nu K mg C.β (C.hd α' ow0) α' H' S' p d → Q (.ref p) H'
def Ev.sub (e : Ev C α ow σ ρ H S) : Cy K mg E := ⟨C.β, fun a => C.A a ∨ ∃ i, ow i = some a, H, α, e.bg, fun b l ns q => .inl (C.hb b l ns q), fun a h => e.stands (h.elim .inl fun h => .inr (.inr h)), fun a h => e.stands (.inr (.inl h))⟩
theorem sub_hd (e : Ev C α ow σ ρ H S) {α' : List Addr} : e.sub.hd α' ow0 = C.hd α' ow := by
  funext a
  refine propext ⟨fun h => ?_, fun h => ?_⟩
  · rcases h with (h | h) | h | ⟨i, h⟩
    · exact .inl h
    · exact .inr (.inr h)
    · exact .inr (.inl h)
    · cases h
  · rcases h with h | h | h
    · exact .inl (.inl h)
    · exact .inr (.inl h)
    · exact .inl (.inr h)
theorem StOk.out (h : StOk C α ow H S) : StOk C α ow0 H S := ⟨h.len, h.nd, h.nA, h.nL, fun i a q => (by cases q), fun i a o h1 h2 => (h.ob i a o h1 h2).mono (List.prefix_refl _) (hid_mono fun a z => by
  rcases z with z | z | ⟨i, z⟩
  · exact .inl z
  · exact .inr (.inl z)
  · cases z) fun _ q _ => q⟩
theorem StOk.sub (e : Ev C α ow σ ρ H S) : StOk e.sub α ow0 H S := ⟨e.st.len, e.st.nd, fun a m z => z.elim (e.st.nA a m) fun ⟨i, z⟩ => e.st.no i a z m, e.st.nL, fun i a q => (by cases q), fun i a o h1 h2 => by rw [sub_hd]; exact e.st.ob i a o h1 h2⟩
theorem StOk.unsub (e : Ev C α ow σ ρ H S) {α' : List Addr} {H' : Hp} {S' : Sto} (h : StOk e.sub α' ow0 H' S') : StOk C α' ow H' S' := ⟨h.len, h.nd, fun a m z => h.nA a m (.inl z), h.nL, fun i a q m => h.nA a m (.inr ⟨i, q⟩), fun i a o h1 h2 => by
  have := h.ob i a o h1 h2
  rw [sub_hd] at this
  exact this⟩
theorem Go.unsub (e : Ev C α ow σ ρ H S) {α' : List Addr} {H' : Hp} {S' : Sto} (g : Go e.sub ow0 α H α' H' S') : Go C ow α H α' H' S' := ⟨g.fr, g.st.unsub e⟩
theorem RvAll.sub (e : Ev C α ow σ ρ H S) {vs : List V} {ds : List D} (r : RvAll C α ow H vs ds) : RvAll e.sub α ow0 H vs ds := by unfold RvAll; rw [sub_hd]; exact r
theorem Rv.unsub (e : Ev C α ow σ ρ H S) {α' : List Addr} {H' : Hp} {v : V} {d : D} (r : Rv e.sub α' ow0 H' v d) : Rv C α' ow H' v d := by unfold Rv at r; rw [sub_hd] at r; exact r
theorem Rv.out {v : V} {d : D} (r : Rv C α ow H v d) : Rv C α ow0 H v d := Rp.same (hid_mono fun a z => by
  rcases z with z | z | ⟨i, z⟩
  · exact .inl z
  · exact .inr (.inl z)
  · cases z) r
theorem RvAll.out {v : List V} {d : List D} (r : RvAll C α ow H v d) : RvAll C α ow0 H v d := RpAll.same (hid_mono fun a z => by
  rcases z with z | z | ⟨i, z⟩
  · exact .inl z
  · exact .inr (.inl z)
  · cases z) r
theorem Go.out (g : Go C ow α H α' H' S') : Go C ow0 α H α' H' S' := ⟨g.fr, g.st.out⟩
theorem Ev.go0 (e : Ev C α ow σ ρ H S) : Go C ow0 C.α0 C.H0 α H S := ⟨e.fr, e.st.out⟩
theorem Ev.subX (e : Ev C α ow σ ρ H S) {X : Ex → Sto → Prop} (hx : XOk C X) : XOk (e.sub) X := fun x u dx α' H' S' h g r => hx x u dx α' H' S' h ⟨e.fr.trans g.fr, (g.st.unsub e).out⟩ (by
  obtain ⟨h1, d, fs, h2, h3, h4, h5⟩ := r
  refine ⟨h1, d, fs, h2, h3, h4, RvAll.out (ow := ow) ?_⟩
  unfold RvAll at h5 ⊢
  rw [sub_hd] at h5
  exact h5)
def mCall (m : List D → M D) (dd : List D) (mr : MA) : ME := fun ρ S P X => mr ρ S (fun ds S1 => m (ds ++ dd) S1 P X) X
theorem de_call {m : List D → M D} {dvs : List V} {dd : List D} (hd : ∀ mg β α H, RpAll K mg β α H dvs dd) (h : DA K mg E tr mr) : DE K mg E (tCall (spD K mg m) dvs E tr) (mCall m dd mr) := fun C α ow σ ρ H S P X Q e hm hx k =>
  h C α ow σ ρ H S _ X _ e hm hx fun ds vs α1 H1 S1 hm1 g1 r1 => ⟨(e.step g1).sub, ds ++ dd, S1, P, X, rfl, StOk.sub (e.step g1), RvAll.sub (e.step g1) (r1.append (hd _ _ _ _)), hm1, (e.step g1).subX hx, fun d v α' H' S' p g r => k d v α' H' S' p (g1.trans (g.unsub (e.step g1))) (r.unsub (e.step g1))⟩
/-! calls of built-in functions -/
def CallD (K : PySem.W.Frag) (r : List V → Hp → VK → Prop) (f : List D → (D → Prop) → Prop) : Prop := ∀ (mg : Str → Option Value) (E : XK) (C : Cy K mg E) (α : List Addr) (ow : OwS) (σ : L2.St) (ρ : Env) (H : Hp) (S : Sto) (vs : List V) (ds : List D) (P : D → Prop) (Q : VK),
  Ev C α ow σ ρ H S → ShAll C α ow H vs ds → f ds P → (∀ d v H', P d → Go C ow α H α H' S → Rv C α ow H' v d → Q v H') → r vs H Q
def mCB (f : List D → (D → Prop) → Prop) (mr : MA) : ME := fun ρ S P X => mr ρ S (fun ds S1 => f (ds.map S1.rs) fun d => P d S1) X
theorem de_CB {r : List V → Hp → VK → Prop} {f : List D → (D → Prop) → Prop} (hr : CallD K r f) (h : DB K mg E tr mr) : DE K mg E (tCB r tr) (mCB f mr) := fun C α ow σ ρ H S P X Q e hm hx k =>
  h C α ow σ ρ H S _ X _ e hm hx fun ds vs α1 H1 S1 hm1 g1 r1 => hr mg E C α1 ow σ ρ H1 S1 vs _ _ Q (e.step g1) (r1.rs g1.st) hm1 fun d v H' p g r => k d v α1 H' S1 p (g1.trans g) r
/-- len -/
def fLen : List D → (D → Prop) → Prop
  | [.lst ds], P => P (.int ds.length)
  | [.tup ds], P => P (.int ds.length)
  | [.str z], P => P (.int z.length)
  | _, _ => False
theorem ShAll.one {v : List V} {d : D} (h : ShAll C α ow H v [d]) : ∃ x, v = [x] ∧ Sh C α ow H x d := by
  cases h with
  | cons h t => cases t; exact ⟨_, rfl, h⟩
theorem ShAll.two {v : List V} {d d' : D} (h : ShAll C α ow H v [d, d']) : ∃ x y, v = [x, y] ∧ Sh C α ow H x d ∧ Sh C α ow H y d' := by
  cases h with
  | cons h t => obtain ⟨y, rfl, h2⟩ := t.one; exact ⟨_, _, rfl, h, h2⟩
theorem cd_len : CallD K (rLenA K) fLen := fun mg E C α ow σ ρ H S vs ds P Q e h hm k => by
  unfold fLen at hm
  split at hm
  · obtain ⟨x, rfl, hx⟩ := h.one
    obtain ⟨a, xs, rfl, h1, h2, h3⟩ := hx.lstI
    exact .inl (w_len (SqL.of h1) (by rw [h3.len]; exact k _ _ H hm e.go (.int _)))
  · obtain ⟨x, rfl, hx⟩ := h.one
    obtain ⟨a, xs, rfl, h1, h2, h3⟩ := hx.tupI
    exact .inl (w_lenT h1 (by rw [h3.len]; exact k _ _ H hm e.go (.int _)))
  · obtain ⟨x, rfl, hx⟩ := h.one
    obtain ⟨rfl, hz⟩ := hx.strI
    exact .inr (w_lenStr hz (k _ _ H hm e.go (.int _)))
  · exact hm.elim
/-- all, any, sum of a list -/
def fAll : List D → (D → Prop) → Prop
  | [.lst ds], P => ∃ bs : List Bool, ds = bs.map .bl ∧ P (.bl (bs.all id))
  | _, _ => False
def fAny : List D → (D → Prop) → Prop
  | [.lst ds], P => ∃ bs : List Bool, ds = bs.map .bl ∧ P (.bl (bs.any id))
  | _, _ => False
def fSum : List D → (D → Prop) → Prop
  | [.lst ds], P => ∃ ns : List Int, ds = ns.map .int ∧ P (.int ns.sum)
  | _, _ => False
theorem cd_all : CallD K (rAll K) fAll := fun mg E C α ow σ ρ H S vs ds P Q e h hm k => by
  unfold fAll at hm
  split at hm
  · obtain ⟨x, rfl, hx⟩ := h.one
    obtain ⟨bs, rfl, hm⟩ := hm
    obtain ⟨a, xs, rfl, h1, h2, h3⟩ := hx.lstI
    rw [h3.bls] at h1
    exact w_all (SqL.of h1) (k _ _ H hm e.go (.bl _))
  · exact hm.elim
theorem cd_any : CallD K (rAny K) fAny := fun mg E C α ow σ ρ H S vs ds P Q e h hm k => by
  unfold fAny at hm
  split at hm
  · obtain ⟨x, rfl, hx⟩ := h.one
    obtain ⟨bs, rfl, hm⟩ := hm
    obtain ⟨a, xs, rfl, h1, h2, h3⟩ := hx.lstI
    rw [h3.bls] at h1
    exact w_any (SqL.of h1) (k _ _ H hm e.go (.bl _))
  · exact hm.elim
theorem cd_sum : CallD K (rSum K) fSum := fun mg E C α ow σ ρ H S vs ds P Q e h hm k => by
  unfold fSum at hm
  split at hm
  · obtain ⟨x, rfl, hx⟩ := h.one
    obtain ⟨ns, rfl, hm⟩ := hm
    obtain ⟨a, xs, rfl, h1, h2, h3⟩ := hx.lstI
    rw [h3.intsI] at h1
    exact ⟨a, ns, rfl, SqL.of h1, k _ _ H hm e.go (.int _)⟩
  · exact hm.elim
/-- list(..) -/
def fListOf : List D → (D → Prop) → Prop
  | [.lst ds], P => P (.lst ds)
  | [.tup ds], P => P (.lst ds)
  | _, _ => False
theorem cd_listOf : CallD K (rListOf K) fListOf := fun mg E C α ow σ ρ H S vs ds P Q e h hm k => by
  unfold fListOf at hm
  split at hm
  · obtain ⟨x, rfl, hx⟩ := h.one
    obtain ⟨a, xs, rfl, h1, h2, h3⟩ := hx.lstI
    exact ⟨a, xs, rfl, .inl (SqL.of h1), fun p hp => k _ _ _ hm (e.nw hp) (rv_lst e hp h2 h3)⟩
  · obtain ⟨x, rfl, hx⟩ := h.one
    obtain ⟨a, xs, rfl, h1, h2, h3⟩ := hx.tupI
    exact ⟨a, xs, rfl, .inr h1, fun p hp => k _ _ _ hm (e.nw hp) (rv_lst e hp h2 h3)⟩
  · exact hm.elim
def fListText : List D → (D → Prop) → Prop
  | [.str z], P => P (.lst (z.cps.toList.map fun c => .str ⟨#[c]⟩))
  | _, _ => False
theorem rp_signs {mg : Str → Option Value} {β : BG} {α : List Addr} {H : Hp} (l : List Nat) : RpAll K mg β α H (l.map fun c => V.str ⟨#[c]⟩) (l.map fun c => D.str ⟨#[c]⟩) := by
  induction l with
  | nil => exact .nil
  | cons c l ih => exact .cons (.str (by show 1 ≤ sizeLine; decide)) ih
theorem cd_listText : CallD K rListText fListText := fun mg E C α ow σ ρ H S vs ds P Q e h hm k => by
  unfold fListText at hm
  split at hm
  · obtain ⟨x, rfl, hx⟩ := h.one
    obtain ⟨rfl, hz⟩ := hx.strI
    exact ⟨_, rfl, hz, fun p hp => k _ _ _ hm (e.nw hp) (rv_lst e hp (by simpa [Str.length] using hz) (rp_signs _))⟩
  · exact hm.elim
/-! places -/
def fIx : D → D → (D → Prop) → Prop
  | .lst ds, .int i, P => match atI ds i with
    | some d => P d
    | none => False
  | .tup ds, .int i, P => match atI ds i with
    | some d => P d
    | none => False
  | .str z, .int i, P => match atI z.cps.toList i with
    | some c => P (.str ⟨#[c]⟩)
    | none => False
  | _, _, _ => False
theorem RpAll.atI {mg : Str → Option Value} {β : BG} {α : List Addr} {H : Hp} {xs : List V} {ds : List D} {i : Int} {d : D} (h : RpAll K mg β α H xs ds) (e : L2.atI ds i = some d) : ∃ x, L2.atI xs i = some x ∧ Rp K mg β α H x d := by
  unfold L2.atI at e ⊢
  rw [h.len]
  cases q : ixN ds.length i with
  | none => rw [q] at e; cases e
  | some j =>
    rw [q] at e
    exact h.get' (show ds[j]? = some d from e)
theorem od_ix : OpD K (rIx K) fIx := fun mg E C α ow σ ρ H S x y a b P Q e sa sb hm k => by
  unfold fIx at hm
  split at hm
  · split at hm
    · obtain ⟨a, xs, rfl, h1, h2, h3⟩ := sa.lstI
      obtain ⟨v, hv, rv⟩ := h3.atI ‹_›
      rw [sb.intI]
      exact .inl ⟨a, xs, _, v, rfl, rfl, SqL.of h1, hv, k _ _ H hm e.go rv⟩
    · exact hm.elim
  · split at hm
    · obtain ⟨a, xs, rfl, h1, h2, h3⟩ := sa.tupI
      obtain ⟨v, hv, rv⟩ := h3.atI ‹_›
      rw [sb.intI]
      exact .inr (.inl ⟨a, xs, _, v, rfl, rfl, h1, hv, k _ _ H hm e.go rv⟩)
    · exact hm.elim
  · split at hm
    · obtain ⟨rfl, hz⟩ := sa.strI
      rw [sb.intI]
      exact .inr (.inr ⟨_, _, _, rfl, rfl, hz, ‹_›, k _ _ H hm e.go (.str (by show 1 ≤ sizeLine; decide))⟩)
    · exact hm.elim
  · exact hm.elim
/-! slices -/
def cutL {α : Type} (xs : List α) (lo hi : Option Int) : List α := (xs.drop (HT.sIx xs.length 0 lo)).take (HT.sIx xs.length xs.length hi - HT.sIx xs.length 0 lo)
theorem RpAll.cutt {mg : Str → Option Value} {β : BG} {α : List Addr} {H : Hp} {xs : List V} {ds : List D} {lo hi : Option Int} (h : RpAll K mg β α H xs ds) : RpAll K mg β α H (cutV xs lo hi) (cutL ds lo hi) := by
  unfold cutV cutL
  rw [h.len]
  exact (h.drop _).take _
abbrev MO := Env → M (Option Int)
def DO (K : PySem.W.Frag) (mg : Str → Option Value) (E : XK) (t : TO) (m : MO) : Prop := ∀ (C : Cy K mg E) (α : List Addr) (ow : OwS) (σ : L2.St) (ρ : Env) (H : Hp) (S : Sto) (P : Option Int → Sto → Prop) (X : Ex → Sto → Prop) (Q : Option Int → Hp → Prop),
  Ev C α ow σ ρ H S → m ρ S P X → XOk C X → (∀ b α' H' S', P b S' → Go C ow α H α' H' S' → Q b H') → t σ H Q
def mNo : MO := fun _ S P _ => P none S
def asI (P : Int → Prop) : D → Prop
  | .int i => P i
  | _ => False
def mSome (ma : ME) : MO := fun ρ S P X => ma ρ S (fun d S1 => asI (fun i => P (some i) S1) (S1.rs d)) X
theorem do_no : DO K mg E tNoPart mNo := fun C α ow σ ρ H S P X Q e hm hx k => k _ α H S hm e.go
theorem do_some (h : DQ K mg E ta ma) : DO K mg E (tPart ta) (mSome ma) := fun C α ow σ ρ H S P X Q e hm hx k => h C α ow σ ρ H S _ X _ e hm hx fun d v α1 H1 S1 p g s => by
  have s := s.rs g.st
  unfold asI at p
  split at p
  · rename_i q
    rw [q] at s
    exact ⟨_, s.intI, k _ _ _ _ p g⟩
  · exact p.elim
def SlD (K : PySem.W.Frag) (r : V → Option Int → Option Int → Hp → VK → Prop) (f : D → Option Int → Option Int → (D → Prop) → Prop) : Prop := ∀ (mg : Str → Option Value) (E : XK) (C : Cy K mg E) (α : List Addr) (ow : OwS) (σ : L2.St) (ρ : Env) (H : Hp) (S : Sto) (x : V) (lo hi : Option Int) (a : D) (P : D → Prop) (Q : VK),
  Ev C α ow σ ρ H S → Sh C α ow H x a → f a lo hi P → (∀ d v H', P d → Go C ow α H α H' S → Rv C α ow H' v d → Q v H') → r x lo hi H Q
def mSl (f : D → Option Int → Option Int → (D → Prop) → Prop) (ma : ME) (ml mh : MO) : ME := fun ρ S P X => ma ρ S (fun a S1 => ml ρ S1 (fun lo S2 => mh ρ S2 (fun hi S3 => f (S3.rs a) lo hi fun d => P d S3) X) X) X
theorem de_sl {r : V → Option Int → Option Int → Hp → VK → Prop} {f : D → Option Int → Option Int → (D → Prop) → Prop} {tl th : TO} {ml mh : MO} (hr : SlD K r f) (ha : DQ K mg E ta ma) (hl : DO K mg E tl ml) (hh : DO K mg E th mh) :
    DE K mg E (tSl r ta tl th) (mSl f ma ml mh) := fun C α ow σ ρ H S P X Q e hm hx k =>
  ha C α ow σ ρ H S _ X _ e hm hx fun a x α1 H1 S1 hm1 g1 s1 => hl C α1 ow σ ρ H1 S1 _ X _ (e.step g1) hm1 hx fun lo α2 H2 S2 hm2 g2 => hh C α2 ow σ ρ H2 S2 _ X _ ((e.step g1).step g2) hm2 hx fun hi α3 H3 S3 hm3 g3 =>
    hr mg E C α3 ow σ ρ H3 S3 x lo hi _ _ Q (((e.step g1).step g2).step g3) ((s1.go (e.step g1) (g2.trans g3)).rs g3.st) hm3 fun d v H4 p g4 r4 => k d v α3 H4 S3 p ((g1.trans (g2.trans g3)).trans g4) r4
def fSlL : D → Option Int → Option Int → (D → Prop) → Prop
  | .lst ds, lo, hi, P => P (.lst (cutL ds lo hi))
  | _, _, _, _ => False
def fSlT : D → Option Int → Option Int → (D → Prop) → Prop
  | .tup ds, lo, hi, P => P (.tup (cutL ds lo hi))
  | _, _, _, _ => False
def fSlS : D → Option Int → Option Int → (D → Prop) → Prop
  | .str z, lo, hi, P => P (.str (cutS z lo hi))
  | _, _, _, _ => False
theorem sd_list : SlD K (rSlL K) fSlL := fun mg E C α ow σ ρ H S x lo hi a P Q e sa hm k => by
  unfold fSlL at hm
  split at hm
  · obtain ⟨a, xs, rfl, h1, h2, h3⟩ := sa.lstI
    exact ⟨a, xs, rfl, SqL.of h1, fun p hp => k _ _ _ hm (e.nw hp) (rv_lst e hp (Nat.le_trans (cutV_length _ _ _) h2) h3.cutt)⟩
  · exact hm.elim
theorem sd_tup : SlD K (rSlA K) fSlT := fun mg E C α ow σ ρ H S x lo hi a P Q e sa hm k => by
  unfold fSlT at hm
  split at hm
  · obtain ⟨a, xs, rfl, h1, h2, h3⟩ := sa.tupI
    refine ⟨a, xs, rfl, h1, fun hw => ?_, fun _ p hp => k _ _ _ hm (e.nw hp) (rv_tup e hp (Nat.le_trans (cutV_length _ _ _) h2) h3.cutt)⟩
    refine k _ _ H hm e.go ?_
    have : cutL ‹List D› lo hi = ‹List D› := by
      unfold cutL
      rw [h3.len] at hw
      rw [hw.1, hw.2]
      simp
    rw [this]
    exact sa.tupI'
  · exact hm.elim
theorem cutS_length {z : Str} {lo hi : Option Int} : (cutS z lo hi).length ≤ z.length := by
  unfold cutS
  simp [Str.length, Array.size_extract] <;> omega
theorem sd_str : SlD K rSlS fSlS := fun mg E C α ow σ ρ H S x lo hi a P Q e sa hm k => by
  unfold fSlS at hm
  split at hm
  · obtain ⟨rfl, hz⟩ := sa.strI
    exact ⟨_, rfl, hz, k _ _ H hm e.go (.str (Nat.le_trans cutS_length hz))⟩
  · exact hm.elim
/-! sums, joinings -/
def fAdd : D → D → (D → Prop) → Prop
  | .int i, .int j, P => P (.int (i + j))
  | .str x, .str y, P => x.length + y.length ≤ sizeLine ∧ P (.str (x ++ y))
  | .lst a, .lst b, P => a.length + b.length ≤ sizeLine ∧ P (.lst (a ++ b))
  | .tup a, .tup b, P => a.length + b.length ≤ sizeLine ∧ P (.tup (a ++ b))
  | _, _, _ => False
def rAddX (K : PySem.W.Frag) : R2 := fun x y H Q => (rI0 (fun i j => .int (i + j)) x y H Q ∨ (∃ i j, x = .str i ∧ y = .str j ∧ i.length + j.length ≤ sizeLine ∧ Q (.str (i ++ j)) H)) ∨ (rCat x y H Q ∨ rCatA K x y H Q)
theorem op_addX {X : Cx} : OpR X (binaryOp .Add) (rAddX X.K) := (op_add.or op_add_str).or (op_cat.or op_catA)
theorem str_append_length (x y : Str) : (x ++ y).length = x.length + y.length := by
  show ((x.cps ++ y.cps).size) = _
  rw [Array.size_append]
  rfl
theorem od_add : OpD K (rAddX K) fAdd := fun mg E C α ow σ ρ H S x y a b P Q e sa sb hm k => by
  unfold fAdd at hm
  split at hm
  · exact .inl (.inl ⟨_, _, sa.intI, sb.intI, k _ _ H hm e.go (.int _)⟩)
  · obtain ⟨rfl, hz⟩ := sa.strI
    obtain ⟨rfl, hy⟩ := sb.strI
    exact .inl (.inr ⟨_, _, rfl, rfl, hm.1, k _ _ H hm.2 e.go (.str (by rw [str_append_length]; exact hm.1))⟩)
  · obtain ⟨l, xs, rfl, h1, h2, h3⟩ := sa.lstI
    obtain ⟨m, ys, rfl, g1, g2, g3⟩ := sb.lstI
    have hz : xs.length + ys.length ≤ sizeLine := by rw [h3.len, g3.len]; exact hm.1
    exact .inr (.inl ⟨l, m, xs, ys, rfl, rfl, h1, g1, hz, fun p hp => k _ _ _ hm.2 (e.nw hp) (rv_lst e hp (by rw [List.length_append]; exact hz) (h3.append g3))⟩)
  · have sa2 := sa.tupI'
    have sb2 := sb.tupI'
    obtain ⟨l, xs, rfl, h1, h2, h3⟩ := sa.tupI
    obtain ⟨m, ys, rfl, g1, g2, g3⟩ := sb.tupI
    have hz : xs.length + ys.length ≤ sizeLine := by rw [h3.len, g3.len]; exact hm.1
    refine .inr (.inr ⟨l, m, xs, ys, rfl, rfl, h1, g1, hz, fun z => ?_, fun _ z => ?_, fun _ _ p hp => k _ _ _ hm.2 (e.nw hp) (rv_tup e hp (by rw [List.length_append]; exact hz) (h3.append g3))⟩)
    · subst z
      cases h3
      exact k _ _ H hm.2 e.go sb2
    · subst z
      cases g3
      have hm2 := hm.2
      rw [List.append_nil] at hm2
      exact k _ _ H hm2 e.go sa2
  · exact hm.elim
/-! data that read as the kit's own -/
mutual
def D.py : D → PyData
  | .non => .none
  | .bl b => .bool b
  | .int i => .int i
  | .str z => .str z
  | .lst ds => .list (D.pys ds)
  | .tup ds => .tuple (D.pys ds)
  | _ => .none
def D.pys : List D → List PyData
  | [] => []
  | d :: ds => d.py :: D.pys ds
def D.isPy : D → Bool
  | .non => true
  | .bl _ => true
  | .int _ => true
  | .str _ => true
  | .lst ds => D.arePy ds
  | .tup ds => D.arePy ds
  | _ => false
def D.arePy : List D → Bool
  | [] => true
  | d :: ds => d.isPy && D.arePy ds
end
mutual
theorem Rp.dp {mg : Str → Option Value} {β : BG} {α : List Addr} {H : Hp} : ∀ {v : V} {d : D}, Rp K mg β α H v d → d.isPy = true → Dp K H v d.py
  | _, _, .non, _ => by unfold D.py; exact .non
  | _, _, .bl b, _ => by unfold D.py; exact .bl b
  | _, _, .int i, _ => by unfold D.py; exact .int i
  | _, _, .str h, _ => by unfold D.py; exact .str _
  | _, _, .lst h n r, q => by unfold D.isPy at q; unfold D.py; exact .lst (SqL.of h) (RpAll.dp r q)
  | _, _, .tup h n r, q => by unfold D.isPy at q; unfold D.py; exact .tup h (RpAll.dp r q)
  | _, _, .dK _ _ _, q => by unfold D.isPy at q; cases q
  | _, _, .ins _ _ _, q => by unfold D.isPy at q; cases q
  | _, _, .ob _, q => by unfold D.isPy at q; cases q
  | _, _, .bag _, q => by unfold D.isPy at q; cases q
  | _, _, .raw _, q => by unfold D.isPy at q; cases q
theorem RpAll.dp {mg : Str → Option Value} {β : BG} {α : List Addr} {H : Hp} : ∀ {vs : List V} {ds : List D}, RpAll K mg β α H vs ds → D.arePy ds = true → DpAll K H vs (D.pys ds)
  | _, _, .nil, _ => by unfold D.pys; exact .nil
  | _, _, .cons h r, q => by
    unfold D.arePy at q
    rw [Bool.and_eq_true_iff] at q
    unfold D.pys
    exact .cons (Rp.dp h q.1) (RpAll.dp r q.2)
end
theorem OwB.dp {β : BG} {B : Addr → Prop} {a : Addr} {d : D} (h : OwB K mg β α B H a d) (q : d.isPy = true) : Dp K H (.ref a) d.py := by
  cases h with
  | lst h1 h2 h3 =>
    unfold D.isPy at q
    unfold D.py
    exact .lst (SqL.of h1) (Same.dpAll hid_same (RpAll.dp h3 q))
  | dK _ _ _ => unfold D.isPy at q; cases q
theorem Sh.dp {v : V} {d : D} (h : Sh C α ow H v d) (q : d.isPy = true) : Dp K H v d.py := by
  rcases h with h | ⟨i, a, _, rfl, h⟩ | ⟨a, _, rfl, h⟩
  · exact Same.dp hid_same (Rp.dp h q)
  · exact OwB.dp h q
  · exact OwB.dp h q
/-- a datum that may be held against another: no dicts, not too deep -/
def D.ok (d : D) : Bool := d.isPy && SeqAt.shaped d.py
def D.eqv (a b : D) : Bool := PyData.eqv a.py b.py
def fEq (neg : Bool) : D → D → (D → Prop) → Prop := fun a b P => a.ok = true ∧ b.ok = true ∧ P (.bl (if neg then !a.eqv b else a.eqv b))
theorem od_eq : OpD K (rEqD K) (fEq false) := fun mg E C α ow σ ρ H S x y a b P Q e sa sb hm k => by
  obtain ⟨h1, h2, h3⟩ := hm
  unfold D.ok at h1 h2
  rw [Bool.and_eq_true_iff] at h1 h2
  exact ⟨_, _, sa.dp h1.1, sb.dp h2.1, h1.2, h2.2, k _ _ H h3 e.go (.bl _)⟩
theorem od_ne : OpD K (rNeD K) (fEq true) := fun mg E C α ow σ ρ H S x y a b P Q e sa sb hm k => by
  obtain ⟨h1, h2, h3⟩ := hm
  unfold D.ok at h1 h2
  rw [Bool.and_eq_true_iff] at h1 h2
  exact ⟨_, _, sa.dp h1.1, sb.dp h2.1, h1.2, h2.2, k _ _ H h3 e.go (.bl _)⟩
/-- == of plain things -/
def D.flat : D → Bool
  | .non => true | .bl _ => true | .int _ => true | .str _ => true
  | _ => false
def D.v : D → V
  | .bl b => .bl b | .int i => .int i | .str z => .str z
  | _ => .non
theorem Rp.flat {mg : Str → Option Value} {β : BG} {α : List Addr} {H : Hp} {v : V} {d : D} (h : Rp K mg β α H v d) (f : d.flat = true) : v = d.v := by
  cases h <;> first | rfl | cases f
theorem Sh.flat {v : V} {d : D} (h : Sh C α ow H v d) (f : d.flat = true) : v = d.v := by
  rcases h with h | ⟨_, _, _, _, h⟩ | ⟨_, _, _, h⟩
  · exact Rp.flat h f
  · cases h <;> cases f
  · cases h <;> cases f
theorem flatV_v {d : D} : flatV d.v = true := by cases d <;> rfl
theorem RpAll.flat {mg : Str → Option Value} {β : BG} {α : List Addr} {H : Hp} : ∀ {vs : List V} {ds : List D}, RpAll K mg β α H vs ds → (∀ d ∈ ds, d.flat = true) → vs = ds.map D.v
  | _, _, .nil, _ => rfl
  | _, _, .cons h r, f => by rw [Rp.flat h (f _ (List.mem_cons_self ..)), RpAll.flat r fun d q => f d (List.mem_cons_of_mem _ q)]; rfl
/-- is None -/
def D.isN : D → Option Bool
  | .non => some true
  | .raw _ => none
  | _ => some false
def fIs (neg : Bool) : D → D → (D → Prop) → Prop
  | a, .non, P => match a.isN with
    | some b => P (.bl (if neg then !b else b))
    | none => False
  | _, _, _ => False
theorem Rp.isN {mg : Str → Option Value} {β : BG} {α : List Addr} {H : Hp} {v : V} {d : D} {b : Bool} (h : Rp K mg β α H v d) (f : d.isN = some b) : decide (v = .non) = b := by
  cases h <;> first | (cases f; rfl) | cases f
theorem Sh.isN {v : V} {d : D} {b : Bool} (h : Sh C α ow H v d) (f : d.isN = some b) : decide (v = .non) = b := by
  rcases h with h | ⟨_, _, _, rfl, h⟩ | ⟨_, _, rfl, h⟩
  · exact Rp.isN h f
  · cases h <;> (cases f; rfl)
  · cases h <;> (cases f; rfl)
theorem od_is : OpD K rIsN0 (fIs false) := fun mg E C α ow σ ρ H S x y a b P Q e sa sb hm k => by
  unfold fIs at hm
  split at hm
  · split at hm
    · cases sb.nonI
      refine ⟨rfl, ?_⟩
      rw [sa.isN ‹_›]
      exact k _ _ H hm e.go (.bl _)
    · exact hm.elim
  · exact hm.elim
theorem od_isNot : OpD K rNotN0 (fIs true) := fun mg E C α ow σ ρ H S x y a b P Q e sa sb hm k => by
  unfold fIs at hm
  split at hm
  · split at hm
    · cases sb.nonI
      refine ⟨rfl, ?_⟩
      rw [sa.isN ‹_›]
      exact k _ _ H hm e.go (.bl _)
    · exact hm.elim
  · exact hm.elim
/-- in -/
def fIn (neg : Bool) : D → D → (D → Prop) → Prop
  | a, .lst ds, P => a.flat = true ∧ (∀ d ∈ ds, d.flat = true) ∧ P (.bl (if neg then !inV a.v (ds.map D.v) else inV a.v (ds.map D.v)))
  | a, .tup ds, P => a.flat = true ∧ (∀ d ∈ ds, d.flat = true) ∧ P (.bl (if neg then !inV a.v (ds.map D.v) else inV a.v (ds.map D.v)))
  | .str x, .str z, P => match x.cps.toList with
    | [c] => P (.bl (if neg then !decide (c ∈ z.cps.toList) else decide (c ∈ z.cps.toList)))
    | _ => False
  | _, _, _ => False
def rInX (K : PySem.W.Frag) : R2 := fun x y H Q => rIn K false x y H Q ∨ rInSign x y H Q
def rNotInX (K : PySem.W.Frag) : R2 := fun x y H Q => rIn K true x y H Q ∨ rNotInSign x y H Q
theorem one_sign {x : Str} {c : Nat} (h : x.cps.toList = [c]) : x = ⟨#[c]⟩ := by
  obtain ⟨⟨l⟩⟩ := x
  cases h
  rfl
theorem all_flat {ds : List D} : (ds.map D.v).all flatV = true := by
  rw [List.all_eq_true]
  intro v h
  obtain ⟨d, _, rfl⟩ := List.mem_map.mp h
  exact flatV_v
theorem od_in : OpD K (rInX K) (fIn false) := fun mg E C α ow σ ρ H S x y a b P Q e sa sb hm k => by
  unfold fIn at hm
  split at hm
  · obtain ⟨f1, f2, hm⟩ := hm
    obtain ⟨l, xs, rfl, h1, h2, h3⟩ := sb.lstI
    rw [sa.flat f1]
    rw [RpAll.flat h3 f2] at h1
    exact .inl ⟨l, _, rfl, .inl (SqL.of h1), flatV_v, all_flat, k _ _ H hm e.go (.bl _)⟩
  · obtain ⟨f1, f2, hm⟩ := hm
    obtain ⟨l, xs, rfl, h1, h2, h3⟩ := sb.tupI
    rw [sa.flat f1]
    rw [RpAll.flat h3 f2] at h1
    exact .inl ⟨l, _, rfl, .inr h1, flatV_v, all_flat, k _ _ H hm e.go (.bl _)⟩
  · split at hm
    · have e1 := one_sign ‹_›
      subst e1
      exact .inr ⟨_, _, sa.strI.1, sb.strI.1, k _ _ H hm e.go (.bl _)⟩
    · exact hm.elim
  · exact hm.elim
theorem od_notIn : OpD K (rNotInX K) (fIn true) := fun mg E C α ow σ ρ H S x y a b P Q e sa sb hm k => by
  unfold fIn at hm
  split at hm
  · obtain ⟨f1, f2, hm⟩ := hm
    obtain ⟨l, xs, rfl, h1, h2, h3⟩ := sb.lstI
    rw [sa.flat f1]
    rw [RpAll.flat h3 f2] at h1
    exact .inl ⟨l, _, rfl, .inl (SqL.of h1), flatV_v, all_flat, k _ _ H hm e.go (.bl _)⟩
  · obtain ⟨f1, f2, hm⟩ := hm
    obtain ⟨l, xs, rfl, h1, h2, h3⟩ := sb.tupI
    rw [sa.flat f1]
    rw [RpAll.flat h3 f2] at h1
    exact .inl ⟨l, _, rfl, .inr h1, flatV_v, all_flat, k _ _ H hm e.go (.bl _)⟩
  · split at hm
    · have e1 := one_sign ‹_›
      subst e1
      exact .inr ⟨_, _, sa.strI.1, sb.strI.1, k _ _ H hm e.go (.bl _)⟩
    · exact hm.elim
  · exact hm.elim
theorem op_inX {X : Cx} : OpR X (compareOp .In) (rInX X.K) := op_in_seq.or op_inSign
theorem op_notInX {X : Cx} : OpR X (compareOp .NotIn) (rNotInX X.K) := op_notIn_seq.or op_notInSign
/-! truth -/
variable {tt tt' : TT} {mt mt' : MT}
def asB (P : Bool → Prop) : D → Prop
  | .bl b => P b
  | _ => False
def mB (ma : ME) : MT := fun ρ S P X => ma ρ S (fun d S1 => asB (fun b => P b S1) d) X
theorem Su.blI {v : V} {b : Bool} (h : Su C α ow H v (.bl b)) : v = .bl b := by
  rcases h with h | ⟨_, _, _, _, h⟩
  · exact h.blI
  · cases h
theorem dt_b (h : DQ K mg E ta ma) : DT K mg E (tB ta) (mB ma) := fun C α ow σ ρ H S P X Q e hm hx k => h C α ow σ ρ H S _ X _ e hm hx fun d v α1 H1 S1 p f s => by
  unfold asB at p
  split at p
  · exact ⟨_, s.blI, k _ _ _ _ p f⟩
  · exact p.elim
theorem dt_test (h : DQ K mg E ta ma) : DT K mg E (tTest ta) (mB ma) := dt_b h
def mNot (mt : MT) : MT := fun ρ S P X => mt ρ S (fun b S1 => P (!b) S1) X
def mAnd (mt mt' : MT) : MT := fun ρ S P X => mt ρ S (fun b S1 => if b = true then mt' ρ S1 P X else P false S1) X
def mOr (mt mt' : MT) : MT := fun ρ S P X => mt ρ S (fun b S1 => if b = true then P true S1 else mt' ρ S1 P X) X
theorem dt_not (h : DT K mg E tt mt) : DT K mg E (tNot tt) (mNot mt) := fun C α ow σ ρ H S P X Q e hm hx k => h C α ow σ ρ H S _ X _ e hm hx fun b α1 H1 S1 p f => k _ _ _ _ p f
theorem dt_and (h : DT K mg E tt mt) (h' : DT K mg E tt' mt') : DT K mg E (tAnd tt tt') (mAnd mt mt') := fun C α ow σ ρ H S P X Q e hm hx k => h C α ow σ ρ H S _ X _ e hm hx fun b α1 H1 S1 p f => by
  cases b with
  | true => exact h' C α1 ow σ ρ H1 S1 P X Q (e.step f) p hx fun b α2 H2 S2 p f2 => k b _ _ _ p (f.trans f2)
  | false => exact k _ _ _ _ p f
theorem dt_or (h : DT K mg E tt mt) (h' : DT K mg E tt' mt') : DT K mg E (tOr tt tt') (mOr mt mt') := fun C α ow σ ρ H S P X Q e hm hx k => h C α ow σ ρ H S _ X _ e hm hx fun b α1 H1 S1 p f => by
  cases b with
  | false => exact h' C α1 ow σ ρ H1 S1 P X Q (e.step f) p hx fun b α2 H2 S2 p f2 => k b _ _ _ p (f.trans f2)
  | true => exact k _ _ _ _ p f
def mAndV (ma mb : ME) : ME := fun ρ S P X => ma ρ S (fun d S1 => asB (fun b => if b = true then mb ρ S1 P X else P (.bl false) S1) d) X
def mOrV (ma mb : ME) : ME := fun ρ S P X => ma ρ S (fun d S1 => asB (fun b => if b = true then P (.bl true) S1 else mb ρ S1 P X) d) X
def mNotV (ma : ME) : ME := fun ρ S P X => ma ρ S (fun d S1 => asB (fun b => P (.bl (!b)) S1) d) X
theorem de_and (ha : DQ K mg E ta ma) (hb : DE K mg E tb mb) : DE K mg E (tAndV ta tb) (mAndV ma mb) := fun C α ow σ ρ H S P X Q e hm hx k => ha C α ow σ ρ H S _ X _ e hm hx fun d v α1 H1 S1 p f s => by
  unfold asB at p
  split at p
  · refine ⟨_, s.blI, ?_⟩
    split at p
    · rw [if_pos ‹_›]; exact hb C α1 ow σ ρ H1 S1 P X Q (e.step f) p hx fun d v α2 H2 S2 p f2 r => k d v _ _ _ p (f.trans f2) r
    · rw [if_neg ‹_›]; exact k _ _ _ _ _ p f (.bl _)
  · exact p.elim
theorem de_or (ha : DQ K mg E ta ma) (hb : DE K mg E tb mb) : DE K mg E (tOrV ta tb) (mOrV ma mb) := fun C α ow σ ρ H S P X Q e hm hx k => ha C α ow σ ρ H S _ X _ e hm hx fun d v α1 H1 S1 p f s => by
  unfold asB at p
  split at p
  · refine ⟨_, s.blI, ?_⟩
    split at p
    · rw [if_pos ‹_›]; exact k _ _ _ _ _ p f (.bl _)
    · rw [if_neg ‹_›]; exact hb C α1 ow σ ρ H1 S1 P X Q (e.step f) p hx fun d v α2 H2 S2 p f2 r => k d v _ _ _ p (f.trans f2) r
  · exact p.elim
theorem de_not (ha : DQ K mg E ta ma) : DE K mg E (tNotV ta) (mNotV ma) := fun C α ow σ ρ H S P X Q e hm hx k => ha C α ow σ ρ H S _ X _ e hm hx fun d v α1 H1 S1 p f s => by
  unfold asB at p
  split at p
  · exact ⟨_, s.blI, k _ _ _ _ _ p f (.bl _)⟩
  · exact p.elim
def mIf (mt : MT) (ma mb : ME) : ME := fun ρ S P X => mt ρ S (fun b S1 => if b = true then ma ρ S1 P X else mb ρ S1 P X) X
theorem de_if (h : DT K mg E tt mt) (ha : DE K mg E ta ma) (hb : DE K mg E tb mb) : DE K mg E (tIf tt ta tb) (mIf mt ma mb) := fun C α ow σ ρ H S P X Q e hm hx k => h C α ow σ ρ H S _ X _ e hm hx fun b α1 H1 S1 p f => by
  cases b with
  | true => exact ha C α1 ow σ ρ H1 S1 P X Q (e.step f) p hx fun d v α2 H2 S2 p f2 r => k d v _ _ _ p (f.trans f2) r
  | false => exact hb C α1 ow σ ρ H1 S1 P X Q (e.step f) p hx fun d v α2 H2 S2 p f2 r => k d v _ _ _ p (f.trans f2) r
def mChain (f g : D → D → (D → Prop) → Prop) (ma mb mc : ME) : ME := fun ρ S P X => ma ρ S (fun a S1 => mb ρ S1 (fun b S2 => f (S2.rs a) (S2.rs b) (asB fun t => if t = true then mc ρ S2 (fun c S3 => g (S3.rs b) (S3.rs c) fun d => P d S3) X else P (.bl false) S2)) X) X
theorem de_chain {r r' : R2} {f g : D → D → (D → Prop) → Prop} (hr : OpD K r f) (hr' : OpD K r' g) (ha : DQ K mg E ta ma) (hb : DQ K mg E tb mb) (hc : DQ K mg E tc mc) : DE K mg E (tChain r r' ta tb tc) (mChain f g ma mb mc) := fun C α ow σ ρ H S P X Q e hm hx k =>
  ha C α ow σ ρ H S _ X _ e hm hx fun a x α1 H1 S1 hm1 g1 s1 => hb C α1 ow σ ρ H1 S1 _ X _ (e.step g1) hm1 hx fun b y α2 H2 S2 hm2 g2 s2 =>
    hr mg E C α2 ow σ ρ H2 S2 x y _ _ _ _ ((e.step g1).step g2) ((s1.go (e.step g1) g2).rs g2.st) (s2.rs g2.st) hm2 fun d v H3 p g3 r3 => by
      have e3 := ((e.step g1).step g2).step g3
      have g13 := (g1.trans g2).trans g3
      unfold asB at p
      split at p
      · refine ⟨_, r3.blI, ?_⟩
        split at p
        · rw [if_pos ‹_›]
          exact hc C α2 ow σ ρ H3 S2 _ X _ e3 p hx fun c z α4 H4 S4 p4 g4 s4 => hr' mg E C α4 ow σ ρ H4 S4 y z _ _ _ Q (e3.step g4) ((s2.go ((e.step g1).step g2) (g3.trans g4)).rs g4.st) (s4.rs g4.st) p4 fun d v H5 p5 g5 r5 => k d v _ _ _ p5 ((g13.trans g4).trans g5) r5
        · rw [if_neg ‹_›]
          exact k _ _ _ _ _ p g13 (.bl _)
      · exact p.elim
end
end Nc

namespace Nc
open PySem PySem.Spec PyProof.Rows L2
/-! ## what is walked, targets, statements, on data -/
def ItD (K : PySem.W.Frag) (mg : Str → Option Value) (β : BG) (α : List Addr) (A : Addr → Prop) (J : It) (ds : List D) (H1 : Hp) : Prop := ∃ (n : Nat) (G : Hp → Prop) (Y : Nat → Hp → V → Hp → Prop), Walk J n G Y ∧ n = ds.length ∧
  (∀ A' H', Same (hid A H1) (hid A' H') → G H') ∧
  ∀ i x A' H' H'', Same (hid A H1) (hid A' H') → (∀ a, A' a → H' a ≠ none) → i < n → Y i H' x H'' → Same H' H'' ∧ ∀ d, ds[i]? = some d → Rp K mg β α (hid A' H'') x d
abbrev MI := Env → M (List D)
def DI (K : PySem.W.Frag) (mg : Str → Option Value) (E : XK) (t : TI) (m : MI) : Prop := ∀ (C : Cy K mg E) (α : List Addr) (ow : OwS) (σ : L2.St) (ρ : Env) (H : Hp) (S : Sto) (P : List D → Sto → Prop) (X : Ex → Sto → Prop) (R : It → Hp → Prop),
  Ev C α ow σ ρ H S → m ρ S P X → XOk C X → (∀ ds J α1 H1 S1, P ds S1 → Go C ow α H α1 H1 S1 → ItD K mg C.β α1 (C.hd α1 ow) J ds H1 → R J H1) → t σ H R
section
variable {K : PySem.W.Frag} {mg : Str → Option Value} {E : XK} {C : Cy K mg E} {α : List Addr} {ow : OwS} {σ : L2.St} {ρ : Env} {H H' : Hp} {S : Sto}
variable {ta tb tc te : TE} {ma mb mc me : ME} {tr : TA} {mr : MA}
theorem itd_list {β : BG} {α : List Addr} {A : Addr → Prop} {a : Addr} {xs : List V} {ds : List D} (h : hid A H a = some (.lst xs)) (r : RpAll K mg β α (hid A H) xs ds) : ItD K mg β α A (Itl K a) ds H :=
  ⟨xs.length, _, _, walk_list, r.len, fun A' H' s => SqL.of (hid_same _ _ (s _ _ h)), fun i x A' H' H'' s hA hi y => by
    obtain ⟨rfl, y⟩ := y
    refine ⟨Same.refl _, fun d hd => ?_⟩
    obtain ⟨d', h1, h2⟩ := r.get y
    rw [h1] at hd
    cases hd
    exact h2.same s⟩
theorem itd_tup {β : BG} {α : List Addr} {A : Addr → Prop} {a : Addr} {xs : List V} {ds : List D} (h : SqT K (hid A H) a xs) (r : RpAll K mg β α (hid A H) xs ds) : ItD K mg β α A (Itt K a) ds H :=
  ⟨xs.length, _, _, walk_tup, r.len, fun A' H' s => Same.tup hid_same (Same.tup s h), fun i x A' H' H'' s hA hi y => by
    obtain ⟨rfl, y⟩ := y
    refine ⟨Same.refl _, fun d hd => ?_⟩
    obtain ⟨d', h1, h2⟩ := r.get y
    rw [h1] at hd
    cases hd
    exact h2.same s⟩
def asL (P : List D → Prop) : D → Prop
  | .lst ds => P ds
  | _ => False
def asT (P : List D → Prop) : D → Prop
  | .tup ds => P ds
  | _ => False
def signs (z : Str) : List D := z.cps.toList.map fun c => .str ⟨#[c]⟩
def asS (P : List D → Prop) : D → Prop
  | .str z => P (signs z)
  | _ => False
def mIL (ma : ME) : MI := fun ρ S P X => ma ρ S (fun d S1 => asL (fun ds => P ds S1) d) X
def mIT (ma : ME) : MI := fun ρ S P X => ma ρ S (fun d S1 => asT (fun ds => P ds S1) d) X
def mIS (ma : ME) : MI := fun ρ S P X => ma ρ S (fun d S1 => asS (fun ds => P ds S1) d) X
theorem di_list (h : DE K mg E ta ma) : DI K mg E (iList K ta) (mIL ma) := fun C α ow σ ρ H S P X R e hm hx k => h C α ow σ ρ H S _ X _ e hm hx fun d v α1 H1 S1 p f r => by
  unfold asL at p
  split at p
  · obtain ⟨a, xs, rfl, h1, h2, h3⟩ := Rp.lstI r
    exact ⟨a, rfl, ⟨xs, SqL.of (hid_same _ _ h1)⟩, k _ _ _ H1 _ p f (itd_list h1 h3)⟩
  · exact p.elim
theorem di_tup (h : DE K mg E ta ma) : DI K mg E (iTup K ta) (mIT ma) := fun C α ow σ ρ H S P X R e hm hx k => h C α ow σ ρ H S _ X _ e hm hx fun d v α1 H1 S1 p f r => by
  unfold asT at p
  split at p
  · obtain ⟨a, xs, rfl, h1, h2, h3⟩ := Rp.tupI r
    exact ⟨a, rfl, ⟨xs, Same.tup hid_same h1⟩, k _ _ _ H1 _ p f (itd_tup h1 h3)⟩
  · exact p.elim
theorem di_str (h : DE K mg E ta ma) : DI K mg E (iStr ta) (mIS ma) := fun C α ow σ ρ H S P X R e hm hx k => h C α ow σ ρ H S _ X _ e hm hx fun d v α1 H1 S1 p f r => by
  unfold asS at p
  split at p
  · obtain ⟨rfl, hz⟩ := Rp.strI r
    refine ⟨_, rfl, k _ _ _ H1 _ p f ⟨_, _, _, walk_str, by simp [signs], fun _ _ _ => trivial, fun i x A' H' H'' s hA hi y => ?_⟩⟩
    obtain ⟨rfl, c, h1, rfl⟩ := y
    refine ⟨Same.refl _, fun d hd => ?_⟩
    unfold signs at hd
    rw [List.getElem?_map, Array.getElem?_toList, h1] at hd
    cases hd
    exact .str (by show 1 ≤ sizeLine; decide)
  · exact p.elim
def rngD (lo : Int) (n : Nat) : List D := (List.range n).map fun (i : Nat) => .int (lo + (i : Int))
theorem itd_rng {β : BG} {α : List Addr} {A : Addr → Prop} {lo : Int} {n : Nat} : ItD K mg β α A (Itr lo n) (rngD lo n) H :=
  ⟨n, _, _, walk_range, by simp [rngD], fun _ _ _ => trivial, fun i x A' H' H'' s hA hi y => by
    obtain ⟨rfl, rfl⟩ := y
    refine ⟨Same.refl _, fun d hd => ?_⟩
    unfold rngD at hd
    rw [List.getElem?_map, List.getElem?_range hi] at hd
    cases hd
    exact .int _⟩
def asR1 (P : List D → Prop) : List D → Prop
  | [.int j] => -(2 ^ 62) ≤ j ∧ j < 2 ^ 62 ∧ P (rngD 0 j.toNat)
  | _ => False
def asR2 (P : List D → Prop) : List D → Prop
  | [.int i, .int j] => (-(2 ^ 62) ≤ i ∧ i < 2 ^ 62 ∧ -(2 ^ 62) ≤ j ∧ j < 2 ^ 62) ∧ P (rngD i (j - i).toNat)
  | _ => False
def mIR1 (mr : MA) : MI := fun ρ S P X => mr ρ S (fun ds S1 => asR1 (fun es => P es S1) (ds.map S1.rs)) X
def mIR2 (mr : MA) : MI := fun ρ S P X => mr ρ S (fun ds S1 => asR2 (fun es => P es S1) (ds.map S1.rs)) X
theorem di_rng1 (h : DB K mg E tr mr) : DI K mg E (iRng1 tr) (mIR1 mr) := fun C α ow σ ρ H S P X R e hm hx k => h C α ow σ ρ H S _ X _ e hm hx fun d v α1 H1 S1 p f r => by
  have r := r.rs f.st
  unfold asR1 at p
  split at p
  · rename_i q
    rw [q] at r
    obtain ⟨x, rfl, hx⟩ := r.one
    rw [hx.intI]
    exact ⟨_, rfl, p.1, p.2.1, k _ _ _ H1 _ p.2.2 f itd_rng⟩
  · exact p.elim
theorem di_rng2 (h : DB K mg E tr mr) : DI K mg E (iRng2 tr) (mIR2 mr) := fun C α ow σ ρ H S P X R e hm hx k => h C α ow σ ρ H S _ X _ e hm hx fun d v α1 H1 S1 p f r => by
  have r := r.rs f.st
  unfold asR2 at p
  split at p
  · rename_i q
    rw [q] at r
    obtain ⟨x, y, rfl, hx, hy⟩ := r.two
    rw [hx.intI, hy.intI]
    exact ⟨_, _, rfl, p.1, k _ _ _ H1 _ p.2 f itd_rng⟩
  · exact p.elim
theorem rp_pair {β : BG} {α : List Addr} {A : Addr → Prop} {T : Addr} {x y : V} {d d' : D} (hA : ¬ A T) (h1 : Rp K mg β α (hid A H) x d) (h2 : Rp K mg β α (hid A H) y d') (hT : H T = some (.tup [x, y])) : Rp K mg β α (hid A H) (.ref T) (.tup [d, d']) :=
  .tup (SqT.of (hid_get hA hT)) (by show 2 ≤ sizeLine; decide) (.cons h1 (.cons h2 .nil))
def enumD : Nat → List D → List D
  | _, [] => []
  | i, d :: ds => .tup [.int i, d] :: enumD (i + 1) ds
theorem enumD_get : ∀ {ds : List D} {n i : Nat}, (enumD n ds)[i]? = ds[i]?.map fun d => .tup [.int ((n + i : Nat) : Int), d]
  | [], _, _ => rfl
  | d :: ds, n, 0 => rfl
  | d :: ds, n, i + 1 => by
    show (enumD (n + 1) ds)[i]? = _
    rw [enumD_get, show n + 1 + i = n + (i + 1) by omega]
    rfl
theorem enumD_length : ∀ {ds : List D} {n : Nat}, (enumD n ds).length = ds.length
  | [], _ => rfl
  | d :: ds, n => congrArg Nat.succ enumD_length
def asE (P : List D → Prop) : List D → Prop
  | [.lst ds] => P (enumD 0 ds)
  | _ => False
def mIE (mr : MA) : MI := fun ρ S P X => mr ρ S (fun ds S1 => asE (fun es => P es S1) ds) X
theorem di_enum (h : DA K mg E tr mr) : DI K mg E (iEnum K tr) (mIE mr) := fun C α ow σ ρ H S P X R e hm hx k => h C α ow σ ρ H S _ X _ e hm hx fun d v α1 H1 S1 p f r => by
  unfold asE at p
  split at p
  · cases r with
    | cons r t =>
      cases t
      obtain ⟨a, xs, rfl, h1, h2, h3⟩ := Rp.lstI r
      refine ⟨a, xs, rfl, SqL.of (hid_same _ _ h1), k _ _ _ H1 _ p f ⟨_, _, _, walk_enum, by rw [enumD_length]; exact h3.len, fun A' H' s => SqL.of (hid_same _ _ (s _ _ h1)), fun i x A' H' H'' s hA hi y => ?_⟩⟩
      obtain ⟨T, x1, y1, rfl, hT, rfl, e1, e2⟩ := y
      cases e1
      have sm : Same H' (upd H' T (.tup [.int (i : Nat), y1])) := same_new hT
      refine ⟨sm, fun d hd => ?_⟩
      obtain ⟨d', g1, g2⟩ := h3.get e2
      rw [enumD_get, g1] at hd
      cases hd
      have nT : ¬ A' T := fun z => hA T z hT
      rw [Nat.zero_add]
      exact rp_pair nT (.int _) (g2.same (fun a o q => hid_step sm _ _ (s a o q))) upd_same
  · exact p.elim
end
/-! ### targets -/
def owWipe (ow : OwS) (vs : List Nat) : OwS := fun j => if j ∈ vs then none else ow j
abbrev TgM := D → Env → (Env → Prop) → Prop
abbrev TgMs := List D → Env → (Env → Prop) → Prop
def DG (K : PySem.W.Frag) (mg : Str → Option Value) (E : XK) (g : TG) (f : TgM) (us : List Nat) : Prop := ∀ (C : Cy K mg E) (α : List Addr) (ow : OwS) (σ : L2.St) (ρ : Env) (H : Hp) (S : Sto) (v : V) (d : D) (P : Env → Prop) (Q : L2.St → Hp → Prop),
  Ev C α ow σ ρ H S → Rv C α ow H v d → f d ρ P → (∀ ow' σ' ρ', P ρ' → Ev C α ow' σ' ρ' H S → ow' = owWipe ow us → σ'.length = σ.length → (∀ j, j ∉ us → σ'[j]? = σ[j]?) → Q σ' H) → g v σ H Q
def DGs (K : PySem.W.Frag) (mg : Str → Option Value) (E : XK) (g : TGs) (f : TgMs) (us : List Nat) : Prop := ∀ (C : Cy K mg E) (α : List Addr) (ow : OwS) (σ : L2.St) (ρ : Env) (H : Hp) (S : Sto) (vs : List V) (ds : List D) (P : Env → Prop) (Q : L2.St → Hp → Prop),
  Ev C α ow σ ρ H S → RvAll C α ow H vs ds → f ds ρ P → (∀ ow' σ' ρ', P ρ' → Ev C α ow' σ' ρ' H S → ow' = owWipe ow us → σ'.length = σ.length → (∀ j, j ∉ us → σ'[j]? = σ[j]?) → Q σ' H) → g vs σ H Q
section
variable {K : PySem.W.Frag} {mg : Str → Option Value} {E : XK} {C : Cy K mg E} {α α' : List Addr} {ow ow' : OwS} {σ : L2.St} {ρ : Env} {H H' : Hp} {S S' : Sto}
/-- fewer own objects -/
def OwLe (ow' ow : OwS) : Prop := ∀ i a, ow' i = some a → ow i = some a
theorem OwLe.hd (h : OwLe ow' ow) : ∀ a, C.hd α ow' a → C.hd α ow a := fun a z => by
  rcases z with z | z | ⟨i, z⟩
  · exact .inl z
  · exact .inr (.inl z)
  · exact .inr (.inr ⟨i, h _ _ z⟩)
theorem Rv.le {v : V} {d : D} (h : OwLe ow' ow) (r : Rv C α ow H v d) : Rv C α ow' H v d := Rp.same (hid_mono h.hd) r
theorem RvAll.le {v : List V} {d : List D} (h : OwLe ow' ow) (r : RvAll C α ow H v d) : RvAll C α ow' H v d := RpAll.same (hid_mono h.hd) r
theorem Ow.le {a : Addr} {d : D} (h : OwLe ow' ow) (r : Ow C α ow H a d) : Ow C α ow' H a d := OwB.mono (List.prefix_refl _) (hid_mono h.hd) (fun _ q _ => q) r
theorem StOk.le (h : OwLe ow' ow) (r : StOk C α ow H S) : StOk C α ow' H S := ⟨r.len, r.nd, r.nA, r.nL, fun i a q => r.no i a (h _ _ q), fun i a o h1 h2 => (r.ob i a o h1 h2).mono (List.prefix_refl _) (hid_mono h.hd) fun _ q _ => q⟩
theorem owWipe_le {vs : List Nat} : OwLe (owWipe ow vs) ow := fun j a h => by
  unfold owWipe at h
  split at h
  · cases h
  · exact h
def owDrop (ow : OwS) (i : Nat) : OwS := fun j => if j = i then none else ow j
theorem owDrop_le {i : Nat} : OwLe (owDrop ow i) ow := fun j a h => by
  unfold owDrop at h
  split at h
  · cases h
  · exact h
theorem Ev.le_sl (e : Ev C α ow σ ρ H S) (h : OwLe ow' ow) {j : Nat} (hj : ow' j = ow j) : SlOk C α ow' H (ow' j) σ[j]? ρ[j]? := by
  have q := e.sl j
  rw [hj]
  generalize ow j = w at q
  generalize σ[j]? = s at q
  generalize ρ[j]? = r at q
  cases q with
  | out => exact .out
  | un => exact .un
  | va r => exact .va (r.le h)
  | ow r => exact .ow (r.le h)
theorem SlOk.len {w : Option Addr} {s : Option (Option V)} {r : Option Sl} (h : SlOk C α ow H w s r) : s.isSome = r.isSome := by cases h <;> rfl
theorem Ev.lt (e : Ev C α ow σ ρ H S) {i : Nat} : i < σ.length ↔ i < ρ.length := by
  have h := (e.sl i).len
  constructor
  · intro q
    rw [List.getElem?_eq_getElem q] at h
    cases z : ρ[i]? with
    | none => rw [z] at h; cases h
    | some _ => exact (List.getElem?_eq_some_iff.mp z).1
  · intro q
    rw [List.getElem?_eq_getElem q] at h
    cases z : σ[i]? with
    | none => rw [z] at h; cases h
    | some _ => exact (List.getElem?_eq_some_iff.mp z).1
theorem Ev.set (e : Ev C α ow σ ρ H S) {i : Nat} {v : V} {d : D} (r : Rv C α ow H v d) : Ev C α (owDrop ow i) (σ.set i (some v)) (ρ.set i (.va d)) H S := by
  refine ⟨fun j => ?_, fun j k a h1 h2 => e.inj j k a (owDrop_le _ _ h1) (owDrop_le _ _ h2), fun j a h => e.nA j a (owDrop_le _ _ h), e.fr, e.st.le owDrop_le⟩
  by_cases hj : j = i
  · subst hj
    have ow0 : owDrop ow j j = none := by unfold owDrop; rw [if_pos rfl]
    rw [ow0]
    by_cases hl : j < σ.length
    · rw [List.getElem?_set_self hl, List.getElem?_set_self (e.lt.mp hl)]
      exact .va (r.le owDrop_le)
    · rw [List.getElem?_eq_none (by rw [List.length_set]; omega), List.getElem?_eq_none (by rw [List.length_set]; have := e.lt (i := j); omega)]
      exact .out
  · rw [List.getElem?_set_ne (Ne.symm hj), List.getElem?_set_ne (Ne.symm hj)]
    exact e.le_sl owDrop_le (by unfold owDrop; rw [if_neg hj])
def mName (i : Nat) : TgM := fun d ρ P => P (ρ.set i (.va d))
theorem owDrop_eq {i : Nat} : owDrop ow i = owWipe ow [i] := by
  funext j
  unfold owDrop owWipe
  simp
theorem owWipe_app {us us' : List Nat} : owWipe (owWipe ow us) us' = owWipe ow (us ++ us') := by
  funext j
  unfold owWipe
  by_cases h1 : j ∈ us' <;> by_cases h2 : j ∈ us <;> simp [h1, h2]
theorem dg_name {i : Nat} : DG K mg E (gName i) (mName i) [i] := fun C α ow σ ρ H S v d P Q e r hm k =>
  k _ _ _ hm (e.set r) owDrop_eq (by rw [List.length_set]) fun j hj => List.getElem?_set_ne fun z => hj (by rw [z]; exact List.mem_cons_self ..)
def mgNil : TgMs
  | [], ρ, P => P ρ
  | _, _, _ => False
def mgCons (f : TgM) (f' : TgMs) : TgMs
  | d :: ds, ρ, P => f d ρ fun ρ' => f' ds ρ' P
  | _, _, _ => False
def mgTup (f' : TgMs) : TgM
  | .tup ds, ρ, P => f' ds ρ P
  | _, _, _ => False
theorem dgs_nil : DGs K mg E gNil mgNil [] := fun C α ow σ ρ H S vs ds P Q e r hm k => by
  unfold mgNil at hm
  split at hm
  · cases r
    exact ⟨rfl, k ow σ ρ hm e (by funext j; simp [owWipe]) rfl fun _ _ => rfl⟩
  · exact hm.elim
theorem dgs_cons {g : TG} {f : TgM} {gs : TGs} {f' : TgMs} {us us' : List Nat} (h : DG K mg E g f us) (h' : DGs K mg E gs f' us') : DGs K mg E (gCons g gs) (mgCons f f') (us ++ us') := fun C α ow σ ρ H S vs ds P Q e r hm k => by
  unfold mgCons at hm
  split at hm
  · cases r with
    | cons r t =>
      refine ⟨_, _, rfl, h C α ow σ ρ H S _ _ _ _ e r hm fun ow1 σ1 ρ1 hm1 e1 le1 l1 n1 => ?_⟩
      refine h' C α ow1 σ1 ρ1 H S _ _ _ _ e1 (RvAll.le (by rw [le1]; exact owWipe_le) t) hm1 fun ow2 σ2 ρ2 hm2 e2 le2 l2 n2 => ?_
      exact k ow2 σ2 ρ2 hm2 e2 (by rw [le2, le1, owWipe_app]) (l2.trans l1) fun j hj => (n2 j fun z => hj (List.mem_append_right _ z)).trans (n1 j fun z => hj (List.mem_append_left _ z))
  · exact hm.elim
theorem dg_tup {gs : TGs} {f' : TgMs} {us : List Nat} {n : Nat} (h : DGs K mg E gs f' us) (hn : ∀ ds ρ P, f' ds ρ P → ds.length = n) : DG K mg E (gTup K n gs) (mgTup f') us := fun C α ow σ ρ H S v d P Q e r hm k => by
  unfold mgTup at hm
  split at hm
  · obtain ⟨a, xs, rfl, h1, h2, h3⟩ := Rp.tupI r
    exact ⟨a, xs, rfl, Same.tup hid_same h1, h3.len.trans (hn _ _ _ hm), h C α ow σ ρ H S _ _ _ _ e h3 hm k⟩
  · exact hm.elim
theorem mgn_nil : ∀ ds ρ P, mgNil ds ρ P → ds.length = 0 := fun ds ρ P h => by
  unfold mgNil at h
  split at h
  · rfl
  · exact h.elim
theorem mgn_cons {f : TgM} {n : Nat} {f' : TgMs} (h : ∀ ds ρ P, f' ds ρ P → ds.length = n) (hf : ∀ d ρ P, f d ρ P → ∃ ρ', P ρ') : ∀ ds ρ P, mgCons f f' ds ρ P → ds.length = n + 1 := fun ds ρ P q => by
  unfold mgCons at q
  split at q
  · obtain ⟨ρ', q⟩ := hf _ _ _ q
    exact congrArg Nat.succ (h _ _ _ q)
  · exact q.elim
theorem mgp_name {i : Nat} : ∀ d ρ P, mName i d ρ P → ∃ ρ', P ρ' := fun _ _ _ h => ⟨_, h⟩
theorem mgp_nil : ∀ d ρ P, mgNil d ρ P → ∃ ρ', P ρ' := fun _ _ _ h => by
  unfold mgNil at h
  split at h
  · exact ⟨_, h⟩
  · exact h.elim
theorem mgp_cons {f : TgM} {f' : TgMs} (h : ∀ d ρ P, f d ρ P → ∃ ρ', P ρ') (h' : ∀ d ρ P, f' d ρ P → ∃ ρ', P ρ') : ∀ d ρ P, mgCons f f' d ρ P → ∃ ρ', P ρ' := fun _ _ _ q => by
  unfold mgCons at q
  split at q
  · obtain ⟨_, q⟩ := h _ _ _ q
    exact h' _ _ _ q
  · exact q.elim
theorem mgp_tup {f' : TgMs} (h' : ∀ d ρ P, f' d ρ P → ∃ ρ', P ρ') : ∀ d ρ P, mgTup f' d ρ P → ∃ ρ', P ρ' := fun _ _ _ q => by
  unfold mgTup at q
  split at q
  · exact h' _ _ _ q
  · exact q.elim
end
/-! ### comprehensions -/
section
variable {K : PySem.W.Frag} {mg : Str → Option Value} {E : XK} {C : Cy K mg E} {α α' : List Addr} {ow ow' : OwS} {σ : L2.St} {ρ : Env} {H H' : Hp} {S S' : Sto}
variable {te : TE} {me : ME} {tt : TT} {mt : MT} {g : TG} {f : TgM} {us vs : List Nat} {wi : TI} {mi : MI}
def wipeD (ρ : Env) : List Nat → Env
  | [] => ρ
  | v :: vs => (wipeD ρ vs).set v .un
def noX : Ex → Sto → Prop := fun _ _ => False
def lcD (f : TgM) (mt : MT) (me : ME) (ρ : Env) : List D → List D → Sto → (List D → Sto → Prop) → Prop
  | [], acc, S, P => P acc S
  | d :: ds, acc, S, P => f d ρ fun ρ2 => mt ρ2 S (fun b S1 => if b = true then me ρ2 S1 (fun y S2 => lcD f mt me ρ ds (acc ++ [y]) S2 P) noX else lcD f mt me ρ ds acc S1 P) noX
def isOw : Option Sl → Bool
  | some (.ow _) => true
  | _ => false
def mLc (mi : MI) (f : TgM) (mt : MT) (me : ME) (vs : List Nat) : ME := fun ρ S P X => (∀ j ∈ vs, isOw ρ[j]? = false) ∧ mi ρ S (fun ds S1 => ds.length ≤ sizeLine ∧ lcD f mt me (wipeD ρ vs) ds [] S1 fun out S2 => P (.lst out) S2) X
def mYes : MT := fun _ S P _ => P true S
theorem dt_yes : DT K mg E tYes mYes := fun C α ow σ ρ H S P X Q e hm hx k => k _ α H S hm e.go
theorem wipe_get {σ : L2.St} : ∀ {vs : List Nat} {j : Nat}, (wipe σ vs)[j]? = if j ∈ vs then σ[j]?.map fun _ => none else σ[j]?
  | [], j => by simp [wipe]
  | v :: vs, j => by
    show ((wipe σ vs).set v none)[j]? = _
    by_cases h : v = j
    · subst h
      rw [if_pos (List.mem_cons_self ..)]
      by_cases hl : v < (wipe σ vs).length
      · rw [List.getElem?_set_self hl]
        rw [wipe_length] at hl
        rw [List.getElem?_eq_getElem hl]
        rfl
      · rw [List.getElem?_eq_none (by rw [List.length_set]; omega)]
        rw [wipe_length] at hl
        rw [List.getElem?_eq_none (by omega)]
        rfl
    · rw [List.getElem?_set_ne h, wipe_get]
      by_cases hm : j ∈ vs
      · rw [if_pos hm, if_pos (List.mem_cons_of_mem _ hm)]
      · rw [if_neg hm, if_neg (by simp [Ne.symm h, hm])]
theorem wipeD_length (ρ : Env) : ∀ vs : List Nat, (wipeD ρ vs).length = ρ.length
  | [] => rfl
  | v :: vs => by unfold wipeD; rw [List.length_set, wipeD_length ρ vs]
theorem wipeD_get {ρ : Env} : ∀ {vs : List Nat} {j : Nat}, (wipeD ρ vs)[j]? = if j ∈ vs then ρ[j]?.map fun _ => .un else ρ[j]?
  | [], j => by simp [wipeD]
  | v :: vs, j => by
    show ((wipeD ρ vs).set v .un)[j]? = _
    by_cases h : v = j
    · subst h
      rw [if_pos (List.mem_cons_self ..)]
      by_cases hl : v < (wipeD ρ vs).length
      · rw [List.getElem?_set_self hl]
        rw [wipeD_length] at hl
        rw [List.getElem?_eq_getElem hl]
        rfl
      · rw [List.getElem?_eq_none (by rw [List.length_set]; omega)]
        rw [wipeD_length] at hl
        rw [List.getElem?_eq_none (by omega)]
        rfl
    · rw [List.getElem?_set_ne h, wipeD_get]
      by_cases hm : j ∈ vs
      · rw [if_pos hm, if_pos (List.mem_cons_of_mem _ hm)]
      · rw [if_neg hm, if_neg (by simp [Ne.symm h, hm])]
theorem Ev.wipe (e : Ev C α ow σ ρ H S) (vs : List Nat) : Ev C α (owWipe ow vs) (L2.wipe σ vs) (wipeD ρ vs) H S := by
  refine ⟨fun j => ?_, fun j k a h1 h2 => e.inj j k a (owWipe_le _ _ h1) (owWipe_le _ _ h2), fun j a h => e.nA j a (owWipe_le _ _ h), e.fr, e.st.le owWipe_le⟩
  by_cases hj : j ∈ vs
  · have ow0 : owWipe ow vs j = none := by unfold owWipe; rw [if_pos hj]
    rw [ow0, wipe_get, wipeD_get, if_pos hj, if_pos hj]
    have q := (e.sl j).len
    cases hs : σ[j]? with
    | none =>
      rw [hs] at q
      cases hr : ρ[j]? with
      | none => exact .out
      | some _ => rw [hr] at q; cases q
    | some s =>
      rw [hs] at q
      cases hr : ρ[j]? with
      | none => rw [hr] at q; cases q
      | some _ => exact .un
  · rw [wipe_get, wipeD_get, if_neg hj, if_neg hj]
    exact e.le_sl owWipe_le (by unfold owWipe; rw [if_neg hj])
theorem wipe_eq {σ σ2 : L2.St} {vs us : List Nat} (hu : ∀ i ∈ us, i ∈ vs) (hl : σ2.length = (wipe σ vs).length) (h : ∀ j, j ∉ us → σ2[j]? = (wipe σ vs)[j]?) : wipe σ2 vs = wipe σ vs := by
  refine List.ext_getElem? fun j => ?_
  rw [wipe_get]
  by_cases hj : j ∈ vs
  · rw [if_pos hj]
    rw [wipe_length] at hl
    rw [wipe_get, if_pos hj]
    by_cases hlt : j < σ.length
    · rw [List.getElem?_eq_getElem hlt, List.getElem?_eq_getElem (by omega)]; rfl
    · rw [List.getElem?_eq_none (by omega), List.getElem?_eq_none (by omega)]
  · rw [if_neg hj, h j fun z => hj (hu j z)]
end
section
variable {K : PySem.W.Frag} {mg : Str → Option Value} {E E' : XK} {C : Cy K mg E} {α α' : List Addr} {ow ow' : OwS} {σ : L2.St} {ρ : Env} {H H' : Hp} {S S' : Sto}
variable {te : TE} {me : ME} {tt : TT} {mt : MT} {g : TG} {f : TgM} {us vs : List Nat} {wi : TI} {mi : MI}
theorem Ev.noOw (e : Ev C α ow σ ρ H S) (h : ∀ j ∈ vs, isOw ρ[j]? = false) : owWipe ow vs = ow := by
  funext j
  unfold owWipe
  split
  · have q := e.sl j
    have h1 := h j ‹_›
    generalize ow j = w at q ⊢
    generalize σ[j]? = s at q
    generalize ρ[j]? = r at q h1
    cases q <;> first | rfl | cases h1
  · rfl
/-- a new thing, hidden too -/
theorem enterS {C : Cy K mg E} {p : Addr} {H1 : Hp} {α1 : List Addr} (hp : H p = none) (f : Fr C.β α H α1 H1) : Same (hid (C.hd α ow) H) (hid (fun a => C.hd α1 ow a ∨ a = p) H1) := fun a o q => by
  have h := hid_fr (C := C) (ow := ow) f a o q
  obtain ⟨h1, h2⟩ := hid_some h
  refine hid_get ?_ h2 (hid_nt h)
  · rintro (z | z)
    · exact h1 z
    · obtain ⟨_, q2⟩ := hid_some q
      rw [z, hp] at q2
      cases q2
/-- within a comprehension: what is made is hidden, too -/
def Ev.inLc (e : Ev C α ow σ ρ H S) (p : Addr) (h : H p ≠ none) (E' : XK) : Cy K mg E' := ⟨C.β, fun a => C.A a ∨ a = p, H, α, e.bg, fun b l ns q => .inl (C.hb b l ns q), fun a z => z.elim (fun z => e.stands (.inl z)) fun z => by rw [z]; exact h, fun a m => e.stands (.inr (.inl m))⟩
theorem inLc_hd {C1 : Cy K mg E'} {p : Addr} (hA : C1.A = fun a => C.A a ∨ a = p) {α1 : List Addr} : C1.hd α1 ow = fun a => C.hd α1 ow a ∨ a = p := by
  funext a
  unfold Cy.hd
  rw [hA]
  refine propext ⟨?_, ?_⟩
  · rintro ((h | h) | h | h)
    · exact .inl (.inl h)
    · exact .inr h
    · exact .inl (.inr (.inl h))
    · exact .inl (.inr (.inr h))
  · rintro ((h | h | h) | h)
    · exact .inl (.inl h)
    · exact .inr (.inl h)
    · exact .inr (.inr h)
    · exact .inl (.inr h)
theorem lc_run (hi : DI K mg E wi mi) (hg : DG K mg E' g f us) (hu : ∀ i ∈ us, i ∈ vs) (ht : DT K mg E' tt mt) (he : DE K mg E' te me) (C : Cy K mg E) (α : List Addr) (ow : OwS) (σ : L2.St) (ρ : Env) (H : Hp) (S : Sto) (P : D → Sto → Prop) (X : Ex → Sto → Prop) (Q : VK)
    (e : Ev C α ow σ ρ H S) (hm : mLc mi f mt me vs ρ S P X) (hx : XOk C X)
    (k : ∀ dacc acc p α' H' S', P (.lst dacc) S' → Go C ow α H α' H' S' → H p = none → p ∉ α' → H' p = some (.lst acc) → acc.length ≤ sizeLine → RpAll K mg C.β α' (hid (fun a => C.hd α' ow a ∨ a = p) H') acc dacc → (∀ (i : Nat) (a : Addr) (o : Ob), α'[i]? = some a → S'[i]? = some o → ObOk K mg C.β α' (fun a => C.hd α' ow a ∨ a = p) H' a o) → Q (.ref p) H') : tLc wi g tt te vs σ H Q := by
  obtain ⟨hn, hm⟩ := hm
  refine hi C α ow σ ρ H S _ X _ e hm hx fun ds J α1 H1 S1 hm1 f1 it p hp => ?_
  obtain ⟨hz, hm1⟩ := hm1
  have e1 := e.step f1
  obtain ⟨n, G, Y, wk, hnl, hG, hY⟩ := it
  have wp : owWipe ow vs = ow := e1.noOw hn
  have ew : Ev C α1 ow (wipe σ vs) (wipeD ρ vs) H1 S1 := by have := e1.wipe vs; rwa [wp] at this
  have g0 : Go C ow α1 H1 α1 (upd H1 p (.lst [])) S1 := e1.nw hp
  have np1 : p ∉ α1 := fun z => e1.stands (.inr (.inl z)) hp
  refine ⟨fun i m H' => m = n - i ∧ i ≤ n ∧ ∃ acc dacc α' S', H' p = some (.lst acc) ∧ acc.length ≤ i ∧ p ∉ α' ∧ RpAll K mg C.β α' (hid (fun a => C.hd α' ow a ∨ a = p) H') acc dacc ∧ Fr C.β α1 H1 α' H' ∧ StOk C α' ow H' S' ∧ (∀ (i : Nat) (a : Addr) (o : Ob), α'[i]? = some a → S'[i]? = some o → ObOk K mg C.β α' (fun a => C.hd α' ow a ∨ a = p) H' a o) ∧ lcD f mt me (wipeD ρ vs) (ds.drop i) dacc S' fun out S2 => P (.lst out) S2, ⟨n, by simp, Nat.zero_le _, [], [], α1, S1, upd_same, Nat.zero_le _, np1, .nil, g0.fr, g0.st, fun i a o h1 h2 => (e1.st.ob i a o h1 h2).mono (List.prefix_refl _) (enterS hp g0.fr) fun o q _ => by rw [upd_ne (fun z => by rw [z, hp] at q; cases q)]; exact q, hm1⟩, ?_⟩
  rintro i m H' ⟨rfl, hi, acc, dacc, α', S', hacc, hal, np', hr, fr, sto, obs, hl⟩
  have hst : H' p ≠ none := by rw [hacc]; simp
  have sm : Same (hid (C.hd α1 ow) H1) (hid (fun a => C.hd α' ow a ∨ a = p) H') := enterS hp fr
  by_cases hlt : i < n
  · refine .inr ⟨wk.goes i H' hlt (hG _ _ sm), fun H4 => ∃ acc dacc α' S', H4 p = some (.lst acc) ∧ acc.length ≤ i + 1 ∧ p ∉ α' ∧ RpAll K mg C.β α' (hid (fun a => C.hd α' ow a ∨ a = p) H4) acc dacc ∧ Fr C.β α1 H1 α' H4 ∧ StOk C α' ow H4 S' ∧ (∀ (i : Nat) (a : Addr) (o : Ob), α'[i]? = some a → S'[i]? = some o → ObOk K mg C.β α' (fun a => C.hd α' ow a ∨ a = p) H4 a o) ∧ lcD f mt me (wipeD ρ vs) (ds.drop (i + 1)) dacc S' fun out S2 => P (.lst out) S2, fun H4 p4 => ⟨n - (i + 1), by omega, rfl, hlt, p4⟩, fun x H2 y => ?_⟩
    have eM : Ev C α' ow (wipe σ vs) (wipeD ρ vs) H' S' := ew.step ⟨fr, sto⟩
    let C1 : Cy K mg E' := ⟨C.β, fun a => C.A a ∨ a = p, H', α', eM.bg, fun b l ns q => .inl (C.hb b l ns q), fun a z => z.elim (fun z => eM.stands (.inl z)) fun z => by rw [z]; exact hst, fun a m => eM.stands (.inr (.inl m))⟩
    have hA1 : ∀ α2, C1.hd α2 ow = fun a => C.hd α2 ow a ∨ a = p := fun α2 => inLc_hd (C := C) rfl
    have e2 : Ev C1 α' ow (wipe σ vs) (wipeD ρ vs) H' S' := by
      refine ⟨fun j => ?_, ew.inj, fun j a h z => ?_, Fr.refl eM.bg, ⟨sto.len, sto.nd, fun a m z => z.elim (sto.nA a m) fun z => np' (by rw [← z]; exact m), sto.nL, sto.no, fun j a o h1 h2 => by rw [hA1]; exact obs j a o h1 h2⟩⟩
      · have q := ew.sl j
        generalize hw : ow j = w at q ⊢
        generalize (wipe σ vs)[j]? = s at q ⊢
        generalize (wipeD ρ vs)[j]? = r at q ⊢
        cases q with
        | out => exact .out
        | un => exact .un
        | va r => exact .va (by unfold Rv; rw [hA1]; exact Rp.mono fr.pre sm r)
        | ow r => exact .ow (by unfold Ow; rw [hA1]; exact OwB.mono fr.pre sm (fun _ ho nt => ew.get fr hw ho nt) r)
      · rcases z with z | z
        · exact eM.nA j a h z
        · rw [z] at h; exact ew.stands (.inr (.inr ⟨j, h⟩)) hp
    have yy := wk.yields i H' x H2 hlt (hG _ _ sm) y
    have hdi : i < ds.length := by omega
    obtain ⟨s2, rx⟩ := hY i x (C1.hd α' ow) H' H2 (by rw [hA1]; exact sm) (fun a z => e2.stands z) hlt yy
    have rx := Rp.mono fr.pre (Same.refl _) (rx _ (List.getElem?_eq_getElem hdi))
    rw [List.drop_eq_getElem_cons hdi] at hl
    have g2 := e2.sm s2
    have e3 := e2.step g2
    refine hg C1 α' ow _ _ H2 S' x _ _ _ e3 rx hl fun ow2 σ2 ρ2 hm2 ev2 how hlen hsl => ⟨wipe_eq hu hlen hsl, ?_⟩
    have how2 : ow2 = ow := by
      rw [how]
      exact ew.noOw (vs := us) fun j hj => by
        rw [wipeD_get, if_pos (hu j hj)]
        cases ρ[j]? <;> rfl
    subst how2
    have nbp : NoBg C.β p := fun b l ns q z => by
      obtain ⟨_, w⟩ := (e1.bg.bag b l ns q).here
      rw [← z, hp] at w; cases w
    have keepD : ∀ {αa αb : List Addr} {Ha Hb : Hp}, p ∉ αa → Fr C.β αa Ha αb Hb → Ha p = some (.lst acc) → Hb p = some (.lst acc) := fun n f h => f.keep p _ nbp n h (by intro _ z; cases z)
    have hD2 : H2 p = some (.lst acc) := s2 _ _ hacc
    refine ht C1 α' ow2 σ2 ρ2 H2 S' _ noX _ ev2 hm2 (fun _ _ _ _ _ _ z => z.elim) fun b α3 H3 S3 hm3 g3 => ?_
    have np3 : p ∉ α3 := fun z => (g3.st.nA p z) (.inr rfl)
    have hD3 := keepD np' g3.fr hD2
    have g13 := g2.trans g3
    have accAt : ∀ {αb : List Addr} {Hb : Hp}, Fr C.β α' H' αb Hb → RpAll K mg C.β αb (hid (fun a => C.hd αb ow2 a ∨ a = p) Hb) acc dacc := fun f => by
      have := hid_fr (C := C1) (ow := ow2) f
      rw [hA1, hA1] at this
      exact RpAll.mono f.pre this hr
    have unst : ∀ {αb : List Addr} {Hb : Hp} {Sb : Sto}, StOk C1 αb ow2 Hb Sb → StOk C αb ow2 Hb Sb ∧ (∀ (i : Nat) (a : Addr) (o : Ob), αb[i]? = some a → Sb[i]? = some o → ObOk K mg C.β αb (fun a => C.hd αb ow2 a ∨ a = p) Hb a o) := fun {αb Hb Sb} h => by
      have ho : ∀ (i : Nat) (a : Addr) (o : Ob), αb[i]? = some a → Sb[i]? = some o → ObOk K mg C.β αb (fun a => C.hd αb ow2 a ∨ a = p) Hb a o := fun i a o h1 h2 => by have := h.ob i a o h1 h2; rw [hA1] at this; exact this
      exact ⟨⟨h.len, h.nd, fun a m z => h.nA a m (.inl z), h.nL, h.no, fun i a o h1 h2 => (ho i a o h1 h2).mono (List.prefix_refl _) (hid_mono fun a z => .inl z) fun _ q _ => q⟩, ho⟩
    cases b with
    | false =>
      rw [if_neg Bool.false_ne_true] at hm3 ⊢
      obtain ⟨st3, ob3⟩ := unst g3.st
      exact ⟨acc, dacc, α3, S3, hD3, by omega, np3, accAt g13.fr, fr.trans g13.fr, st3, ob3, hm3⟩
    | true =>
      rw [if_pos rfl] at hm3 ⊢
      refine he C1 α3 ow2 σ2 ρ2 H3 S3 _ noX _ (ev2.step g3) hm3 (fun _ _ _ _ _ _ z => z.elim) fun yd yv α4 H4 S4 hm4 g4 r4 => ?_
      have np4 : p ∉ α4 := fun z => (g4.st.nA p z) (.inr rfl)
      have hD4 := keepD np3 g4.fr hD3
      have gA := g13.trans g4
      obtain ⟨st4, ob4⟩ := unst g4.st
      have hsame : Same (hid (fun a => C.hd α4 ow2 a ∨ a = p) H4) (hid (fun a => C.hd α4 ow2 a ∨ a = p) (upd H4 p (.lst (acc ++ [yv])))) := fun a o q => by
        obtain ⟨q1, q2⟩ := hid_some q
        exact hid_get q1 (by rw [upd_ne fun z => q1 (.inr z)]; exact q2) (hid_nt q)
      have r4' : Rp K mg C.β α4 (hid (fun a => C.hd α4 ow2 a ∨ a = p) H4) yv yd := by
        unfold Rv at r4
        rw [hA1] at r4
        exact r4
      have obn : ∀ (i : Nat) (a : Addr) (o : Ob), α4[i]? = some a → S4[i]? = some o → ObOk K mg C.β α4 (fun a => C.hd α4 ow2 a ∨ a = p) (upd H4 p (.lst (acc ++ [yv]))) a o := fun i a o h1 h2 => (ob4 i a o h1 h2).mono (List.prefix_refl _) hsame fun o q _ => by
        rw [upd_ne (fun z => np4 (by rw [← z]; exact List.mem_of_getElem? h1))]; exact q
      refine ⟨acc, hD4, by omega, acc ++ [yv], dacc ++ [yd], α4, S4, upd_same, by rw [List.length_append]; exact Nat.succ_le_succ hal, np4, ?_, (fr.trans gA.fr).mut hp (tabs_lst gA.fr.bag.tab hD4), ⟨st4.len, st4.nd, st4.nA, st4.nL, st4.no, fun i a o h1 h2 => (obn i a o h1 h2).mono (List.prefix_refl _) (hid_mono fun a z => .inl z) fun _ q _ => q⟩, obn, hm4⟩
      exact (RpAll.same hsame (accAt gA.fr)).append (.cons (Rp.same hsame r4') .nil)
  · have hin : i = n := by omega
    subst hin
    refine .inl ⟨wk.stops H' (hG _ _ sm), ?_⟩
    rw [List.drop_of_length_le (by omega)] at hl
    exact k _ _ _ _ _ _ hl (f1.trans ⟨fr, sto⟩) (f1.fr.none_ahead hp) np' hacc (by omega) hr obs
theorem de_lc (hi : DI K mg E wi mi) (hg : DG K mg E' g f us) (hu : ∀ i ∈ us, i ∈ vs) (ht : DT K mg E' tt mt) (he : DE K mg E' te me) : DE K mg E (tLc wi g tt te vs) (mLc mi f mt me vs) := fun C α ow σ ρ H S P X Q e hm hx k =>
  lc_run hi hg hu ht he C α ow σ ρ H S P X Q e hm hx fun dacc acc p α' H' S' pd g hp np hacc hz r _ => k _ _ _ _ _ pd g (.lst (hid_get (fun z => (z.elim (fun z => e.stands (.inl z) hp) fun z => z.elim np fun ⟨i, z⟩ => e.stands (.inr (.inr ⟨i, z⟩)) hp)) hacc) hz (RpAll.same (hid_mono fun a z => .inl z) r))
end
end Nc

namespace Nc
open PySem PySem.Spec PyProof.Rows L2
/-! ## statements, on data -/
structure Pn where
  nx : Env → Sto → Prop
  rt : D → Sto → Prop
  bk : Env → Sto → Prop
  ct : Env → Sto → Prop
  ex : Ex → Sto → Prop
section
variable {K : PySem.W.Frag} {mg : Str → Option Value} {E : XK}
/-- own objects are new -/
def Nw (C : Cy K mg E) (ow : OwS) : Prop := ∀ i a, ow i = some a → C.H0 a = none
/-- what stood for a datum goes on to do so -/
structure Aft (C : Cy K mg E) (α : List Addr) (ow : OwS) (H : Hp) (α' : List Addr) (ow' : OwS) (H' : Hp) : Prop where
  pre : α <+: α'
  sm : Same (hid (C.hd α ow) H) (hid (C.hd α' ow') H')
structure EndOk (F : Bool) (C : Cy K mg E) (α : List Addr) (ow : OwS) (H : Hp) (e : Pn) (Dn : Ends) : Prop where
  nx : ∀ α' ow' σ' ρ' H' S', e.nx ρ' S' → Ev C α' ow' σ' ρ' H' S' → Nw C ow' → Aft C α ow H α' ow' H' → Dn.nx σ' H'
  bk : ∀ α' ow' σ' ρ' H' S', e.bk ρ' S' → Ev C α' ow' σ' ρ' H' S' → Nw C ow' → Aft C α ow H α' ow' H' → Dn.bk σ' H'
  ct : ∀ α' ow' σ' ρ' H' S', e.ct ρ' S' → Ev C α' ow' σ' ρ' H' S' → Nw C ow' → Aft C α ow H α' ow' H' → Dn.ct σ' H'
  rt : F = false → ∀ d v α' H' S', e.rt d S' → Go C ow0 C.α0 C.H0 α' H' S' → Rv C α' ow0 H' v d → Dn.rt v H'
  rf : F = true → ∀ d p α' H' S', e.rt d S' → Go C ow0 C.α0 C.H0 α' H' S' → C.H0 p = none → Nu K mg C.β (C.hd α' ow0) α' H' S' p d → Dn.rt (.ref p) H'
  ex : XOk C e.ex
end
abbrev MS := Env → Sto → Pn → Prop
def DS (K : PySem.W.Frag) (mg : Str → Option Value) (E : XK) (F : Bool) (t : TS) (m : MS) : Prop := ∀ (C : Cy K mg E) (α : List Addr) (ow : OwS) (σ : L2.St) (ρ : Env) (H : Hp) (S : Sto) (e : Pn) (Dn : Ends),
  Ev C α ow σ ρ H S → Nw C ow → m ρ S e → EndOk F C α ow H e Dn → t Dn σ H
section
variable {K : PySem.W.Frag} {mg : Str → Option Value} {E : XK} {C : Cy K mg E} {α α' α1 : List Addr} {ow ow' ow1 : OwS} {σ : L2.St} {ρ : Env} {H H' H1 : Hp} {S S' S1 : Sto} {e : Pn} {Dn : Ends} {F : Bool}
variable {te : TE} {me : ME} {tt : TT} {mt : MT} {g : TG} {f : TgM} {us vs : List Nat} {wi : TI} {mi : MI} {t u : TS} {m m' : MS}
theorem Aft.refl : Aft C α ow H α ow H := ⟨List.prefix_refl _, Same.refl _⟩
theorem Aft.trans (a : Aft C α ow H α1 ow1 H1) (b : Aft C α1 ow1 H1 α' ow' H') : Aft C α ow H α' ow' H' := ⟨a.pre.trans b.pre, a.sm.trans b.sm⟩
theorem Go.aft (g : Go C ow α H α' H' S') : Aft C α ow H α' ow H' := ⟨g.fr.pre, hid_fr g.fr⟩
theorem OwLe.aft (h : OwLe ow' ow) : Aft C α ow H α ow' H := ⟨List.prefix_refl _, hid_mono h.hd⟩
theorem EndOk.later (k : EndOk F C α ow H e Dn) (s : Aft C α ow H α' ow' H') : EndOk F C α' ow' H' e Dn :=
  ⟨fun a b c d f g x y z w => k.nx a b c d f g x y z (s.trans w), fun a b c d f g x y z w => k.bk a b c d f g x y z (s.trans w), fun a b c d f g x y z w => k.ct a b c d f g x y z (s.trans w), k.rt, k.rf, k.ex⟩
def kSeq (m m' : MS) : MS := fun ρ S e => m ρ S { e with nx := fun ρ' S' => m' ρ' S' e }
theorem ds_seq (h : DS K mg E F t m) (h' : DS K mg E F u m') : DS K mg E F (tSeq t u) (kSeq m m') := fun C α ow σ ρ H S e Dn ev nw hm k =>
  h C α ow σ ρ H S _ _ ev nw hm ⟨fun α' ow' σ' ρ' H' S' p ev' nw' s => h' C α' ow' σ' ρ' H' S' e Dn ev' nw' p (k.later s), k.bk, k.ct, k.rt, k.rf, k.ex⟩
def kNext : MS := fun ρ S e => e.nx ρ S
theorem ds_next : DS K mg E F tNext kNext := fun C α ow σ ρ H S e Dn ev nw hm k => k.nx α ow σ ρ H S hm ev nw Aft.refl
def kBreak : MS := fun ρ S e => e.bk ρ S
def kCont : MS := fun ρ S e => e.ct ρ S
theorem ds_break : DS K mg E F tBreak kBreak := fun C α ow σ ρ H S e Dn ev nw hm k => k.bk α ow σ ρ H S hm ev nw Aft.refl
theorem ds_cont : DS K mg E F tCont kCont := fun C α ow σ ρ H S e Dn ev nw hm k => k.ct α ow σ ρ H S hm ev nw Aft.refl
def kNever : MS := fun _ _ _ => False
theorem ds_never : DS K mg E F tNever kNever := fun C α ow σ ρ H S e Dn ev nw hm k => hm.elim
def kAsg (me : ME) (f : TgM) : MS := fun ρ S e => me ρ S (fun d S1 => f d ρ fun ρ' => e.nx ρ' S1) e.ex
theorem ds_asg (h : DE K mg E te me) (hg : DG K mg E g f us) : DS K mg E F (tAsg te g) (kAsg me f) := fun C α ow σ ρ H S e Dn ev nw hm k =>
  h C α ow σ ρ H S _ _ _ ev hm k.ex fun d v α1 H1 S1 p fr r => hg C α1 ow σ ρ H1 S1 v d _ _ (ev.step fr) r p fun ow' σ' ρ' p' ev' how _ _ =>
    k.nx α1 ow' σ' ρ' H1 S1 p' ev' (fun i a q => nw i a (by rw [how] at q; exact owWipe_le _ _ q)) (fr.aft.trans (OwLe.aft (by rw [how]; exact owWipe_le)))
def kRet (me : ME) : MS := fun ρ S e => me ρ S e.rt e.ex
theorem ds_ret (h : DE K mg E te me) : DS K mg E false (tRet te) (kRet me) := fun C α ow σ ρ H S e Dn ev nw hm k =>
  h C α ow σ ρ H S _ _ _ ev hm k.ex fun d v α1 H1 S1 p fr r => k.rt rfl d v α1 H1 S1 p ((ev.step fr).go0) r.out
def kRetN : MS := fun _ S e => e.rt .non S
theorem ds_retN : DS K mg E false tRetN kRetN := fun C α ow σ ρ H S e Dn ev nw hm k => k.rt rfl .non .non α H S hm ev.go0 .non
def kDrop (me : ME) : MS := fun ρ S e => me ρ S (fun _ S1 => e.nx ρ S1) e.ex
theorem ds_drop (h : DE K mg E te me) : DS K mg E F (tDrop te) (kDrop me) := fun C α ow σ ρ H S e Dn ev nw hm k =>
  h C α ow σ ρ H S _ _ _ ev hm k.ex fun d v α1 H1 S1 p fr r => k.nx α1 ow σ ρ H1 S1 p (ev.step fr) nw fr.aft
def kIf (mt : MT) (m m' : MS) : MS := fun ρ S e => mt ρ S (fun b S1 => if b = true then m ρ S1 e else m' ρ S1 e) e.ex
theorem ds_if (ht : DT K mg E tt mt) (h : DS K mg E F t m) (h' : DS K mg E F u m') : DS K mg E F (tIfS tt t u) (kIf mt m m') := fun C α ow σ ρ H S e Dn ev nw hm k =>
  ht C α ow σ ρ H S _ _ _ ev hm k.ex fun b α1 H1 S1 p fr => by
    cases b with
    | true => rw [if_pos rfl] at p ⊢; exact h C α1 ow σ ρ H1 S1 e Dn (ev.step fr) nw p (k.later fr.aft)
    | false => rw [if_neg Bool.false_ne_true] at p ⊢; exact h' C α1 ow σ ρ H1 S1 e Dn (ev.step fr) nw p (k.later fr.aft)
/-! own objects -/
/-- a new object, leant on by nothing -/
def DF (K : PySem.W.Frag) (mg : Str → Option Value) (E : XK) (t : TE) (m : ME) : Prop := ∀ (C : Cy K mg E) (α : List Addr) (ow : OwS) (σ : L2.St) (ρ : Env) (H : Hp) (S : Sto) (P : D → Sto → Prop) (X : Ex → Sto → Prop) (Q : VK),
  Ev C α ow σ ρ H S → m ρ S P X → XOk C X → (∀ d p α' H' S', P d S' → Go C ow α H α' H' S' → H p = none → Nu K mg C.β (C.hd α' ow) α' H' S' p d → Q (.ref p) H') → t σ H Q
theorem rvAll_beside {vs : List V} {ds : List D} {p : Addr} {o : HO} (h : H p = none) (r : RvAll C α ow H vs ds) {B : Addr → Prop} (hw : ∀ a, B a → C.hd α ow a ∨ a = p) : RpAll K mg C.β α (hid B (upd H p o)) vs ds := RpAll.same (fun a o' q => by
  obtain ⟨q1, q2⟩ := hid_some q
  have hne : a ≠ p := fun z => by rw [z, h] at q2; cases q2
  exact hid_get (fun z => (hw a z).elim q1 hne) (by rw [upd_ne hne]; exact q2) (hid_nt q)) r
theorem Ev.os (ev : Ev C α ow σ ρ H S) {p : Addr} {o : HO} (h : H p = none) : ∀ (i : Nat) (a : Addr) (u : Ob), α[i]? = some a → S[i]? = some u → ObOk K mg C.β α (fun a => C.hd α ow a ∨ a = p) (upd H p o) a u := fun i a u h1 h2 =>
  (ev.st.ob i a u h1 h2).mono (List.prefix_refl _) (enterS h (ev.nw h).fr) fun o q _ => by rw [upd_ne (fun z => by rw [z, h] at q; cases q)]; exact q
theorem Ev.npα (ev : Ev C α ow σ ρ H S) {p : Addr} (h : H p = none) : p ∉ α := fun z => ev.stands (.inr (.inl z)) h
theorem df_lc {E' : XK} (hi : DI K mg E wi mi) (hg : DG K mg E' g f us) (hu : ∀ i ∈ us, i ∈ vs) (ht : DT K mg E' tt mt) (he : DE K mg E' te me) : DF K mg E (tLc wi g tt te vs) (mLc mi f mt me vs) := fun C α ow σ ρ H S P X Q e hm hx k =>
  lc_run hi hg hu ht he C α ow σ ρ H S P X Q e hm hx fun dacc acc p α' H' S' pd fr hp np hacc hz r os => k _ _ _ _ _ pd fr hp ⟨np, fun B hw => .lst hacc hz (RpAll.same (hid_mono fun a z => hw a z) r), os⟩
theorem df_lst {tr : TA} {mr : MA} (h : DA K mg E tr mr) : DF K mg E (tLst tr) (mLst mr) := fun C α ow σ ρ H S P X Q e hm hx k =>
  h C α ow σ ρ H S _ X _ e hm hx fun ds vs α1 H1 S1 hm1 f1 r1 => ⟨by rw [r1.len]; exact hm1.1, fun p hp => k _ p _ _ _ hm1.2 (f1.trans ((e.step f1).nw hp)) (f1.fr.none_ahead hp) ⟨(e.step f1).npα hp, fun B hw => .lst upd_same (by rw [r1.len]; exact hm1.1) (rvAll_beside hp r1 hw), (e.step f1).os hp⟩⟩
theorem df_listOf {tr : TA} {mr : MA} (h : DB K mg E tr mr) : DF K mg E (tCB (rListOf K) tr) (mCB fListOf mr) := fun C α ow σ ρ H S P X Q e hm hx k =>
  h C α ow σ ρ H S _ X _ e hm hx fun ds vs α1 H1 S1 hm1 f1 r1 => by
    have r1 := r1.rs f1.st
    have e1 := e.step f1
    unfold fListOf at hm1
    split at hm1
    · rename_i q
      rw [q] at r1
      obtain ⟨x, rfl, hx⟩ := r1.one
      obtain ⟨a, xs, rfl, h1, h2, h3⟩ := hx.lstI
      exact ⟨a, xs, rfl, .inl (SqL.of h1), fun p hp => k _ p _ _ _ hm1 (f1.trans (e1.nw hp)) (f1.fr.none_ahead hp) ⟨e1.npα hp, fun B hw => .lst upd_same h2 (rvAll_beside hp h3 hw), e1.os hp⟩⟩
    · rename_i q
      rw [q] at r1
      obtain ⟨x, rfl, hx⟩ := r1.one
      obtain ⟨a, xs, rfl, h1, h2, h3⟩ := hx.tupI
      exact ⟨a, xs, rfl, .inr h1, fun p hp => k _ p _ _ _ hm1 (f1.trans (e1.nw hp)) (f1.fr.none_ahead hp) ⟨e1.npα hp, fun B hw => .lst upd_same h2 (rvAll_beside hp h3 hw), e1.os hp⟩⟩
    · exact hm1.elim
theorem df_dnew : DF K mg E tDNewK (mC (.dic [] [])) := fun C α ow σ ρ H S P X Q e hm hx k p hp => k _ p _ _ _ hm (e.nw hp) hp ⟨e.npα hp, fun B hw => .dK (kvs := []) upd_same (Nat.zero_le _) .nil, e.os hp⟩
theorem df_call {m : List D → M D} {dvs : List V} {dd : List D} {tr : TA} {mr : MA} (hd : ∀ mg β α H, RpAll K mg β α H dvs dd) (h : DA K mg E tr mr) : DF K mg E (tCall (spF K mg m) dvs E tr) (mCall m dd mr) := fun C α ow σ ρ H S P X Q e hm hx k =>
  h C α ow σ ρ H S _ X _ e hm hx fun ds vs α1 H1 S1 hm1 g1 r1 => ⟨(e.step g1).sub, ds ++ dd, S1, P, X, rfl, StOk.sub (e.step g1), RvAll.sub (e.step g1) (r1.append (hd _ _ _ _)), hm1, (e.step g1).subX hx, fun d p α' H' S' pd g hp nu => by
    rw [sub_hd] at nu
    exact k d p α' H' S' pd (g1.trans (g.unsub (e.step g1))) (g1.fr.none_ahead hp) nu⟩
def owSet (ow : OwS) (i : Nat) (p : Addr) : OwS := fun j => if j = i then some p else ow j
def kOwn (i : Nat) (me : ME) : MS := fun ρ S e => i < ρ.length ∧ me ρ S (fun d S1 => e.nx (ρ.set i (.ow d)) S1) e.ex
theorem owSet_hd {i : Nat} {p a : Addr} (z : C.hd α (owSet ow i p) a) : C.hd α ow a ∨ a = p := by
  rcases z with z | z | ⟨j, z⟩
  · exact .inl (.inl z)
  · exact .inl (.inr (.inl z))
  · unfold owSet at z
    split at z
    · cases z; exact .inr rfl
    · exact .inl (.inr (.inr ⟨j, z⟩))
theorem Ev.setOw (ev : Ev C α ow σ ρ H S) {i : Nat} {p : Addr} {d : D} (hi : i < ρ.length) (hp : H p = none) (fr : Go C ow α H α' H' S') (hb : Nu K mg C.β (C.hd α' ow) α' H' S' p d) : Ev C α' (owSet ow i p) (σ.set i (some (.ref p))) (ρ.set i (.ow d)) H' S' := by
  have sm : Same (hid (C.hd α ow) H) (hid (C.hd α' (owSet ow i p)) H') := (enterS hp fr.fr).trans (hid_mono fun a z => owSet_hd z)
  refine ⟨fun j => ?_, fun j k a h1 h2 => ?_, fun j a h => ?_, ev.fr.trans fr.fr, ⟨fr.st.len, fr.st.nd, fr.st.nA, fr.st.nL, fun j a h => ?_, fun j a o h1 h2 => (hb.os j a o h1 h2).mono (List.prefix_refl _) (hid_mono fun a z => owSet_hd z) fun _ q _ => q⟩⟩
  · by_cases hj : j = i
    · subst hj
      rw [List.getElem?_set_self (ev.lt.mpr hi), List.getElem?_set_self hi, show owSet ow j p j = some p by unfold owSet; rw [if_pos rfl]]
      exact .ow (hb.ob _ fun a z => owSet_hd z)
    · rw [List.getElem?_set_ne (Ne.symm hj), List.getElem?_set_ne (Ne.symm hj), show owSet ow i p j = ow j by unfold owSet; rw [if_neg hj]]
      have q := ev.sl j
      generalize hw : ow j = w at q ⊢
      generalize σ[j]? = s at q ⊢
      generalize ρ[j]? = r at q ⊢
      cases q with
      | out => exact .out
      | un => exact .un
      | va r => exact .va (Rp.mono fr.fr.pre sm r)
      | ow r => exact .ow (OwB.mono fr.fr.pre sm (fun _ ho => ev.get fr.fr hw ho) r)
  · unfold owSet at h1 h2
    split at h1 <;> split at h2
    · omega
    · cases h1; exact absurd hp (ev.stands (.inr (.inr ⟨k, h2⟩)))
    · cases h2; exact absurd hp (ev.stands (.inr (.inr ⟨j, h1⟩)))
    · exact ev.inj j k a h1 h2
  · unfold owSet at h
    split at h
    · cases h
      exact fun z => ev.stands (.inl z) hp
    · exact ev.nA j a h
  · unfold owSet at h
    split at h
    · cases h; exact hb.np
    · exact fr.st.no j a h
theorem ds_own {i : Nat} (h : DF K mg E te me) : DS K mg E F (tAsg te (gName i)) (kOwn i me) := fun C α ow σ ρ H S e Dn ev nw hm k => by
  obtain ⟨hi, hm⟩ := hm
  refine h C α ow σ ρ H S _ _ _ ev hm k.ex fun d p α1 H1 S1 pd fr hp hb => ?_
  have ev2 := ev.setOw (i := i) hi hp fr hb
  refine k.nx α1 (owSet ow i p) _ _ _ S1 pd ev2 (fun j a q => ?_) ⟨fr.fr.pre, (enterS hp fr.fr).trans (hid_mono fun a z => owSet_hd z)⟩
  unfold owSet at q
  split at q
  · cases q
    exact ev.fr.none_ahead hp
  · exact nw j a q
/-- no longer written -/
def frz (i : Nat) (ρ : Env) : Env := match ρ[i]? with
  | some (.ow d) => ρ.set i (.va d)
  | _ => ρ
theorem OwB.rv {β : BG} {B : Addr → Prop} {a : Addr} {d : D} (hA : ¬ B a) (h : OwB K mg β α B H a d) : Rp K mg β α (hid B H) (.ref a) d := by
  cases h with
  | lst h1 h2 h3 => exact .lst (hid_get hA h1) h2 h3
  | dK h1 h2 h3 => exact .dK (.inl (hid_get hA h1)) h2 h3
theorem Ow.rv {i : Nat} {a : Addr} {d : D} (ev : Ev C α ow σ ρ H S) (hi : ow i = some a) (h : Ow C α ow H a d) : Rv C α (owDrop ow i) H (.ref a) d := by
  have hA : ¬ C.hd α (owDrop ow i) a := by
    rintro (z | z | ⟨j, z⟩)
    · exact ev.nA i a hi z
    · exact ev.st.no i a hi z
    · have := ev.inj j i a (owDrop_le _ _ z) hi
      rw [this] at z
      unfold owDrop at z
      rw [if_pos rfl] at z
      cases z
  exact OwB.rv hA (Ow.le owDrop_le h)
theorem Ev.frz (ev : Ev C α ow σ ρ H S) (i : Nat) : ∃ ow', OwLe ow' ow ∧ Ev C α ow' σ (Nc.frz i ρ) H S := by
  unfold Nc.frz
  split
  · have h := ev.sl i
    rename_i d hd
    rw [hd] at h
    have hil : i < ρ.length := (List.getElem?_eq_some_iff.mp hd).1
    generalize hw : ow i = w at h
    generalize hs : σ[i]? = s at h
    cases h with
    | ow h =>
      have r := Ow.rv ev hw h
      refine ⟨owDrop ow i, owDrop_le, fun j => ?_, fun j k a h1 h2 => ev.inj j k a (owDrop_le _ _ h1) (owDrop_le _ _ h2), fun j a h => ev.nA j a (owDrop_le _ _ h), ev.fr, ev.st.le owDrop_le⟩
      by_cases hj : j = i
      · subst hj
        rw [List.getElem?_set_self hil, hs, show owDrop ow j j = none by unfold owDrop; rw [if_pos rfl]]
        exact .va r
      · rw [List.getElem?_set_ne (Ne.symm hj)]
        exact ev.le_sl owDrop_le (by unfold owDrop; rw [if_neg hj])
  · exact ⟨ow, fun _ _ h => h, ev⟩
def kFrz (i : Nat) (m : MS) : MS := fun ρ S e => m (frz i ρ) S e
theorem ds_frz (i : Nat) (h : DS K mg E F t m) : DS K mg E F t (kFrz i m) := fun C α ow σ ρ H S e Dn ev nw hm k => by
  obtain ⟨ow', le, ev'⟩ := ev.frz i
  exact h C α ow' σ _ H S e Dn ev' (fun j a q => nw j a (le _ _ q)) hm (k.later le.aft)
/-- return x, an own object -/
def kRetOw (i : Nat) : MS := fun ρ S e => match ρ[i]? with
  | some (.ow d) => e.rt d S
  | _ => False
theorem ds_retOw {i : Nat} : DS K mg E F (tRet (tVar i)) (kRetOw i) := fun C α ow σ ρ H S e Dn ev nw hm k => by
  unfold kRetOw at hm
  split at hm
  · rename_i d hd
    have h := ev.sl i
    rw [hd] at h
    generalize hw : ow i = w at h
    generalize hs : σ[i]? = s at h
    cases h with
    | @ow a _ h =>
      refine ⟨_, hs, ?_⟩
      have r := Ow.rv ev hw h
      cases F with
      | false => exact k.rt rfl d _ α H S hm ev.go0 r.out
      | true =>
        refine k.rf rfl d a α H S hm ev.go0 (nw i a hw) ⟨ev.st.no i a hw, fun B hB => OwB.mono (List.prefix_refl _) (hid_mono fun b z => ?_) (fun _ q _ => q) h, fun j b o h1 h2 => (ev.st.ob j b o h1 h2).mono (List.prefix_refl _) (hid_mono fun b z => ?_) fun _ q _ => q⟩
        · rcases hB b z with z | z
          · rcases z with z | z | ⟨_, z⟩
            · exact .inl z
            · exact .inr (.inl z)
            · cases z
          · rw [z]; exact .inr (.inr ⟨i, hw⟩)
        · rcases z with z | z
          · rcases z with z | z | ⟨_, z⟩
            · exact .inl z
            · exact .inr (.inl z)
            · cases z
          · rw [z]; exact .inr (.inr ⟨i, hw⟩)
  · exact hm.elim
theorem Nu.out {p : Addr} {d : D} (h : Nu K mg C.β (C.hd α ow) α H S p d) : Nu K mg C.β (C.hd α ow0) α H S p d := by
  have le : ∀ a, C.hd α ow0 a → C.hd α ow a := fun a z => by
    rcases z with z | z | ⟨_, z⟩
    · exact .inl z
    · exact .inr (.inl z)
    · cases z
  exact ⟨h.np, fun B hB => h.ob B fun a z => (hB a z).elim (fun z => .inl (le a z)) .inr, fun i a o h1 h2 => (h.os i a o h1 h2).mono (List.prefix_refl _) (hid_mono fun a z => z.elim (fun z => .inl (le a z)) .inr) fun _ q _ => q⟩
theorem ds_retF (h : DF K mg E te me) : DS K mg E true (tRet te) (kRet me) := fun C α ow σ ρ H S e Dn ev nw hm k =>
  h C α ow σ ρ H S _ _ _ ev hm k.ex fun d p α1 H1 S1 pd fr hp nu => k.rf rfl d p α1 H1 S1 pd ((ev.step fr).go0) (ev.fr.none_ahead hp) nu.out
/-- an own object is written -/
theorem same_write {i : Nat} {a : Addr} {o : HO} (hi : ow i = some a) : Same (hid (C.hd α ow) H) (hid (C.hd α ow) (upd H a o)) := fun b o' q => by
  obtain ⟨q1, q2⟩ := hid_some q
  have hne : b ≠ a := fun z => q1 (.inr (.inr ⟨i, by rw [z]; exact hi⟩))
  exact hid_get q1 (by rw [upd_ne hne]; exact q2) (hid_nt q)
theorem Ev.write (ev : Ev C α ow σ ρ H S) {i : Nat} {a : Addr} {d : D} {o : HO} (hi : ow i = some a) (hn : C.H0 a = none) (hb : Ow C α ow (upd H a o) a d) : Ev C α ow σ (ρ.set i (.ow d)) (upd H a o) S := by
  have sm : Same (hid (C.hd α ow) H) (hid (C.hd α ow) (upd H a o)) := same_write hi
  refine ⟨fun j => ?_, ev.inj, ev.nA, ev.fr.mut hn (ev.owTabs hi), ⟨ev.st.len, ev.st.nd, ev.st.nA, ev.st.nL, ev.st.no, fun j b u h1 h2 => (ev.st.ob j b u h1 h2).mono (List.prefix_refl _) sm fun w q _ => by rw [upd_ne fun z => ev.st.no i a hi (by rw [← z]; exact List.mem_of_getElem? h1)]; exact q⟩⟩
  have q := ev.sl j
  by_cases hj : j = i
  · subst hj
    rw [hi] at q ⊢
    generalize hs : σ[j]? = s at q
    generalize hr : ρ[j]? = r at q
    cases q with
    | ow q =>
      have hil : j < ρ.length := (List.getElem?_eq_some_iff.mp hr).1
      rw [List.getElem?_set_self hil]
      exact .ow hb
  · rw [List.getElem?_set_ne (Ne.symm hj)]
    generalize hw : ow j = w at q ⊢
    generalize σ[j]? = s at q ⊢
    generalize ρ[j]? = r at q ⊢
    cases q with
    | out => exact .out
    | un => exact .un
    | va r => exact .va (Rp.same sm r)
    | @ow b _ r =>
      have hne : b ≠ a := fun z => hj (ev.inj j i a (by rw [hw, z]) hi)
      exact .ow (OwB.mono (List.prefix_refl _) sm (fun w q _ => by rw [upd_ne hne]; exact q) r)
theorem rvAll_write {i : Nat} {a : Addr} {o : HO} {vs : List V} {ds : List D} (hi : ow i = some a) (r : RvAll C α ow H vs ds) : RvAll C α ow (upd H a o) vs ds := RpAll.same (same_write hi) r
theorem aft_write {i : Nat} {a : Addr} {o : HO} (hi : ow i = some a) : Aft C α ow H α ow (upd H a o) := ⟨List.prefix_refl _, same_write hi⟩
/-- x.append(e) -/
def kApp (i : Nat) (me : ME) : MS := fun ρ S e => match ρ[i]? with
  | some (.ow (.lst ds)) => me ρ S (fun d S1 => ds.length < sizeLine ∧ e.nx (ρ.set i (.ow (.lst (ds ++ [d])))) S1) e.ex
  | _ => False
theorem ds_app {i : Nat} (h : DE K mg E te me) : DS K mg E F (tDrop (tBM K "list" rAppend (tVar i) (tCons te tNil))) (kApp i me) := fun C α ow σ ρ H S e Dn ev nw hm k => by
  unfold kApp at hm
  split at hm
  · rename_i ds hd
    have q := ev.sl i
    rw [hd] at q
    generalize hw : ow i = w at q
    generalize hs : σ[i]? = s at q
    cases q with
    | @ow a _ q =>
      obtain ⟨xs0, h0⟩ : ∃ xs, H a = some (.lst xs) := by cases q with | lst h1 h2 h3 => exact ⟨_, h1⟩
      refine ⟨_, hs, w_tyL (SqL.of h0) ?_⟩
      refine h C α ow σ ρ H S _ _ _ ev hm k.ex fun d v α1 H1 S1 p fr r => ?_
      have ev1 := ev.step fr
      have q1 := q.fr ev fr.fr hw
      cases q1 with
      | lst h1 h2 h3 =>
        have hl := RpAll.len h3
        refine ⟨a, _, v, rfl, rfl, h1, by omega, ?_⟩
        have hb : Ow C α1 ow (upd H1 a (.lst (‹List V› ++ [v]))) a (.lst (ds ++ [d])) := .lst upd_same (by rw [List.length_append]; exact (show _ + 1 ≤ sizeLine by omega)) (RpAll.append (rvAll_write hw h3) (.cons (Rp.same (same_write hw) r) .nil))
        exact k.nx α1 ow σ _ _ S1 p.2 (ev1.write hw (nw i a hw) hb) nw (fr.aft.trans (aft_write hw))
  · exact hm.elim
/-- x.extend(e) -/
def kExt (i : Nat) (me : ME) : MS := fun ρ S e => match ρ[i]? with
  | some (.ow (.lst ds)) => me ρ S (fun d S1 => asL (fun es => ds.length + es.length ≤ sizeLine ∧ e.nx (ρ.set i (.ow (.lst (ds ++ es)))) S1) d) e.ex
  | _ => False
theorem ds_ext {i : Nat} (h : DE K mg E te me) : DS K mg E F (tDrop (tBM K "list" rExtend (tVar i) (tCons te tNil))) (kExt i me) := fun C α ow σ ρ H S e Dn ev nw hm k => by
  unfold kExt at hm
  split at hm
  · rename_i ds hd
    have q := ev.sl i
    rw [hd] at q
    generalize hw : ow i = w at q
    generalize hs : σ[i]? = s at q
    cases q with
    | @ow a _ q =>
      obtain ⟨xs0, h0⟩ : ∃ xs, H a = some (.lst xs) := by cases q with | lst h1 h2 h3 => exact ⟨_, h1⟩
      refine ⟨_, hs, w_tyL (SqL.of h0) ?_⟩
      refine h C α ow σ ρ H S _ _ _ ev hm k.ex fun d v α1 H1 S1 p fr r => ?_
      unfold asL at p
      split at p
      · have ev1 := ev.step fr
        have q1 := q.fr ev fr.fr hw
        obtain ⟨b, zs, rfl, g1, g2, g3⟩ := Rp.lstI r
        cases q1 with
        | lst h1 h2 h3 =>
          have hl := RpAll.len h3
          have gl := RpAll.len g3
          refine ⟨a, b, _, zs, rfl, rfl, h1, hid_same _ _ g1, by omega, ?_⟩
          have hb : Ow C α1 ow (upd H1 a (.lst (‹List V› ++ zs))) a (.lst (ds ++ ‹List D›)) := .lst upd_same (by rw [List.length_append]; omega) (RpAll.append (rvAll_write hw h3) (rvAll_write hw g3))
          exact k.nx α1 ow σ _ _ S1 p.2 (ev1.write hw (nw i a hw) hb) nw (fr.aft.trans (aft_write hw))
      · exact p.elim
  · exact hm.elim
/-! loops -/
def forD (f : TgM) (m : MS) : List D → MS
  | [], ρ, S, e => e.nx ρ S
  | d :: ds, ρ, S, e => f d ρ fun ρ1 => m ρ1 S { e with nx := fun ρ2 S2 => forD f m ds ρ2 S2 e, ct := fun ρ2 S2 => forD f m ds ρ2 S2 e, bk := e.nx }
def kFor (mi : MI) (f : TgM) (m : MS) : MS := fun ρ S e => mi ρ S (fun ds S1 => forD f m ds ρ S1 e) e.ex
theorem ds_for {us : List Nat} (hi : DI K mg E wi mi) (hg : DG K mg E g f us) (h : DS K mg E F t m) : DS K mg E F (tFor wi g t) (kFor mi f m) := fun C α ow σ ρ H S e Dn ev nw hm k => by
  refine hi C α ow σ ρ H S _ _ _ ev hm k.ex fun ds J α1 H1 S1 hm1 f1 it => ?_
  obtain ⟨n, G, Y, wk, hnl, hG, hY⟩ := it
  have s1 := f1.aft
  refine for_inv wk (fun i σ' H' => ∃ α' ow' ρ' S', Ev C α' ow' σ' ρ' H' S' ∧ Nw C ow' ∧ Aft C α1 ow H1 α' ow' H' ∧ forD f m (ds.drop i) ρ' S' e) ⟨α1, ow, ρ, S1, ev.step f1, nw, Aft.refl, hm1⟩
    (fun i σ' H' hi ⟨α', ow', ρ', S', ev', nw', sm, _⟩ => hG _ _ sm.sm) ?_ ?_
  · rintro i x σ' H' H2 hlt ⟨α', ow', ρ', S', ev', nw', sm, hl⟩ y
    have hdi : i < ds.length := by omega
    obtain ⟨s2, rx⟩ := hY i x (C.hd α' ow') H' H2 sm.sm (fun a z => ev'.stands z) hlt y
    have rx := Rp.mono sm.pre (Same.refl _) (rx _ (List.getElem?_eq_getElem hdi))
    rw [List.drop_eq_getElem_cons hdi] at hl
    have g2 := ev'.sm s2
    refine hg C α' ow' σ' ρ' H2 S' x _ _ _ (ev'.step g2) rx hl fun ow2 σ2 ρ2 hm2 ev2 how _ _ => ?_
    have nw2 : Nw C ow2 := fun j a q => nw' j a (by rw [how] at q; exact owWipe_le _ _ q)
    have sm2 : Aft C α1 ow H1 α' ow2 H2 := (sm.trans g2.aft).trans (OwLe.aft (by rw [how]; exact owWipe_le))
    refine h C α' ow2 σ2 ρ2 H2 S' _ _ ev2 nw2 hm2 ⟨fun α3 ow3 σ3 ρ3 H3 S3 p3 ev3 nw3 s3 => ⟨α3, ow3, ρ3, S3, ev3, nw3, sm2.trans s3, p3⟩, fun α3 ow3 σ3 ρ3 H3 S3 p3 ev3 nw3 s3 => k.nx α3 ow3 σ3 ρ3 H3 S3 p3 ev3 nw3 ((s1.trans sm2).trans s3),
      fun α3 ow3 σ3 ρ3 H3 S3 p3 ev3 nw3 s3 => ⟨α3, ow3, ρ3, S3, ev3, nw3, sm2.trans s3, p3⟩, k.rt, k.rf, k.ex⟩
  · rintro σ' H' ⟨α', ow', ρ', S', ev', nw', sm, hl⟩
    rw [List.drop_of_length_le (by omega)] at hl
    exact k.nx α' ow' σ' ρ' H' S' hl ev' nw' (s1.trans sm)
def kWhile (mt : MT) (m : MS) : MS := fun ρ S e => ∃ W : Nat → Env → Sto → Prop, (∃ j, W j ρ S) ∧ ∀ j ρ S, W j ρ S → mt ρ S (fun b S1 => if b = true then m ρ S1 { e with nx := fun ρ' S' => ∃ j', j' < j ∧ W j' ρ' S', ct := fun ρ' S' => ∃ j', j' < j ∧ W j' ρ' S', bk := e.nx } else e.nx ρ S1) e.ex
theorem ds_while (ht : DT K mg E tt mt) (h : DS K mg E F t m) : DS K mg E F (tWhile tt t) (kWhile mt m) := fun C α ow σ ρ H S e Dn ev nw hm k => by
  obtain ⟨W, ⟨j0, w0⟩, hW⟩ := hm
  refine ⟨fun j σ' H' => ∃ α' ow' ρ' S', Ev C α' ow' σ' ρ' H' S' ∧ Nw C ow' ∧ Aft C α ow H α' ow' H' ∧ W j ρ' S', ⟨j0, α, ow, ρ, S, ev, nw, Aft.refl, w0⟩, ?_⟩
  rintro j σ' H' ⟨α', ow', ρ', S', ev', nw', sm, w⟩
  refine ht C α' ow' σ' ρ' H' S' _ _ _ ev' (hW j ρ' S' w) k.ex fun b α1 H1 S1 p fr => ?_
  have sm1 := sm.trans fr.aft
  cases b with
  | true =>
    rw [if_pos rfl] at p ⊢
    refine ⟨fun σ2 H2 => ∃ α2 ow2 ρ2 S2, Ev C α2 ow2 σ2 ρ2 H2 S2 ∧ Nw C ow2 ∧ Aft C α ow H α2 ow2 H2 ∧ ∃ j', j' < j ∧ W j' ρ2 S2, fun σ2 H2 ⟨α2, ow2, ρ2, S2, a, b, c, j', d, w⟩ => ⟨j', d, α2, ow2, ρ2, S2, a, b, c, w⟩, ?_⟩
    exact h C α1 ow' σ' ρ' H1 S1 _ _ (ev'.step fr) nw' p ⟨fun α3 ow3 σ3 ρ3 H3 S3 p3 ev3 nw3 s3 => ⟨α3, ow3, ρ3, S3, ev3, nw3, sm1.trans s3, p3⟩, fun α3 ow3 σ3 ρ3 H3 S3 p3 ev3 nw3 s3 => k.nx α3 ow3 σ3 ρ3 H3 S3 p3 ev3 nw3 (sm1.trans s3),
      fun α3 ow3 σ3 ρ3 H3 S3 p3 ev3 nw3 s3 => ⟨α3, ow3, ρ3, S3, ev3, nw3, sm1.trans s3, p3⟩, k.rt, k.rf, k.ex⟩
  | false =>
    rw [if_neg Bool.false_ne_true] at p ⊢
    exact k.nx α1 ow' σ' ρ' H1 S1 p (ev'.step fr) nw' sm1
/-! a def's run -/
def stEnv (ds : List D) (n : Nat) : Env := ds.map Sl.va ++ List.replicate n .un
def runM (np n : Nat) (m : MS) : List D → M D := fun ds S P X => ds.length = np ∧ m (stEnv ds n) S ⟨fun _ S' => P .non S', P, fun _ _ => False, fun _ _ => False, X⟩
theorem ev_start {C : Cy K mg E} {vs : List V} {ds : List D} {n : Nat} (st : StOk C C.α0 ow0 C.H0 S) (r : RvAll C C.α0 ow0 C.H0 vs ds) : Ev C C.α0 ow0 (vs.map some ++ List.replicate n none) (stEnv ds n) C.H0 S := by
  refine ⟨fun i => ?_, fun _ _ _ h => (by cases h), fun _ _ h => (by cases h), Fr.refl C.b0, st⟩
  have hl := r.len
  unfold stEnv
  by_cases hi : i < vs.length
  · rw [List.getElem?_append_left (by rw [List.length_map]; exact hi), List.getElem?_append_left (by rw [List.length_map]; omega), List.getElem?_map, List.getElem?_map, List.getElem?_eq_getElem hi]
    obtain ⟨d, h1, h2⟩ := r.get (List.getElem?_eq_getElem hi)
    rw [h1]
    exact .va h2
  · rw [List.getElem?_append_right (by rw [List.length_map]; omega), List.getElem?_append_right (by rw [List.length_map]; omega), List.length_map, List.length_map, hl]
    by_cases hi2 : i - ds.length < n
    · rw [List.getElem?_replicate, List.getElem?_replicate, if_pos hi2, if_pos hi2]
      exact .un
    · rw [List.getElem?_replicate, List.getElem?_replicate, if_neg hi2, if_neg hi2]
      exact .out
theorem start_eq {N : List Str} {np n : Nat} {vs : List V} (hn : N.length = np + n) (hl : vs.length = np) : L2.start N vs = vs.map some ++ List.replicate n none := by
  unfold L2.start
  rw [show N.length - vs.length = n by omega]
theorem spD_len {np n : Nat} {m : MS} {vs : List V} {Q : VK} (h : spD K mg (runM np n m) vs H Q E) : vs.length = np := by
  obtain ⟨C, ds, S, P, X, _, _, r, hm, _⟩ := h
  exact r.len.trans hm.1
theorem spF_len {np n : Nat} {m : MS} {vs : List V} {Q : VK} (h : spF K mg (runM np n m) vs H Q E) : vs.length = np := by
  obtain ⟨C, ds, S, P, X, _, _, r, hm, _⟩ := h
  exact r.len.trans hm.1
theorem spD_run {np n : Nat} {m : MS} {N : List Str} {t : TS} {vs : List V} {Q : VK} (hn : N.length = np + n) (h : DS K mg E false t m) (s : spD K mg (runM np n m) vs H Q E) : t { nx := fun _ H' => Q .non H', rt := Q } (L2.start N vs) H := by
  rw [start_eq hn (spD_len s)]
  obtain ⟨C, ds, S, P, X, hH, st, r, hm, hx, k⟩ := s
  subst hH
  exact h C _ _ _ _ _ S _ _ (ev_start st r) (fun _ _ h => (by cases h)) hm.2 ⟨fun α' ow' σ' ρ' H' S' p ev' _ _ => k .non .non α' H' S' p ev'.go0 .non, fun _ _ _ _ _ _ p => p.elim, fun _ _ _ _ _ _ p => p.elim, fun _ d v α' H' S' p g r => k d v α' H' S' p g r, fun z => (by cases z), hx⟩
/-- a def that always says return -/
def runF (np n : Nat) (m : MS) : List D → M D := fun ds S P X => ds.length = np ∧ m (stEnv ds n) S ⟨fun _ _ => False, P, fun _ _ => False, fun _ _ => False, X⟩
theorem spF_run {np n : Nat} {m : MS} {N : List Str} {t : TS} {vs : List V} {Q : VK} (hn : N.length = np + n) (h : DS K mg E true t m) (s : spF K mg (runF np n m) vs H Q E) : t { nx := fun _ H' => Q .non H', rt := Q } (L2.start N vs) H := by
  have hl : vs.length = np := by
    obtain ⟨C, ds, S, P, X, _, _, r, hm, _⟩ := s
    exact r.len.trans hm.1
  rw [start_eq hn hl]
  obtain ⟨C, ds, S, P, X, hH, st, r, hm, hx, k⟩ := s
  subst hH
  exact h C _ _ _ _ _ S _ _ (ev_start st r) (fun _ _ h => (by cases h)) hm.2 ⟨fun α' ow' σ' ρ' H' S' p ev' _ _ => p.elim, fun _ _ _ _ _ _ p => p.elim, fun _ _ _ _ _ _ p => p.elim, fun z => (by cases z), fun _ d p α' H' S' pd g hp nu => k d p α' H' S' pd g hp nu, hx⟩
/-- a promise of another kind, as a meaning -/
theorem fn_imp {P : Program} {w : World} {base : Heap} {CX : CXT} {k : Nat} {f : Addr} {fd : FuncData} {ps : List Str} {sp : Sp} {m : List D → M D} (G : FnOk P w K mg base CX k f fd ps sp)
    (h : ∀ vs H Q E, spD K mg m vs H Q E → sp vs H Q E) : FnOk P w K mg base CX k f fd ps (spD K mg m) := G.imp h
end
end Nc

namespace Nc
open PySem PySem.Spec PyProof.Rows L2
/-! ## more, on data -/
section
variable {K : PySem.W.Frag} {mg : Str → Option Value} {E : XK} {C : Cy K mg E} {α α' : List Addr} {ow ow' : OwS} {σ : L2.St} {ρ : Env} {H H' : Hp} {S S' : Sto} {F : Bool}
variable {ta tb tc te : TE} {ma mb mc me : ME} {tr : TA} {mr : MA}
/-! isinstance -/
def D.ty : D → Option String
  | .non => some "NoneType" | .bl _ => some "bool" | .int _ => some "int" | .str _ => some "str" | .lst _ => some "list" | .tup _ => some "tuple"
  | _ => none
theorem Rp.ty {β : BG} {α : List Addr} {v : V} {d : D} {s : String} (h : Rp K mg β α H v d) (e : d.ty = some s) : TyX K H v (.type s) := by
  cases h with
  | non => cases e; exact .base .non
  | bl b => cases e; exact .base (.bl b)
  | int i => cases e; exact .base (.int i)
  | str x => cases e; exact .base (.str _)
  | lst h _ _ => cases e; exact .base (.lst h)
  | tup h _ _ =>
    cases e
    rcases h with (h | ⟨o, h⟩) | ⟨o, its, n, h1, h2, _⟩
    · exact .base (.tup h)
    · exact .fTuple h
    · exact .kTuple h1 h2
  | dK _ _ _ => cases e
  | ins _ _ _ => cases e
  | ob _ => cases e
  | bag _ => cases e
  | raw _ => cases e
theorem Sh.ty {v : V} {d : D} {s : String} (h : Sh C α ow H v d) (e : d.ty = some s) : TyX K H v (.type s) := by
  rcases h with h | ⟨i, a, _, rfl, h⟩ | ⟨a, _, rfl, h⟩
  · exact Rp.ty (Rp.same hid_same h) e
  · cases h with
    | lst h1 _ _ => cases e; exact .base (.lst h1)
    | dK _ _ _ => cases e
  · cases h with
    | lst h1 _ _ => cases e; exact .base (.lst h1)
    | dK _ _ _ => cases e
theorem ty_mem {d : D} {s : String} (e : d.ty = some s) : s ∈ ["NoneType", "bool", "int", "str", "list", "tuple", "dict"] := by cases d <;> cases e <;> simp
def fIsi : List D → (D → Prop) → Prop
  | [d, .raw (.ty T)], P => T ∈ ["int", "bool", "str", "tuple", "list"] ∧ match d.ty with
    | some s => P (.bl (isT s T))
    | none => False
  | _, _ => False
theorem cd_isi : CallD K (rIsi K) fIsi := fun mg E C α ow σ ρ H S vs ds P Q e h hm k => by
  unfold fIsi at hm
  split at hm
  · obtain ⟨x, y, rfl, hx, hy⟩ := h.two
    have := Sh.rawI hy
    subst this
    obtain ⟨hT, hm⟩ := hm
    split at hm
    · exact ⟨x, _, _, _, _, rfl, .ty _, hx.ty ‹_›, kit_ty (kit_all _ (ty_mem ‹_›) _ hT), k _ _ H hm e.go (.bl _)⟩
    · exact hm.elim
  · exact hm.elim
/-- isinstance(e, (T1, T2)) -/
def mIsi2 (t1 t2 : String) (ma : ME) : ME := fun ρ S P X => ma ρ S (fun d S1 => match (S1.rs d).ty with
  | some s => P (.bl (isT s t1 || isT s t2)) S1
  | none => False) X
theorem de_isi2 {t1 t2 : String} (h1 : t1 ∈ ["int", "bool", "str", "tuple", "list"] := by decide) (h2 : t2 ∈ ["int", "bool", "str", "tuple", "list"] := by decide) (ha : DQ K mg E ta ma) :
    DE K mg E (tCB (rIsiT K) (tCons ta (tCons (tTup (tCons (tC (.ty t1)) (tCons (tC (.ty t2)) tNil))) tNil))) (mIsi2 t1 t2 ma) := fun C α ow σ ρ H S P X Q e hm hx k =>
  ha C α ow σ ρ H S _ X _ e hm hx fun d v α1 H1 S1 hm1 f1 s1 => by
    split at hm1
    · rename_i s hs
      refine ⟨by show 2 ≤ sizeLine; decide, fun p hp => ?_⟩
      have sm := same_new (o := .tup [V.ty t1, V.ty t2]) hp
      refine ⟨v, p, [.ty t1, .ty t2], _, [.type t1, .type t2], _, rfl, upd_same, .cons (.ty t1) (.cons (.ty t2) .nil), ((s1.go (e.step f1) ((e.step f1).sm sm)).rs ((e.step f1).sm sm).st).ty hs, ?_, k _ _ _ _ _ hm1 (f1.trans ((e.step f1).sm sm)) (.bl _)⟩
      have q1 := kit_ty (K := K) (kit_all _ (ty_mem hs) _ h1)
      have q2 := kit_ty (K := K) (kit_all _ (ty_mem hs) _ h2)
      refine kitAny_cons q1 (fun e => ?_) fun e => by rw [e, Bool.true_or]
      rw [e, Bool.false_or]
      refine kitAny_cons q2 (fun e2 => ?_) fun e2 => e2
      rw [e2]
      exact kitAny_nil
    · exact hm1.elim
/-! sorted -/
theorem RpAll.perm {β : BG} {α : List Addr} {xs ys : List V} {ds : List D} (h : ys.Perm xs) : RpAll K mg β α H xs ds → ∃ es, es.Perm ds ∧ RpAll K mg β α H ys es := by
  induction h generalizing ds with
  | nil => exact fun r => ⟨ds, List.Perm.refl _, r⟩
  | cons x _ ih =>
    intro r
    cases r with
    | cons r t =>
      obtain ⟨es, p, q⟩ := ih t
      exact ⟨_ :: es, p.cons _, .cons r q⟩
  | swap x y l =>
    intro r
    cases r with
    | cons r t =>
      cases t with
      | cons r2 t => exact ⟨_, List.Perm.swap _ _ _, .cons r2 (.cons r t)⟩
  | trans _ _ ih1 ih2 =>
    intro r
    obtain ⟨es, p, q⟩ := ih2 r
    obtain ⟨es2, p2, q2⟩ := ih1 q
    exact ⟨es2, p2.trans p, q2⟩
def fSortS : List D → (D → Prop) → Prop
  | [.lst ds], P => ∃ xs : List Str, ds = xs.map .str ∧ xs.length < 64 ∧ ∀ ys : List Str, ys.Perm xs → sortedS ys = true → P (.lst (ys.map .str))
  | _, _ => False
def fSortI : List D → (D → Prop) → Prop
  | [.lst ds], P => ∃ xs : List Int, ds = xs.map .int ∧ ∀ ys : List Int, ys.Perm xs → ys.Pairwise (· ≤ ·) → P (.lst (ys.map .int))
  | _, _ => False
theorem RpAll.strLen {β : BG} {α : List Addr} : ∀ {vs : List V} {xs : List Str}, RpAll K mg β α H vs (xs.map D.str) → ∀ z ∈ xs, z.length ≤ sizeLine
  | _, [], _, z, h => by cases h
  | _, x :: xs, r, z, h => by
    cases r with
    | cons r t =>
      rcases List.mem_cons.mp h with h | h
      · rw [h]; exact r.strI.2
      · exact RpAll.strLen t z h
theorem cd_sortS : CallD K (rSortedS K) fSortS := fun mg E C α ow σ ρ H S vs ds P Q e h hm k => by
  unfold fSortS at hm
  split at hm
  · obtain ⟨x, rfl, hx⟩ := h.one
    obtain ⟨xs, rfl, hl, hm⟩ := hm
    obtain ⟨a, vs, rfl, h1, h2, h3⟩ := hx.lstI
    have e1 := RpAll.strsI h3
    subst e1
    have hz := RpAll.strLen h3
    refine ⟨a, xs, rfl, SqL.of h1, hl, fun ys p hp hs hn => k _ _ _ (hm ys hp hs) (e.nw hn) (rv_lst e hn ?_ (RpAll.strs fun z hzz => hz z (hp.mem_iff.mp hzz)))⟩
    rw [List.length_map, hp.length_eq]
    rw [List.length_map] at h2
    exact h2
  · exact hm.elim
theorem cd_sortI : CallD K (rSortedI K) fSortI := fun mg E C α ow σ ρ H S vs ds P Q e h hm k => by
  unfold fSortI at hm
  split at hm
  · obtain ⟨x, rfl, hx⟩ := h.one
    obtain ⟨xs, rfl, hm⟩ := hm
    obtain ⟨a, vs, rfl, h1, h2, h3⟩ := hx.lstI
    have e1 := RpAll.intsI h3
    subst e1
    refine ⟨a, xs, rfl, SqL.of h1, fun ys p hp hs hn => k _ _ _ (hm ys hp hs) (e.nw hn) (rv_lst e hn ?_ (RpAll.ints ys))⟩
    rw [List.length_map, hp.length_eq]
    rw [List.length_map] at h2
    exact h2
  · exact hm.elim
/-! join -/
theorem len_join (a : Str) : ∀ ys : List Str, (Str.join a ys).length ≤ (ys.map (·.length)).sum + ys.length * a.length
  | [] => Nat.zero_le _
  | [x] => by
    show x.length ≤ _
    simp
  | x :: y :: r => by
    have ih := len_join a (y :: r)
    show ((x ++ a) ++ Str.join a (y :: r)).length ≤ _
    rw [str_append_length, str_append_length]
    simp only [List.map_cons, List.sum_cons, List.length_cons, Nat.add_mul] at ih ⊢
    omega
def asStr (P : Str → Prop) : D → Prop
  | .str z => P z
  | _ => False
def mJoin (ma mb : ME) : ME := fun ρ S P X => ma ρ S (fun d S1 => asStr (fun z => mb ρ S1 (fun d2 S2 => asL (fun ds => ∃ ys : List Str, ds = ys.map .str ∧ (ys.map (·.length)).sum + ys.length * z.length ≤ 16777216 ∧ P (.str (Str.join z ys)) S2) (S2.rs d2)) X) d) X
theorem Su.strI {v : V} {z : Str} (h : Su C α ow H v (.str z)) : v = .str z ∧ z.length ≤ sizeLine := by
  rcases h with h | ⟨_, _, _, _, h⟩
  · exact h.strI
  · cases h
theorem Su.intI {v : V} {z : Int} (h : Su C α ow H v (.int z)) : v = .int z := by
  rcases h with h | ⟨_, _, _, _, h⟩
  · exact h.intI
  · cases h
theorem de_join (ha : DQ K mg E ta ma) (hb : DQ K mg E tb mb) : DE K mg E (tM1 (rJoin K) ta tb) (mJoin ma mb) := fun C α ow σ ρ H S P X Q e hm hx k =>
  ha C α ow σ ρ H S _ X _ e hm hx fun a x α1 H1 S1 hm1 f1 s1 => by
    unfold asStr at hm1
    split at hm1
    · refine ⟨⟨_, s1.strI.1⟩, hb C α1 ow σ ρ H1 S1 _ X _ (e.step f1) hm1 hx fun b y α2 H2 S2 hm2 f2 s2 => ?_⟩
      have s2 := s2.rs f2.st
      unfold asL at hm2
      split at hm2
      · rename_i q
        rw [q] at s2
        obtain ⟨ys, rfl, hz, hm2⟩ := hm2
        obtain ⟨l, vs, rfl, h1, h2, h3⟩ := s2.lstI
        have e1 := RpAll.strsI h3
        subst e1
        refine ⟨_, l, ys, s1.strI.1, rfl, .inl (SqL.of h1), hz, ?_⟩
        rw [show Txt.join _ ys = Str.join _ ys from StrLaws.glued_eq_join _ _]
        exact k _ _ _ _ _ hm2 (f1.trans f2) (.str (Nat.le_trans (len_join _ _) (by rw [sizeLine_eq]; exact hz)))
      · exact hm2.elim
    · exact hm1.elim
/-! more statements -/
def kPar (i j : Nat) (mr : MA) : MS := fun ρ S e => mr ρ S (fun ds S1 => match ds with
  | [a, b] => e.nx ((ρ.set i (.va a)).set j (.va b)) S1
  | _ => False) e.ex
theorem ds_par {i j : Nat} (h : DA K mg E tr mr) : DS K mg E F (tPar i j tr) (kPar i j mr) := fun C α ow σ ρ H S e Dn ev nw hm k =>
  h C α ow σ ρ H S _ _ _ ev hm k.ex fun ds vs α1 H1 S1 p fr r => by
    split at p
    · cases r with
      | cons r1 t => cases t with
        | cons r2 t =>
          cases t
          have ev1 := (ev.step fr).set (i := i) r1
          have ev2 := ev1.set (i := j) (Rv.le owDrop_le r2)
          exact ⟨_, _, rfl, k.nx _ _ _ _ _ _ p ev2 (fun i a q => nw i a (owDrop_le _ _ (owDrop_le _ _ q))) (fr.aft.trans ((OwLe.aft owDrop_le).trans (OwLe.aft owDrop_le)))⟩
    · exact p.elim
def kAug (i : Nat) (f : D → D → (D → Prop) → Prop) (me : ME) : MS := fun ρ S e => match ρ[i]? with
  | some (.va a) => me ρ S (fun b S1 => f (S1.rs a) (S1.rs b) fun d => e.nx (ρ.set i (.va d)) S1) e.ex
  | _ => False
theorem ds_aug {i : Nat} {r : TIp} {f : D → D → (D → Prop) → Prop} (hr : OpD K r f) (h : DQ K mg E te me) : DS K mg E F (tAug i te r) (kAug i f me) := fun C α ow σ ρ H S e Dn ev nw hm k => by
  unfold kAug at hm
  split at hm
  · rename_i a ha
    have q := ev.sl i
    rw [ha] at q
    generalize hw : ow i = w at q
    generalize hs : σ[i]? = s at q
    cases q with
    | va q =>
      refine ⟨_, hs, h C α ow σ ρ H S _ _ _ ev hm k.ex fun b v α1 H1 S1 p fr r => ?_⟩
      have q' : Su C α ow H _ _ := .inl q
      refine hr mg E C α1 ow σ ρ H1 S1 _ v _ _ _ _ (ev.step fr) ((q'.go ev fr).rs fr.st) (r.rs fr.st) p fun d u H2 p2 fr2 r2 => ?_
      have ev2 := (ev.step fr).step fr2
      exact k.nx _ _ _ _ _ _ p2 (ev2.set (i := i) r2) (fun i a q => nw i a (owDrop_le _ _ q)) ((fr.trans fr2).aft.trans (OwLe.aft owDrop_le))
  · exact hm.elim
theorem od_ipI {g : Int → Int → Int} : OpD K (ipI g) (fI0 fun i j => .int (g i j)) := od_I0 fun _ _ _ _ _ _ => .int _
theorem de_negC {n : Int} : DE K mg E (tUn (rU fun i => .int (-i)) (tC (.int n))) (mC (.int (-n))) := fun C α ow σ ρ H S P X Q e hm hx k => ⟨n, rfl, k _ _ _ H _ hm e.go (.int _)⟩
def fMax2 : List D → (D → Prop) → Prop
  | [.int i, .int j], P => P (.int (if j > i then j else i))
  | _, _ => False
def fMin2 : List D → (D → Prop) → Prop
  | [.int i, .int j], P => P (.int (if j < i then j else i))
  | _, _ => False
theorem cd_max2 : CallD K (fun xs H Q => ∃ i j, xs = [.int i, .int j] ∧ Q (.int (if j > i then j else i)) H) fMax2 := fun mg E C α ow σ ρ H S vs ds P Q e h hm k => by
  unfold fMax2 at hm
  split at hm
  · obtain ⟨x, y, rfl, hx, hy⟩ := h.two
    exact ⟨_, _, by rw [hx.intI, hy.intI], k _ _ H hm e.go (.int _)⟩
  · exact hm.elim
theorem cd_min2 : CallD K (fun xs H Q => ∃ i j, xs = [.int i, .int j] ∧ Q (.int (if j < i then j else i)) H) fMin2 := fun mg E C α ow σ ρ H S vs ds P Q e h hm k => by
  unfold fMin2 at hm
  split at hm
  · obtain ⟨x, y, rfl, hx, hy⟩ := h.two
    exact ⟨_, _, by rw [hx.intI, hy.intI], k _ _ H hm e.go (.int _)⟩
  · exact hm.elim
def fInt1 : List D → (D → Prop) → Prop
  | [.int i], P => P (.int i)
  | [.bl b], P => P (.int (if b then 1 else 0))
  | _, _ => False
theorem cd_int1 : CallD K (fun xs H Q => (∃ i, xs = [.int i] ∧ Q (.int i) H) ∨ ∃ k, xs = [.bl k] ∧ Q (.int (if k then 1 else 0)) H) fInt1 := fun mg E C α ow σ ρ H S vs ds P Q e h hm k => by
  unfold fInt1 at hm
  split at hm
  · obtain ⟨x, rfl, hx⟩ := h.one
    exact .inl ⟨_, by rw [hx.intI], k _ _ H hm e.go (.int _)⟩
  · obtain ⟨x, rfl, hx⟩ := h.one
    exact .inr ⟨_, by rw [hx.blI], k _ _ H hm e.go (.int _)⟩
  · exact hm.elim
def fTupleOf : List D → (D → Prop) → Prop
  | [.lst ds], P => P (.tup ds)
  | [.tup ds], P => P (.tup ds)
  | _, _ => False
theorem cd_tupleOf : CallD K (fun xs H Q => ∃ p ys, xs = [.ref p] ∧ ((SqL K H p ys ∧ ∀ l, H l = none → Q (.ref l) (upd H l (.tup ys))) ∨ (SqT K H p ys ∧ Q (.ref p) H))) fTupleOf := fun mg E C α ow σ ρ H S vs ds P Q e h hm k => by
  unfold fTupleOf at hm
  split at hm
  · obtain ⟨x, rfl, hx⟩ := h.one
    obtain ⟨a, xs, rfl, h1, h2, h3⟩ := hx.lstI
    exact ⟨a, xs, rfl, .inl ⟨SqL.of h1, fun p hp => k _ _ _ hm (e.nw hp) (rv_tup e hp h2 h3)⟩⟩
  · obtain ⟨x, rfl, hx⟩ := h.one
    have tt := hx.tupI'
    obtain ⟨a, xs, rfl, h1, h2, h3⟩ := hx.tupI
    exact ⟨a, xs, rfl, .inr ⟨h1, k _ _ H hm e.go tt⟩⟩
  · exact hm.elim
/-! the drawing -/
/-- a draw: any number below the second -/
def mPick : List D → M D := fun ds S P _ => match ds with
  | [.bag, .int top] => 1 ≤ top ∧ top.natAbs.log2 < 9000 ∧ ∀ d : Int, 0 ≤ d → d < top → P (.int d) S
  | _ => False
/-- the bag alone has changed -/
theorem Cy.bagGo {C : Cy K mg E} {b l : Addr} {ns : List Int} {H' : Hp} (st : StOk C C.α0 ow0 C.H0 S) (hb : C.β.bg = some (b, l, ns)) (hB : BagX l ns H' b) (sm : Same (del C.H0 b) (del H' b)) : Go C ow0 C.α0 C.H0 C.α0 H' S := by
  have keep : ∀ a o, a ≠ b → C.H0 a = some o → H' a = some o := fun a o n e => by
    have := sm a o (by rw [del_ne n]; exact e)
    rwa [del_ne n] at this
  have ab : C.A b := C.hb b l ns hb
  obtain ⟨xb, hxb⟩ := (C.b0.bag b l ns hb).isLst
  refine ⟨⟨C.b0, List.prefix_refl _, ⟨fun b' l' ns' q => by rw [hb] at q; cases q; exact hB, tabs_but C.b0.tab hxb (by intro _ z; cases z) ncLst keep⟩, fun a o n1 n2 e _ => keep a o (n1 b l ns hb) e, fun a m => ?_, fun a m => .inl m⟩, ⟨st.len, st.nd, st.nA, st.nL, st.no, fun i a o h1 h2 => ?_⟩⟩
  · by_cases z : a = b
    · rw [z]
      obtain ⟨_, q⟩ := hB.here
      rw [q]; simp
    · cases q : C.H0 a with
      | none => exact absurd q m
      | some o => rw [keep a o z q]; simp
  · have n : a ≠ b := fun z => st.nA a (List.mem_of_getElem? h1) (by rw [z]; exact ab)
    refine (st.ob i a o h1 h2).mono (List.prefix_refl _) (fun c u e => ?_) fun u e _ => keep a u n e
    obtain ⟨q1, q2⟩ := hid_some e
    exact hid_get q1 (keep c u (fun z => q1 (.inl (by rw [z]; exact ab))) q2) (hid_nt e)
theorem sp_pick_of {vs : List V} {Q : VK} (h : spD K mg mPick vs H Q E) : sp_pick vs H Q E := by
  obtain ⟨C, ds, S, P, X, rfl, st, r, hm, hx, k⟩ := h
  unfold mPick at hm
  split at hm
  · cases r with
    | cons r1 t => cases t with
      | cons r2 t =>
        cases t
        cases r1 with
        | bag hb =>
          rename_i b l ns
          refine ⟨b, _, l, ns, by rw [r2.intI], C.b0.bag b l ns hb, hm.1, hm.2.1, fun d H' d0 d1 hB e => ?_⟩
          exact k (.int d) (.int d) C.α0 H' S (hm.2.2 d d0 d1) (C.bagGo st hb hB (same_of_del e)) (.int d)
  · exact hm.elim
/-- in some order -/
def mShuffled : List D → M D := fun ds S P _ => match ds with
  | [.bag, .lst xs] => xs.length ≤ 1000 ∧ ∀ ys : List D, ys.Perm xs → P (.lst ys) S
  | _ => False
/-! word, *rest = a tuple -/
def kAsgS (n : Nat) (me : ME) (f : TgMs) : MS := fun ρ S e => me ρ S (fun d S1 => asT (fun ds => n ≤ ds.length ∧ ds.length ≤ 16384 ∧ f (ds.take n ++ [.lst (ds.drop n)]) ρ fun ρ' => e.nx ρ' S1) d) e.ex
theorem ds_asgS {n : Nat} {g : TGs} {f : TgMs} {us : List Nat} (h : DE K mg E te me) (hg : DGs K mg E g f us) : DS K mg E F (tAsg te (gTupStar K n g)) (kAsgS n me f) := fun C α ow σ ρ H S e Dn ev nw hm k =>
  h C α ow σ ρ H S _ _ _ ev hm k.ex fun d v α1 H1 S1 p fr r => by
    unfold asT at p
    split at p
    · obtain ⟨a, xs, rfl, h1, h2, h3⟩ := Rp.tupI r
      have hl := h3.len
      refine ⟨a, xs, rfl, Same.tup hid_same h1, by omega, by omega, fun q hq => ?_⟩
      have ev1 := ev.step fr
      have r2 : RvAll C α1 ow (upd H1 q (.lst (xs.drop n))) (xs.take n ++ [.ref q]) (‹List D›.take n ++ [.lst (‹List D›.drop n)]) :=
        RpAll.append (RpAll.same (hid_step (same_new hq)) (h3.take n)) (.cons (rv_lst ev1 hq (by rw [List.length_drop]; omega) (h3.drop n)) .nil)
      have fr2 := fr.trans (ev1.nw (o := .lst (xs.drop n)) hq)
      exact hg C α1 ow σ ρ _ S1 _ _ _ _ (ev.step fr2) r2 p.2.2 fun ow' σ' ρ' p' ev' how _ _ =>
        k.nx _ ow' σ' ρ' _ _ p' ev' (fun i a q => nw i a (by rw [how] at q; exact owWipe_le _ _ q)) (fr2.aft.trans (OwLe.aft (by rw [how]; exact owWipe_le)))
    · exact p.elim
/-! max(xs, default=n) -/
def mMaxDef (mr : MA) (d : Int) : ME := fun ρ S P X => mr ρ S (fun ds S1 => match ds.map S1.rs with
  | [.lst xs] => ∃ ns : List Int, xs = ns.map .int ∧ P (.int (mxD d ns)) S1
  | _ => False) X
theorem de_maxDef {d : Int} (h : DB K mg E tr mr) : DE K mg E (tCKw (rMaxDef K) tr (tCons (tC (.int d)) tNil)) (mMaxDef mr d) := fun C α ow σ ρ H S P X Q e hm hx k =>
  h C α ow σ ρ H S _ X _ e hm hx fun ds vs α1 H1 S1 hm1 f1 r1 => by
    have r1 := r1.rs f1.st
    split at hm1
    · rename_i q
      rw [q] at r1
      obtain ⟨x, rfl, hx⟩ := r1.one
      obtain ⟨ns, rfl, hm1⟩ := hm1
      obtain ⟨a, xs, rfl, h1, h2, h3⟩ := hx.lstI
      rw [h3.intsI] at h1
      exact ⟨a, ns, d, rfl, rfl, SqL.of h1, k _ _ _ H1 _ hm1 f1 (.int _)⟩
    · exact hm1.elim
/-- max of a list of ints, not empty -/
def fMaxL : List D → (D → Prop) → Prop
  | [.lst ds], P => ∃ ns : List Int, ds = ns.map .int ∧ 0 < ns.length ∧ ∀ m, m ∈ ns → (∀ y, y ∈ ns → y ≤ m) → P (.int m)
  | _, _ => False
theorem cd_maxL : CallD K (rMax K) fMaxL := fun mg E C α ow σ ρ H S vs ds P Q e h hm k => by
  unfold fMaxL at hm
  split at hm
  · obtain ⟨x, rfl, hx⟩ := h.one
    obtain ⟨ns, rfl, h0, hm⟩ := hm
    obtain ⟨a, xs, rfl, h1, h2, h3⟩ := hx.lstI
    rw [h3.intsI] at h1
    exact ⟨a, ns, rfl, SqL.of h1, h0, fun m h4 h5 => k _ _ H (hm m h4 h5) e.go (.int _)⟩
  · exact hm.elim
end
end Nc

namespace Nc
open PySem PySem.Spec PyProof.Rows L2
/-! ## raising, on data -/
section
variable {K : PySem.W.Frag} {mg : Str → Option Value} {E : XK} {F : Bool}
def kRaise1 (cls nm f : Str) (mr : MA) : MS := fun ρ S e => mr ρ S (fun ds S1 => match ds with
  | [x] => e.ex ⟨cls, [(f, x), ("called", .str nm)]⟩ S1
  | _ => False) e.ex
def kRaise0 (cls nm : Str) : MS := fun _ S e => e.ex ⟨cls, [("called", .str nm)]⟩ S
theorem ds_raise1 {C : Addr} {cls nm f : Str} {tr : TA} {mr : MA} (T : OexC K C) (f1 : fldOk K C "called") (f2 : fldOk K C f) (hm : mg cls = some (.ref C)) (hn : nm.length ≤ sizeLine) (h : DA K mg E tr mr) :
    DS K mg E F (fun _ σ H => tMkO C (sp_init1 nm f K) [] tr σ H fun c d H' => E c d H') (kRaise1 cls nm f mr) := fun Cy α ow σ ρ H S e Dn ev nw hm' k =>
  h Cy α ow σ ρ H S _ _ _ ev hm' k.ex fun ds vs α1 H1 S1 p fr r => by
    split at p
    · cases r with
      | cons r1 t =>
        cases t
        rename_i x v
        refine ⟨by simp, fun a ha => ⟨a, C, v, rfl, T, f1, f2, upd_same, fun d hd hne => ⟨rfl, d, [(f, v), ("called", .str nm)], upd_same, ?_, ?_, ?_⟩⟩⟩
        · rw [upd_ne hne]; exact upd_same
        · rw [upd_ne hne] at hd; exact hd
        · rw [upd_ne hne] at hd
          have e1 : upd (L2.del (upd (upd (upd H1 a (exo a C none)) d (exd d [(f, v), ("called", .str nm)])) a (exo a C (some d))) a) d (.xd [(f, v), ("called", .str nm)]) = upd H1 d (.xd [(f, v), ("called", .str nm)]) := by
            rw [upd_comm (Ne.symm hne) (H := H1), upd_upd]
            exact del_upd_new ha hne
          rw [e1]
          have ev1 := ev.step fr
          have g2 := ev1.nw (o := .xd [(f, v), ("called", .str nm)]) hd
          refine k.ex _ _ _ _ _ _ p ((ev1.step g2).go0) ⟨hm, d, _, rfl, upd_same, rfl, .cons ?_ (.cons (.str hn) .nil)⟩
          exact (Rv.go g2 r1).out
    · exact p.elim
theorem ds_raise0 {C : Addr} {cls nm : Str} (T : OexC K C) (f1 : fldOk K C "called") (hm : mg cls = some (.ref C)) (hn : nm.length ≤ sizeLine) :
    DS K mg E F (fun _ σ H => tMkO C (sp_initN nm K) [] tNil σ H fun c d H' => E c d H') (kRaise0 cls nm) := fun Cy α ow σ ρ H S e Dn ev nw hm' k => by
  refine ⟨by simp, fun a ha => ⟨a, C, rfl, T, f1, upd_same, fun d hd hne => ⟨rfl, d, [("called", .str nm)], upd_same, ?_, ?_, ?_⟩⟩⟩
  · rw [upd_ne hne]; exact upd_same
  · rw [upd_ne hne] at hd; exact hd
  · rw [upd_ne hne] at hd
    have e1 : upd (L2.del (upd (upd (upd H a (exo a C none)) d (exd d [("called", .str nm)])) a (exo a C (some d))) a) d (.xd [("called", .str nm)]) = upd H d (.xd [("called", .str nm)]) := by
      rw [upd_comm (Ne.symm hne) (H := H), upd_upd]
      exact del_upd_new ha hne
    rw [e1]
    have g2 := ev.nw (o := .xd [("called", .str nm)]) hd
    exact k.ex _ _ _ _ _ _ hm' ((ev.step g2).go0) ⟨hm, d, _, rfl, upd_same, rfl, .cons (.str hn) .nil⟩
/-! ## dicts of the top -/
variable {ta : TE} {ma : ME}
def vD : V → D
  | .int i => .int i | .str z => .str z
  | _ => .non
def okV : V → Bool
  | .int _ => true
  | .str z => decide (z.length ≤ sizeLine)
  | _ => false
def mInTbl (kvs : List (Str × V)) (ma : ME) : ME := fun ρ S P X => ma ρ S (fun d S1 => asStr (fun z => P (.bl (kvs.lookup z).isSome) S1) d) X
theorem de_inTbl {d : Addr} {kvs : List (Str × V)} (ht : tblIs K d kvs = true) (ha : DQ K mg E ta ma) : DE K mg E (tOp (rInTbl K d) ta (tC (.ref d))) (mInTbl kvs ma) := fun C α ow σ ρ H S P X Q e hm hx k =>
  ha C α ow σ ρ H S _ X _ e hm hx fun a x α1 H1 S1 hm1 f1 s1 => by
    unfold asStr at hm1
    split at hm1
    · rename_i z
      have t := tbl_ns ht z
      cases q : kvs.lookup z with
      | none =>
        rw [q] at hm1
        exact ⟨z, none, s1.strI.1, rfl, t.2 q, k _ _ _ H1 _ hm1 f1 (.bl _)⟩
      | some v =>
        rw [q] at hm1
        obtain ⟨u, h1, _⟩ := t.1 v q
        exact ⟨z, some u, s1.strI.1, rfl, h1, k _ _ _ H1 _ hm1 f1 (.bl _)⟩
    · exact hm1.elim
def mIxTbl (kvs : List (Str × V)) (ma : ME) : ME := fun ρ S P X => ma ρ S (fun d S1 => asStr (fun z => match kvs.lookup z with
  | some v => P (vD v) S1
  | none => False) d) X
theorem lookup_okV {kvs : List (Str × V)} {z : Str} {v : V} (h : kvs.all (fun p => okV p.2) = true) (e : kvs.lookup z = some v) : okV v = true := by
  induction kvs with
  | nil => cases e
  | cons p r ih =>
    obtain ⟨x, u⟩ := p
    rw [List.all_cons, Bool.and_eq_true_iff] at h
    rw [List.lookup_cons] at e
    split at e
    · cases e; exact h.1
    · exact ih h.2 e
theorem rp_vD {mg : Str → Option Value} {β : BG} {α : List Addr} {H : Hp} {v : V} (h : okV v = true) : Rp K mg β α H v (vD v) := by
  unfold okV at h
  split at h
  · exact .int _
  · exact .str (of_decide_eq_true h)
  · cases h
theorem de_ixTbl {w : World} {d : Addr} {kvs : List (Str × V)} (hd : ∃ es n, KDict K w d es n) (ht : tblIs K d kvs = true) (hk : kvs.all (fun p => okV p.2) = true) (ha : DQ K mg E ta ma) : DE K mg E (tOp (rIxD K w) (tC (.ref d)) ta) (mIxTbl kvs ma) := fun C α ow σ ρ H S P X Q e hm hx k =>
  ha C α ow σ ρ H S _ X _ e hm hx fun a x α1 H1 S1 hm1 f1 s1 => by
    unfold asStr at hm1
    split at hm1
    · rename_i z
      have t := tbl_ns ht z
      split at hm1
      · rename_i v q
        obtain ⟨u, h1, h2⟩ := t.1 v q
        obtain ⟨es, n, D⟩ := hd
        exact ⟨d, z, v, rfl, s1.strI.1, ⟨es, n, u, D.at_, D.lit, h1, h2⟩, k _ _ _ H1 _ hm1 f1 (rp_vD (lookup_okV hk q))⟩
      · exact hm1.elim
    · exact hm1.elim
/-! {'a': 1, ..}.get(e, v) -/
def inrs (kvs : List (Str × V)) : List (Key × V) := kvs.map fun p => (Sum.inr p.1, p.2)
theorem pairs_const {σ : L2.St} {kvs : List (Str × V)} {H : Hp} {R : List (V × V) → Hp → Prop} (h : R ((inrs kvs).map fun kv => (kV kv.1, kv.2)) H) : tPairs (kvs.map fun p => (tC (.str p.1), tC p.2)) σ H R := by
  induction kvs generalizing R with
  | nil => exact h
  | cons p r ih => exact ih (R := fun ps H2 => R ((.str p.1, p.2) :: ps) H2) h
theorem lookup_none {kvs : List (Str × V)} {z : Str} (h : z ∉ kvs.map (·.1)) : kvs.lookup z = none := by
  induction kvs with
  | nil => rfl
  | cons p r ih =>
    obtain ⟨x, v⟩ := p
    rw [List.map_cons, List.mem_cons, not_or] at h
    rw [List.lookup_cons, beq_eq_false_iff_ne.mpr h.1]
    exact ih h.2
theorem valV_inrs' {kvs : List (Str × V)} {z : Str} : ∀ {acc : List (Key × V)}, (kvs.map (·.1)).Nodup → valV (mergeK acc (inrs kvs)) (Sum.inr z) = (kvs.lookup z).or (valV acc (Sum.inr z)) := by
  induction kvs with
  | nil => intro acc _; rfl
  | cons p r ih =>
    intro acc hn
    obtain ⟨x, v⟩ := p
    rw [List.map_cons, List.nodup_cons] at hn
    show valV (mergeK (putK acc (Sum.inr x) v) (inrs r)) (Sum.inr z) = _
    rw [ih hn.2, valV_put, List.lookup_cons]
    by_cases q : z = x
    · subst q
      rw [lookup_none hn.1]
      simp
    · rw [beq_eq_false_iff_ne.mpr q, if_neg (fun w => q (Sum.inr.inj w))]
theorem valV_inrs {kvs : List (Str × V)} (hn : (kvs.map (·.1)).Nodup) (z : Str) : valV (mergeK [] (inrs kvs)) (Sum.inr z) = kvs.lookup z := by
  rw [valV_inrs' hn]
  cases kvs.lookup z <;> rfl
def mDispGet (kvs : List (Str × V)) (v0 : V) (ma : ME) : ME := fun ρ S P X => ma ρ S (fun d S1 => asStr (fun z => P (vD ((kvs.lookup z).getD v0)) S1) d) X
theorem de_dispGet {kvs : List (Str × V)} {v0 : V} {tx : TE} (htx : ∀ (σ : L2.St) (H : Hp) (Q : VK), Q v0 H → tx σ H Q) (hl : kvs.length ≤ 15) (hk : kvs.all (fun p => okV p.2) = true) (h0 : okV v0 = true) (hv : ∀ z, valV (mergeK [] (inrs kvs)) (Sum.inr z) = kvs.lookup z) (ha : DQ K mg E ta ma) :
    DE K mg E (tDGet2 (tDisp (kvs.map fun p => (tC (.str p.1), tC p.2))) ta tx) (mDispGet kvs v0 ma) := fun C α ow σ ρ H S P X Q e hm hx k p hp => by
  refine pairs_const (R := _) ⟨upd_same, inrs kvs, rfl, by unfold inrs; rw [List.length_map]; exact hl, ?_⟩
  rw [upd_upd]
  have fr1 := e.nw (o := .dK (mergeK [] (inrs kvs))) hp
  refine ⟨p, rfl, .inl ⟨_, .inl upd_same⟩, ha C α ow σ ρ _ S _ X _ (e.step fr1) hm hx fun a x α1 H1 S1 hm1 f1 s1 => ?_⟩
  unfold asStr at hm1
  split at hm1
  · rename_i z
    have hp1 : H1 p = some (.dK (mergeK [] (inrs kvs))) := f1.fr.keep p _ (fun b l ns q => ((e.bg.bag b l ns q).neB hp).1) (e.npα hp) upd_same (by intro _ z; cases z)
    have hz := s1.strI.1
    subst hz
    refine htx _ _ _ ⟨kvs.lookup z, by rw [← hv z]; exact DGet.k (k := Sum.inr z) hp1, k _ _ _ H1 _ hm1 (fr1.trans f1) ?_⟩
    cases q : kvs.lookup z with
    | none => exact rp_vD h0
    | some v => exact rp_vD (lookup_okV hk q)
  · exact hm1.elim
end
end Nc

namespace Nc
open PySem PySem.Spec PyProof.Rows L2
/-! ## sorted(set(..)), on data -/
theorem mem_insK {κ : Type} [DecidableEq κ] {l : List κ} {k x : κ} : x ∈ insK l k ↔ x ∈ l ∨ x = k := by
  unfold insK
  split
  · rename_i h
    exact ⟨.inl, fun z => z.elim id fun z => z ▸ h⟩
  · simp
theorem mem_foldK {κ : Type} [DecidableEq κ] {xs : List κ} {x : κ} : x ∈ foldK xs ↔ x ∈ xs := by
  unfold foldK
  have g : ∀ (xs acc : List κ), x ∈ xs.foldl insK acc ↔ x ∈ acc ∨ x ∈ xs := fun xs => by
    induction xs with
    | nil => intro acc; simp
    | cons y r ih => intro acc; rw [List.foldl_cons, ih, mem_insK, List.mem_cons, or_assoc]
  rw [g]
  simp
theorem nodup_foldK {κ : Type} [DecidableEq κ] {xs : List κ} : (foldK xs).Nodup := by
  unfold foldK
  have g : ∀ (xs acc : List κ), acc.Nodup → (xs.foldl insK acc).Nodup := fun xs => by
    induction xs with
    | nil => exact fun acc h => h
    | cons y r ih =>
      intro acc h
      refine ih _ ?_
      unfold insK
      split
      · exact h
      · rw [List.nodup_append]
        exact ⟨h, by simp, fun a ha b hb => by rw [List.mem_singleton.mp hb]; exact fun z => ‹y ∉ acc› (z ▸ ha)⟩
  exact g xs [] List.nodup_nil
section
variable {K : PySem.W.Frag} {mg : Str → Option Value} {E : XK} {ta : TE} {ma : ME} {Pg : Program} {w : World}
def mSortSet (ma : ME) : ME := fun ρ S P X => ma ρ S (fun d S1 => asL (fun ds => ∃ xs : List Str, ds = xs.map .str ∧ (foldK xs).length < 64 ∧ xs.length + 1 < scanBound ∧ ∀ ys : List Str, ys.Perm (foldK xs) → sortedS ys = true → P (.lst (ys.map .str)) S1) (S1.rs d)) X
theorem de_sortSet (ha : DQ K mg E ta ma) : DE K mg E (tCB (rSortX Pg w) (tCons (tCB (rSetS K Pg w) (tCons ta tNil)) tNil)) (mSortSet ma) := fun C α ow σ ρ H S P X Q e hm hx k =>
  ha C α ow σ ρ H S _ X _ e hm hx fun d v α1 H1 S1 hm1 f1 s1 => by
    have s1 := s1.rs f1.st
    unfold asL at hm1
    split at hm1
    · rename_i q
      rw [q] at s1
      obtain ⟨xs, rfl, few, hb, hm1⟩ := hm1
      obtain ⟨a, vs, rfl, h1, h2, h3⟩ := s1.lstI
      have hz := RpAll.strLen h3
      rw [h3.strsI] at h1
      refine ⟨a, xs, rfl, SqL.of h1, hb, fun q hq => ⟨q, foldK xs, rfl, upd_same, few, fun ys p pm so hp => ?_⟩⟩
      have fr := f1.trans ((e.step f1).nw (o := SetXO (strKind Pg w) q (foldK xs)) hq)
      refine k _ _ _ _ _ (hm1 ys pm so) (fr.trans ((e.step fr).nw hp)) (rv_lst (e.step fr) hp ?_ (RpAll.strs fun z hzz => hz z (mem_foldK.mp (pm.mem_iff.mp hzz))))
      rw [List.length_map, pm.length_eq, sizeLine_eq]
      omega
    · exact hm1.elim
end
end Nc

namespace Nc
open PySem PySem.Spec PyProof.Rows L2
/-! ## a law's start -/
def sp_law (K : PySem.W.Frag) (T : List (Addr × Str)) : Sp := fun vs H Q _ => ∃ (a : Addr) (ns : List Int), vs = [.ref a] ∧ SqL K H a (ns.map V.int) ∧ ns.length ≤ 63 ∧ LamX.Tabs T H ∧ ∀ H', Q (.bl true) H'
section
variable {K : PySem.W.Frag} {mg : Str → Option Value} {E : XK}
def okEnds : Pn := ⟨fun _ _ => False, fun d _ => d = .bl true, fun _ _ => False, fun _ _ => False, fun _ _ => False⟩
/-- a law's bag is made, then it runs on -/
theorem law_start {n : Nat} {N : List Str} {u : TS} {m : MS} {vs : List V} {H : Hp} {Q : VK} {T : List (Addr × Str)} (hN : N.length = n + 2) (h : DS K mg E false u m) (hm : m ([.un, .va .bag] ++ List.replicate n .un) [] okEnds) (s : sp_law K T vs H Q E) :
    tSeq (tAsg (tCall (sp_bag K) [] E (tCons (tVar 0) tNil)) (gName 1)) u { nx := fun _ H' => Q .non H', rt := Q } (L2.start N vs) H := by
  obtain ⟨a, ns, rfl, hS, hl, hT, k⟩ := s
  have es : L2.start N [V.ref a] = some (.ref a) :: none :: List.replicate n none := by
    unfold L2.start
    rw [hN]
    rfl
  rw [es]
  refine ⟨_, rfl, a, ns, rfl, hS, hl, fun b l H1 s1 hb hB => ?_⟩
  show u _ (some (.ref a) :: some (.ref b) :: List.replicate n none) H1
  let C : Cy K mg E := ⟨⟨some (b, l, ns), T⟩, fun a => a = b, H1, [], ⟨fun b' l' ns' q => (by cases q; exact hB), hT.ext s1⟩, fun b' l' ns' q => (by cases q; rfl), fun a z => (by obtain ⟨_, q⟩ := hB.here; rw [z, q]; simp), fun a z => (by cases z)⟩
  have ev : Ev C [] ow0 (some (.ref a) :: some (.ref b) :: List.replicate n none) ([.un, .va .bag] ++ List.replicate n .un) H1 [] := by
    refine ⟨fun i => ?_, fun _ _ _ h => (by cases h), fun _ _ h => (by cases h), Fr.refl C.b0, ⟨rfl, List.nodup_nil, fun a z => (by cases z), fun a z => (by cases z), fun i a z => (by cases z), fun i a o z => (by simp at z)⟩⟩
    match i with
    | 0 => exact .un
    | 1 => exact .va (.bag rfl)
    | i + 2 =>
      show SlOk C [] ow0 H1 none (List.replicate n none)[i]? (List.replicate n Sl.un)[i]?
      rw [List.getElem?_replicate, List.getElem?_replicate]
      split
      · exact .un
      · exact .out
  exact h C [] _ _ _ _ [] okEnds _ ev (fun _ _ h => (by cases h)) hm ⟨fun _ _ _ _ _ _ p => p.elim, fun _ _ _ _ _ _ p => p.elim, fun _ _ _ _ _ _ p => p.elim, fun _ d v α' H' S' p f r => (by cases p; rw [Rp.blI r]; exact k H'), fun z => (by cases z), fun _ _ _ _ _ _ p => p.elim⟩
end
end Nc

namespace Nc
open PySem PySem.Spec PyProof.Rows L2
/-! ## objects, on data -/
section
variable {K : PySem.W.Frag} {mg : Str → Option Value} {E : XK} {C : Cy K mg E} {α α' α1 : List Addr} {ow : OwS} {σ : L2.St} {ρ : Env} {H H' : Hp} {S S' : Sto} {F : Bool}
variable {ta tv te : TE} {ma mv me : ME} {tr : TA} {mr : MA}
/-- an object is written -/
theorem same_ob {i : Nat} {a : Addr} {o : HO} (hi : α[i]? = some a) : Same (hid (C.hd α ow) H) (hid (C.hd α ow) (upd H a o)) := fun b o' q => by
  obtain ⟨q1, q2⟩ := hid_some q
  have hne : b ≠ a := fun z => q1 (.inr (.inl (by rw [z]; exact List.mem_of_getElem? hi)))
  exact hid_get q1 (by rw [upd_ne hne]; exact q2) (hid_nt q)
theorem Ev.wrOb (e : Ev C α ow σ ρ H S) {i : Nat} {a : Addr} {o : HO} {u : Ob} (hi : α[i]? = some a) (hb : ObOk K mg C.β α (C.hd α ow) (upd H a o) a u) : Go C ow α H α (upd H a o) (S.set i u) := by
  have hm := List.mem_of_getElem? hi
  refine ⟨(Fr.refl e.bg).wr hm (fun b l ns q => ⟨fun z => e.st.nA a hm (by rw [z]; exact C.hb b l ns q), fun z => e.st.nL a hm b l ns q z⟩) (e.st.obTabs e.bg.tab hi), ⟨by rw [List.length_set]; exact e.st.len, e.st.nd, e.st.nA, e.st.nL, e.st.no, fun j b v h1 h2 => ?_⟩⟩
  by_cases hj : j = i
  · subst hj
    rw [hi] at h1
    cases h1
    have hl : j < S.length := by rw [← e.st.len]; exact (List.getElem?_eq_some_iff.mp hi).1
    rw [List.getElem?_set_self hl] at h2
    cases h2
    exact hb
  · rw [List.getElem?_set_ne (Ne.symm hj)] at h2
    have hne : b ≠ a := fun z => by
      rw [z] at h1
      have l1 := (List.getElem?_eq_some_iff.mp h1)
      have l2 := (List.getElem?_eq_some_iff.mp hi)
      exact hj ((List.getElem_inj e.st.nd).mp (l1.2.trans l2.2.symm))
    exact (e.st.ob j b v h1 h2).mono (List.prefix_refl _) (same_ob hi) fun w q _ => by rw [upd_ne hne]; exact q
theorem fld_look {β : BG} {fs : List (Str × V)} {gs : List (Str × D)} {f : Str} {x : D} : fs.map (·.1) = gs.map (·.1) → RpAll K mg β α H (fs.map (·.2)) (gs.map (·.2)) → gs.lookup f = some x → ∃ v, fs.lookup f = some v ∧ Rp K mg β α H v x := by
  induction fs generalizing gs with
  | nil =>
    intro h _ e
    cases gs with
    | nil => cases e
    | cons _ _ => cases h
  | cons p fs ih =>
    intro h r e
    cases gs with
    | nil => cases h
    | cons q gs =>
      obtain ⟨p1, p2⟩ := p
      obtain ⟨q1, q2⟩ := q
      injection h with h1 h2
      cases r with
      | cons r t =>
        simp only at h1
        subst h1
        rw [List.lookup_cons] at e ⊢
        split at e
        · cases e
          exact ⟨_, rfl, r⟩
        · exact ih h2 t e
/-- what an instance of c holds -/
def Sto.fields (S : Sto) (c : Str) : D → Option (List (Str × D))
  | .ob i => match S[i]? with
    | some (.ins c' gs) => if c' = c then some gs else none
    | _ => none
  | .ins c' ns ds => if c' = c ∧ ns.length = ds.length then some (ns.zip ds) else none
  | _ => none
theorem fields_ok {c : Str} {d : D} {v : V} {gs : List (Str × D)} (st : StOk C α ow H S) (r : Rv C α ow H v d) (h : S.fields c d = some gs) :
    ∃ (a Ca dx : Addr) (fs : List (Str × V)), v = .ref a ∧ mg c = some (.ref Ca) ∧ H a = some (.ins Ca dx fs) ∧ fs.map (·.1) = gs.map (·.1) ∧ RvAll C α ow H (fs.map (·.2)) (gs.map (·.2)) := by
  unfold Sto.fields at h
  split at h
  · rename_i i
    obtain ⟨a, rfl, hi⟩ := Rp.obI r
    split at h
    · rename_i c' gs' hs
      split at h
      · cases h
        subst c'
        have := st.ob i a _ hi hs
        cases this with
        | ins h1 h2 h3 h4 => exact ⟨a, _, _, _, rfl, h1, h2, h3, h4⟩
      · cases h
    · cases h
  · rename_i c' ns ds
    split at h
    · rename_i hq
      cases h
      obtain ⟨rfl, hl⟩ := hq
      obtain ⟨a, Ca, dx, fs, rfl, h1, h2, h3, h4⟩ := Rp.insI r
      refine ⟨a, Ca, dx, fs, rfl, h1, hid_same _ _ h2, ?_, ?_⟩
      · rw [List.map_fst_zip (by omega)]; exact h3.symm
      · rw [List.map_snd_zip (by omega)]; exact h4
    · cases h
  · cases h
/-- o.f -/
def mFld (c f : Str) (ma : ME) : ME := fun ρ S P X => ma ρ S (fun d S1 => match (S1.fields c d).bind (·.lookup f) with
  | some x => P x S1
  | none => False) X
theorem de_fld {c f : Str} {Ca : Addr} (hc : mg c = some (.ref Ca)) (h1 : Cls K Ca) (h2 : NoAttr K Ca f) (h : DE K mg E ta ma) : DE K mg E (tFld K ta f) (mFld c f ma) := fun C α ow σ ρ H S P X Q e hm hx k =>
  h C α ow σ ρ H S _ X _ e hm hx fun d v α1 H1 S1 p g r => by
    split at p
    · rename_i x hq
      cases hz : S1.fields c d with
      | none => rw [hz] at hq; cases hq
      | some gs =>
        rw [hz] at hq
        obtain ⟨a, C', dx, fs, rfl, e1, e2, e3, e4⟩ := fields_ok g.st r hz
        rw [hc] at e1
        cases e1
        obtain ⟨v, q1, q2⟩ := fld_look e3 e4 hq
        exact ⟨a, Ca, dx, fs, v, rfl, e2, h1, h2, q1, k x v α1 H1 S1 p g q2⟩
    · exact p.elim
/-! a new object of the store -/
theorem Ev.newOb (e : Ev C α ow σ ρ H S) (g : Fr C.β α H α' H') (st : StOk C α' ow H' S') {p : Addr} {o : Ob} (hp : H p = none) (np : p ∉ α')
    (os : ∀ (i : Nat) (a : Addr) (u : Ob), α'[i]? = some a → S'[i]? = some u → ObOk K mg C.β α' (fun a => C.hd α' ow a ∨ a = p) H' a u)
    (ob : ObOk K mg C.β (α' ++ [p]) (C.hd (α' ++ [p]) ow) H' p o) : Go C ow α H (α' ++ [p]) H' (S' ++ [o]) := by
  have hd2 : ∀ a, C.hd (α' ++ [p]) ow a → C.hd α' ow a ∨ a = p := fun a z => by
    rcases z with z | z | z
    · exact .inl (.inl z)
    · rcases List.mem_append.mp z with z | z
      · exact .inl (.inr (.inl z))
      · exact .inr (List.mem_singleton.mp z)
    · exact .inl (.inr (.inr z))
  refine ⟨⟨g.b0, g.pre.trans (List.prefix_append _ _), g.bag, g.keep, g.stay, fun a z => ?_⟩, ⟨?_, ?_, fun a z => ?_, fun a z => ?_, fun i a h z => ?_, fun i a u h1 h2 => ?_⟩⟩
  · rcases List.mem_append.mp z with z | z
    · exact g.new a z
    · rw [List.mem_singleton.mp z]; exact .inr hp
  · rw [List.length_append, List.length_append, st.len]; rfl
  · rw [List.nodup_append]
    exact ⟨st.nd, by simp, fun a ha b hb q => np (by rw [← List.mem_singleton.mp hb, ← q]; exact ha)⟩
  · rcases List.mem_append.mp z with z | z
    · exact st.nA a z
    · rw [List.mem_singleton.mp z]; exact fun z => e.stands (.inl z) hp
  · rcases List.mem_append.mp z with z | z
    · exact st.nL a z
    · rw [List.mem_singleton.mp z]
      exact fun b l ns q w => by
        have := (e.bg.bag b l ns q).someL
        rw [← w, hp] at this
        cases this
  · rcases List.mem_append.mp z with z | z
    · exact st.no i a h z
    · rw [List.mem_singleton.mp z] at h
      exact e.stands (.inr (.inr ⟨i, h⟩)) hp
  · by_cases hi : i < α'.length
    · rw [List.getElem?_append_left hi] at h1
      rw [List.getElem?_append_left (by rw [← st.len]; exact hi)] at h2
      exact (os i a u h1 h2).mono (List.prefix_append _ _) (hid_mono fun a z => hd2 a z) fun _ q _ => q
    · rw [List.getElem?_append_right (by omega)] at h1
      rw [List.getElem?_append_right (by rw [← st.len]; omega), ← st.len] at h2
      cases hn : i - α'.length with
      | zero =>
        rw [hn] at h1 h2
        cases h1
        cases h2
        exact ob
      | succ n => rw [hn] at h1; cases h1
def Ob.of : D → Option Ob
  | .lst ds => some (.lst ds)
  | .dic ks ds => some (.dic ks ds)
  | _ => none
theorem OwB.obOk {β : BG} {B : Addr → Prop} {a : Addr} {d : D} {o : Ob} (h : OwB K mg β α B H a d) (e : Ob.of d = some o) : ObOk K mg β α B H a o := by
  cases h with
  | lst h1 h2 h3 => cases e; exact .lst h1 h2 h3
  | dK h1 h2 h3 => cases e; exact .dK h1 h2 h3
/-- a new list or dict, kept as an object that changes -/
def mNew (m : ME) : ME := fun ρ S P X => m ρ S (fun d S1 => match Ob.of d with
  | some o => P (.ob S1.length) (S1 ++ [o])
  | none => False) X
theorem de_new {t : TE} {m : ME} (h : DF K mg E t m) : DE K mg E t (mNew m) := fun C α ow σ ρ H S P X Q e hm hx k =>
  h C α ow σ ρ H S _ X _ e hm hx fun d p α1 H1 S1 pd g hp nu => by
    split at pd
    · rename_i o ho
      have hB : ∀ a, C.hd (α1 ++ [p]) ow a → C.hd α1 ow a ∨ a = p := fun a z => by
        rcases z with z | z | z
        · exact .inl (.inl z)
        · rcases List.mem_append.mp z with z | z
          · exact .inl (.inr (.inl z))
          · exact .inr (List.mem_singleton.mp z)
        · exact .inl (.inr (.inr z))
      have g2 := e.newOb g.fr g.st (o := o) hp nu.np nu.os ((OwB.mono (List.prefix_append _ _) (Same.refl _) (fun _ q _ => q) (nu.ob _ hB)).obOk ho)
      refine k _ _ _ _ _ pd g2 (.ob ?_)
      rw [← g.st.len, List.getElem?_append_right (Nat.le_refl _), Nat.sub_self]
      rfl
    · exact pd.elim
/-! o.f = e -/
def putD (f : Str) (d : D) : List (Str × D) → List (Str × D)
  | [] => [(f, d)]
  | (g, x) :: r => if g = f then (g, d) :: r else (g, x) :: putD f d r
theorem putD_length {f : Str} {d : D} : ∀ {gs : List (Str × D)}, (putD f d gs).length ≤ gs.length + 1
  | [] => Nat.le_refl _
  | (g, x) :: r => by
    unfold putD
    split
    · exact Nat.le_succ _
    · exact Nat.succ_le_succ putD_length
theorem put_rel {β : BG} {f : Str} {v : V} {d : D} (r : Rp K mg β α H v d) : ∀ {fs : List (Str × V)} {gs : List (Str × D)}, fs.map (·.1) = gs.map (·.1) → RpAll K mg β α H (fs.map (·.2)) (gs.map (·.2)) →
    (putF f v fs).map (·.1) = (putD f d gs).map (·.1) ∧ RpAll K mg β α H ((putF f v fs).map (·.2)) ((putD f d gs).map (·.2))
  | [], [], _, _ => ⟨rfl, .cons r .nil⟩
  | [], _ :: _, h, _ => by cases h
  | _ :: _, [], h, _ => by cases h
  | (p1, p2) :: fs, (q1, q2) :: gs, h, t => by
    injection h with h1 h2
    simp only at h1
    subst h1
    cases t with
    | cons t1 t2 =>
      unfold putF putD
      split
      · exact ⟨by rw [List.map_cons, List.map_cons, h2], .cons r t2⟩
      · obtain ⟨a, b⟩ := put_rel r h2 t2
        exact ⟨by rw [List.map_cons, List.map_cons, a], .cons t1 b⟩
def kFSet (c f : Str) (mv mo : ME) : MS := fun ρ S e => mv ρ S (fun x S1 => mo ρ S1 (fun d S2 => match d with
  | .ob i => match S2[i]? with
    | some (.ins c' gs) => c' = c ∧ gs.length < 1000 ∧ e.nx ρ (S2.set i (.ins c (putD f x gs)))
    | _ => False
  | _ => False) e.ex) e.ex
theorem ds_fset {c f : Str} {Ca : Addr} (hc : mg c = some (.ref Ca)) (h1 : Cls K Ca) (h2 : NoAttr K Ca f) (hv : DE K mg E tv mv) (ha : DE K mg E ta ma) : DS K mg E F (sFld K ta tv f) (kFSet c f mv ma) := fun C α ow σ ρ H S e Dn ev nw hm k =>
  hv C α ow σ ρ H S _ _ _ ev hm k.ex fun x y α1 H1 S1 p1 g1 r1 => ha C α1 ow σ ρ H1 S1 _ _ _ (ev.step g1) p1 k.ex fun d v α2 H2 S2 p2 g2 r2 => by
    split at p2
    · rename_i i
      split at p2
      · rename_i c' gs hs
        obtain ⟨rfl, hl, p2⟩ := p2
        obtain ⟨a, rfl, hi⟩ := Rp.obI r2
        have ev2 := (ev.step g1).step g2
        have ob := g2.st.ob i a _ hi hs
        cases ob with
        | @ins C0 dx _ fs _ e1 e2 e3 e4 =>
          rw [hc] at e1
          cases e1
          obtain ⟨q1, q2⟩ := put_rel (f := f) (Rv.go g2 r1) e3 e4
          have hlen : fs.length < 1000 := by
            have := congrArg List.length e3
            rw [List.length_map, List.length_map] at this
            omega
          have g3 := ev2.wrOb (o := .ins Ca dx (putF f y fs)) hi (.ins hc upd_same q1 (RpAll.same (same_ob hi) q2))
          exact ⟨a, Ca, dx, fs, rfl, e2, h1, h2, hlen, k.nx α2 ow _ _ _ _ p2 (ev2.step g3) nw (((g1.trans g2).trans g3).aft)⟩
      · exact p2.elim
    · exact p2.elim
/-- o.f += e -/
def kFAug (c f : Str) (fo : D → D → (D → Prop) → Prop) (mo mv : ME) : MS := fun ρ S e => mo ρ S (fun d S1 => match d with
  | .ob i => match S1[i]? with
    | some (.ins c' gs) => c' = c ∧ match gs.lookup f with
      | some x => mv ρ S1 (fun y S2 => fo x y fun z => match S2[i]? with
        | some (.ins c2 gs2) => c2 = c ∧ gs2.length < 1000 ∧ e.nx ρ (S2.set i (.ins c (putD f z gs2)))
        | _ => False) e.ex
      | none => False
    | _ => False
  | _ => False) e.ex
theorem ds_faug {c f : Str} {Ca : Addr} {g : Int → Int → Int} (hc : mg c = some (.ref Ca)) (h1 : Cls K Ca) (h2 : NoAttr K Ca f) (ha : DE K mg E ta ma) (hv : DE K mg E tv mv) :
    DS K mg E F (sFldAug K ta tv (fun x y H Q => ∃ i j, x = .int i ∧ y = .int j ∧ Q (.int (g i j)) H) f) (kFAug c f (fI0 fun i j => .int (g i j)) ma mv) := fun C α ow σ ρ H S e Dn ev nw hm k =>
  ha C α ow σ ρ H S _ _ _ ev hm k.ex fun d v α1 H1 S1 p1 g1 r1 => by
    split at p1
    · rename_i i
      split at p1
      · rename_i c' gs hs
        obtain ⟨rfl, p1⟩ := p1
        split at p1
        · rename_i x hx
          obtain ⟨a, rfl, hi⟩ := Rp.obI r1
          have ev1 := ev.step g1
          have ob := g1.st.ob i a _ hi hs
          cases ob with
          | @ins C0 dx _ fs _ e1 e2 e3 e4 =>
            rw [hc] at e1
            cases e1
            obtain ⟨xv, q1, q2⟩ := fld_look e3 e4 hx
            refine ⟨a, Ca, dx, fs, xv, rfl, e2, h1, h2, q1, hv C α1 ow σ ρ H1 S1 _ _ _ ev1 p1 k.ex fun y yv α2 H2 S2 p2 g2 r2 => ?_⟩
            unfold fI0 at p2
            split at p2
            · have ev2 := ev1.step g2
              split at p2
              · rename_i c2 gs2 hs2
                obtain ⟨rfl, hl2, p2⟩ := p2
                have ob2 := g2.st.ob i a _ (pre_get g2.fr.pre hi) hs2
                cases ob2 with
                | @ins C1 dx2 _ fs2 _ w1 w2 w3 w4 =>
                  rw [hc] at w1
                  cases w1
                  refine ⟨_, _, Rp.intI q2, Rp.intI r2, dx2, fs2, w2, ?_, ?_⟩
                  · have := congrArg List.length w3
                    rw [List.length_map, List.length_map] at this
                    omega
                  · obtain ⟨z1, z2⟩ := put_rel (f := f) (.int _) w3 w4
                    have g3 := ev2.wrOb (o := .ins Ca dx2 (putF f _ fs2)) (pre_get g2.fr.pre hi) (.ins hc upd_same z1 (RpAll.same (same_ob (pre_get g2.fr.pre hi)) z2))
                    exact k.nx α2 ow _ _ _ _ p2 (ev2.step g3) nw (((g1.trans g2).trans g3).aft)
              · exact p2.elim
            · exact p2.elim
        · exact p1.elim
      · exact p1.elim
    · exact p1.elim
/-! C(..) -/
def mMake (c : Str) (m : List D → M D) (dd : List D) (mr : MA) : ME := fun ρ S P X => mr ρ S (fun ds S1 => m (.ob S1.length :: (ds ++ dd)) (S1 ++ [.ins c []]) (fun d S2 => d = .non ∧ P (.ob S1.length) S2) X) X
theorem Ev.born (e : Ev C α ow σ ρ H S) {x dx Ca : Addr} {c : Str} (hc : mg c = some (.ref Ca)) (hx : H x = none) (hdx : H dx = none) (hne : dx ≠ x) : Go C ow α H (α ++ [x]) (upd (upd H dx (.own x)) x (.ins Ca dx [])) (S ++ [.ins c []]) := by
  have s1 : Same H (upd (upd H dx (.own x)) x (.ins Ca dx [])) := (same_new hdx).trans (same_new (by rw [upd_ne hne.symm]; exact hx))
  have fr := Fr.of e.bg s1 (α := α)
  refine e.newOb fr (e.st.same s1) hx (e.npα hx) (fun i a u h1 h2 => (e.st.ob i a u h1 h2).mono (List.prefix_refl _) (enterS hx fr) fun _ q _ => s1 _ _ q) (.ins hc upd_same rfl .nil)
theorem de_make {c : Str} {Ca : Addr} {m : List D → M D} {dvs : List V} {dd : List D} (hc : mg c = some (.ref Ca)) (hd : ∀ mg β α H, RpAll K mg β α H dvs dd) (h : DA K mg E tr mr) : DE K mg E (tMake Ca (spD K mg m) dvs E tr) (mMake c m dd mr) := fun C α ow σ ρ H S P X Q e hm hx k =>
  h C α ow σ ρ H S _ X _ e hm hx fun ds vs α1 H1 S1 hm1 g1 r1 x dx hx1 hdx hne => by
    have e1 := e.step g1
    have gb := e1.born (c := c) hc hx1 hdx hne
    have e2 := e1.step gb
    have hi : (α1 ++ [x])[S1.length]? = some x := by
      rw [← g1.st.len, List.getElem?_append_right (Nat.le_refl _), Nat.sub_self]; rfl
    refine ⟨e2.sub, .ob S1.length :: (ds ++ dd), S1 ++ [Ob.ins c []], _, X, rfl, StOk.sub e2, RvAll.sub e2 (.cons (.ob hi) ((RvAll.fr gb.fr r1).append (hd _ _ _ _))), hm1, e2.subX hx, fun d v α' H' S' p g r => ?_⟩
    obtain ⟨rfl, p⟩ := p
    exact ⟨Rp.nonI r, k _ _ _ _ _ p ((g1.trans gb).trans (g.unsub e2)) (.ob (pre_get g.fr.pre hi))⟩
/-- .. of a class whose instances change no more: told as a datum -/
def mMakeV (c : Str) (m : List D → M D) (dd : List D) (mr : MA) : ME := fun ρ S P X => mr ρ S (fun ds S1 => m (.ob S1.length :: (ds ++ dd)) (S1 ++ [.ins c []]) (fun d S2 => d = .non ∧ ∃ gs, S2[S1.length]? = some (.ins c gs) ∧ S2.take S1.length = S1 ∧ D.obsLt S1.length (gs.map (·.2)) = true ∧ P (.ins c (gs.map (·.1)) (gs.map (·.2))) S1) X) X
def Ob.obLt (n : Nat) : Ob → Prop
  | .ins _ gs => D.obsLt n (gs.map (·.2)) = true
  | .lst ds => D.obsLt n ds = true
  | .dic _ ds => D.obsLt n ds = true
theorem StOk.cut {n : Nat} (h : StOk C α ow H S) (hl : ∀ o, o ∈ S.take n → o.obLt n) (hn : n ≤ S.length) : StOk C (α.take n) ow H (S.take n) := by
  have pre : α.take n <+: α := List.take_prefix _ _
  have sub : ∀ a, a ∈ α.take n → a ∈ α := fun a m => List.mem_of_mem_take m
  have hdm : ∀ a, C.hd (α.take n) ow a → C.hd α ow a := fun a z => by
    rcases z with z | z | z
    · exact .inl z
    · exact .inr (.inl (sub a z))
    · exact .inr (.inr z)
  have hlen : (α.take n).length = n := by rw [List.length_take, h.len]; omega
  refine ⟨by rw [List.length_take, List.length_take, h.len], h.nd.sublist (List.take_sublist _ _), fun a m => h.nA a (sub a m), fun a m => h.nL a (sub a m), fun i a q m => h.no i a q (sub a m), fun i a o h1 h2 => ?_⟩
  have hm := List.mem_of_getElem? h2
  have hi : i < n := by
    have := (List.getElem?_eq_some_iff.mp h1).1
    omega
  rw [List.getElem?_take, if_pos hi] at h1 h2
  have ob := (h.ob i a o h1 h2).mono (List.prefix_refl _) (hid_mono hdm) fun _ q _ => q
  have := hl o hm
  cases ob with
  | lst e1 e2 e3 => exact .lst e1 e2 (RpAll.cut pre e3 (by rw [hlen]; exact this))
  | dK e1 e2 e3 => exact .dK e1 e2 (RpAll.cut pre e3 (by rw [hlen]; exact this))
  | ins e0 e1 e2 e3 => exact .ins e0 e1 e2 (RpAll.cut pre e3 (by rw [hlen]; exact this))
theorem StOk.lts (h : StOk C α ow H S) {o : Ob} (m : o ∈ S) : o.obLt S.length := by
  obtain ⟨i, hi⟩ := List.mem_iff_getElem?.mp m
  have hl : i < α.length := by rw [h.len]; exact (List.getElem?_eq_some_iff.mp hi).1
  have ob := h.ob i _ o (List.getElem?_eq_getElem hl) hi
  rw [← h.len]
  cases ob with
  | lst e1 e2 e3 => exact RpAll.obLt e3
  | dK e1 e2 e3 => exact RpAll.obLt e3
  | ins e0 e1 e2 e3 => exact RpAll.obLt e3
theorem de_makeV {c : Str} {Ca : Addr} {m : List D → M D} {dvs : List V} {dd : List D} (hc : mg c = some (.ref Ca)) (hd : ∀ mg β α H, RpAll K mg β α H dvs dd) (h : DA K mg E tr mr) : DE K mg E (tMake Ca (spD K mg m) dvs E tr) (mMakeV c m dd mr) := fun C α ow σ ρ H S P X Q e hm hx k =>
  h C α ow σ ρ H S _ X _ e hm hx fun ds vs α1 H1 S1 hm1 g1 r1 x dx hx1 hdx hne => by
    have e1 := e.step g1
    have gb := e1.born (c := c) hc hx1 hdx hne
    have e2 := e1.step gb
    have hi : (α1 ++ [x])[S1.length]? = some x := by
      rw [← g1.st.len, List.getElem?_append_right (Nat.le_refl _), Nat.sub_self]; rfl
    refine ⟨e2.sub, .ob S1.length :: (ds ++ dd), S1 ++ [Ob.ins c []], _, X, rfl, StOk.sub e2, RvAll.sub e2 (.cons (.ob hi) ((RvAll.fr gb.fr r1).append (hd _ _ _ _))), hm1, e2.subX hx, fun d v α' H' S' p g r => ?_⟩
    obtain ⟨rfl, gs, q1, q2, q3, p⟩ := p
    have ga := (g1.trans gb).trans (g.unsub e2)
    have hpre : α1 <+: α' := (gb.fr.trans g.fr).pre
    have hta : α'.take S1.length = α1 := by
      obtain ⟨t, rfl⟩ := hpre
      rw [← g1.st.len, List.take_append_of_le_length (Nat.le_refl _), List.take_length]
    have hle : S1.length ≤ S'.length := by rw [← ga.st.len, ← g1.st.len]; exact hpre.length_le
    have st := ga.st.cut (n := S1.length) (fun o m => by rw [q2] at m; exact g1.st.lts m) hle
    rw [hta, q2] at st
    have fr : Fr C.β α H α1 H' := ⟨ga.fr.b0, g1.fr.pre, ga.fr.bag, ga.fr.keep, ga.fr.stay, g1.fr.new⟩
    have ob := ga.st.ob _ _ _ (pre_get g.fr.pre hi) q1
    refine ⟨Rp.nonI r, k _ _ _ _ _ p ⟨fr, st⟩ ?_⟩
    cases ob with
    | @ins C0 dx0 _ fs _ w1 w2 w3 w4 =>
      have nx : ¬ C.hd α1 ow x := fun z => e1.stands z hx1
      rw [show gs.map (·.1) = fs.map (·.1) from w3.symm]
      refine .ins w1 (hid_get nx w2) (RpAll.cut hpre ?_ (by rw [g1.st.len]; exact q3))
      refine RpAll.same (hid_mono fun a z => ?_) w4
      rcases z with z | z | z
      · exact .inl z
      · exact .inr (.inl (hpre.subset z))
      · exact .inr (.inr z)
/-! o.m(..) -/
def mMeth (c n : Str) (m : List D → M D) (dd : List D) (mo : ME) (mr : MA) : ME := fun ρ S P X => mo ρ S (fun d S1 => (match S1.fields c d with
  | some gs => gs.lookup n = none
  | none => False) ∧ mr ρ S1 (fun ds S2 => m (d :: (ds ++ dd)) S2 P X) X) X
theorem fld_none {β : BG} {fs : List (Str × V)} {gs : List (Str × D)} {f : Str} : fs.map (·.1) = gs.map (·.1) → gs.lookup f = none → fs.lookup f = none := by
  induction fs generalizing gs with
  | nil => intro _ _; rfl
  | cons p fs ih =>
    intro h e
    cases gs with
    | nil => cases h
    | cons q gs =>
      obtain ⟨p1, p2⟩ := p
      obtain ⟨q1, q2⟩ := q
      injection h with h1 h2
      simp only at h1
      subst h1
      rw [List.lookup_cons] at e ⊢
      split at e
      · cases e
      · exact ih h2 e
theorem de_meth {c n : Str} {Ca : Addr} {m : List D → M D} {dvs : List V} {dd : List D} (hc : mg c = some (.ref Ca)) (hd : ∀ mg β α H, RpAll K mg β α H dvs dd) (ho : DE K mg E ta ma) (h : DA K mg E tr mr) : DE K mg E (tMeth Ca n (spD K mg m) dvs E ta tr) (mMeth c n m dd ma mr) := fun C α ow σ ρ H S P X Q e hm hx k =>
  ho C α ow σ ρ H S _ X _ e hm hx fun d v α1 H1 S1 p1 g1 r1 => by
    obtain ⟨p1, hm1⟩ := p1
    split at p1
    · rename_i gs hz
      obtain ⟨a, C', dx, fs, rfl, e1, e2, e3, e4⟩ := fields_ok g1.st r1 hz
      rw [hc] at e1
      cases e1
      refine ⟨a, dx, fs, rfl, e2, fld_none (β := C.β) e3 p1, h C α1 ow σ ρ H1 S1 _ X _ (e.step g1) hm1 hx fun ds vs α2 H2 S2 hm2 g2 r2 => ?_⟩
      have e2' := (e.step g1).step g2
      exact ⟨e2'.sub, d :: (ds ++ dd), S2, P, X, rfl, StOk.sub e2', RvAll.sub e2' (.cons (Rv.go g2 r1) (r2.append (hd _ _ _ _))), hm2, e2'.subX hx, fun d v α' H' S' p g r => k d v α' H' S' p ((g1.trans g2).trans (g.unsub e2')) (r.unsub e2')⟩
    · exact p1.elim
end
end Nc

namespace Nc
open PySem PySem.Spec PyProof.Rows L2
/-! ## zip, on data -/
def zipD : List D → List D → List D
  | d :: ds, e :: es => .tup [d, e] :: zipD ds es
  | _, _ => []
theorem zipD_get : ∀ {ds es : List D} {i : Nat}, (zipD ds es)[i]? = (ds[i]?).bind fun d => (es[i]?).map fun e => .tup [d, e]
  | [], _, _ => by simp [zipD]
  | d :: ds, [], i => by
    simp only [zipD, List.getElem?_nil, Option.map_none]
    cases (d :: ds)[i]? <;> rfl
  | d :: ds, e :: es, 0 => by simp [zipD]
  | d :: ds, e :: es, i + 1 => by
    simp only [zipD, List.getElem?_cons_succ]
    exact zipD_get
theorem zipD_length : ∀ {ds es : List D}, (zipD ds es).length = min ds.length es.length
  | [], _ => by simp [zipD]
  | d :: ds, [] => by simp [zipD]
  | d :: ds, e :: es => by
    simp only [zipD, List.length_cons, zipD_length]
    omega
theorem signs_get {x : Str} {i : Nat} : (signs x)[i]? = (x.cps[i]?).map fun c => .str ⟨#[c]⟩ := by
  unfold signs
  rw [List.getElem?_map, Array.getElem?_toList]
def asZS (P : List D → Prop) : List D → Prop
  | [.str x, .str y] => P (zipD (signs x) (signs y))
  | _ => False
def asZL (P : List D → Prop) : List D → Prop
  | [.lst ds, .lst es] => P (zipD ds es)
  | _ => False
def mIZS (mr : MA) : MI := fun ρ S P X => mr ρ S (fun ds S1 => asZS (fun es => P es S1) ds) X
def mIZL (mr : MA) : MI := fun ρ S P X => mr ρ S (fun ds S1 => asZL (fun es => P es S1) ds) X
section
variable {K : PySem.W.Frag} {mg : Str → Option Value} {E : XK} {C : Cy K mg E} {α α' α1 : List Addr} {ow : OwS} {σ : L2.St} {ρ : Env} {H H' : Hp} {S S' : Sto} {F : Bool}
variable {tr : TA} {mr : MA}
theorem di_zipS (h : DA K mg E tr mr) : DI K mg E (iZipS tr) (mIZS mr) := fun C α ow σ ρ H S P X R e hm hx k => h C α ow σ ρ H S _ X _ e hm hx fun d v α1 H1 S1 p f r => by
  unfold asZS at p
  split at p
  · cases r with
    | cons r t =>
      cases t with
      | cons r2 t =>
        cases t
        obtain ⟨rfl, hx⟩ := Rp.strI r
        obtain ⟨rfl, hy⟩ := Rp.strI r2
        refine ⟨_, _, rfl, k _ _ _ H1 _ p f ⟨_, _, _, walk_zipS, by rw [zipD_length]; simp [signs], fun _ _ _ => trivial, fun i x A' H' H'' s hA hi y => ?_⟩⟩
        obtain ⟨T, x1, y1, rfl, hT, rfl, e1, e2⟩ := y
        have sm : Same H' (upd H' T (.tup [x1, y1])) := same_new hT
        refine ⟨sm, fun d hd => ?_⟩
        have nT : ¬ A' T := fun z => hA T z hT
        rw [zipD_get, signs_get, signs_get] at hd
        obtain ⟨c1, q1, rfl⟩ := Option.map_eq_some_iff.1 e1
        obtain ⟨c2, q2, rfl⟩ := Option.map_eq_some_iff.1 e2
        rw [q1, q2] at hd
        cases hd
        exact rp_pair nT (.str (by show 1 ≤ sizeLine; decide)) (.str (by show 1 ≤ sizeLine; decide)) upd_same
  · exact p.elim
theorem di_zipL (h : DA K mg E tr mr) : DI K mg E (iZip K tr) (mIZL mr) := fun C α ow σ ρ H S P X R e hm hx k => h C α ow σ ρ H S _ X _ e hm hx fun d v α1 H1 S1 p f r => by
  unfold asZL at p
  split at p
  · cases r with
    | cons r t =>
      cases t with
      | cons r2 t =>
        cases t
        obtain ⟨a, xs, rfl, h1, h2, h3⟩ := Rp.lstI r
        obtain ⟨b, ys, rfl, g1, g2, g3⟩ := Rp.lstI r2
        refine ⟨a, b, xs, ys, rfl, SqL.of (hid_same _ _ h1), SqL.of (hid_same _ _ g1), k _ _ _ H1 _ p f ⟨_, _, _, walk_zip rfl, by rw [zipD_length, h3.len, g3.len], fun A' H' s => ⟨SqL.of (hid_same _ _ (s _ _ h1)), SqL.of (hid_same _ _ (s _ _ g1))⟩, fun i x A' H' H'' s hA hi y => ?_⟩⟩
        obtain ⟨T, x1, y1, rfl, hT, rfl, e1, e2⟩ := y
        have sm : Same H' (upd H' T (.tup [x1, y1])) := same_new hT
        refine ⟨sm, fun d hd => ?_⟩
        have nT : ¬ A' T := fun z => hA T z hT
        obtain ⟨d1, q1, r1⟩ := h3.get e1
        obtain ⟨d2, q2, r2⟩ := g3.get e2
        rw [zipD_get, q1, q2] at hd
        cases hd
        exact rp_pair nT (r1.same (fun a o q => hid_step sm _ _ (s a o q))) (r2.same (fun a o q => hid_step sm _ _ (s a o q))) upd_same
  · exact p.elim
/-! zip of any two -/
def srcD : D → Option (List D)
  | .str z => some (signs z)
  | .lst ds => some ds
  | .tup ds => some ds
  | _ => none
def asZZ (P : List D → Prop) : List D → Prop
  | [a, b] => match srcD a, srcD b with
    | some x, some y => P (zipD x y)
    | _, _ => False
  | _ => False
def mIZZ (mr : MA) : MI := fun ρ S P X => mr ρ S (fun ds S1 => asZZ (fun es => P es S1) ds) X
theorem zsrc {β : BG} {α : List Addr} {A : Addr → Prop} {v : V} {d : D} {ds : List D} (r : Rp K mg β α (hid A H) v d) (h : srcD d = some ds) :
    ∃ xs p, ZV K H v xs p ∧ RpAll K mg β α (hid A H) xs ds ∧ ∀ A' H' t, Same (hid A H) (hid A' H') → (p t).rd K H' xs := by
  cases d with
  | str z =>
    cases h
    obtain ⟨rfl, hz⟩ := Rp.strI r
    exact ⟨_, _, .str z, rp_signs _, fun _ _ _ _ => rfl⟩
  | lst es =>
    cases h
    obtain ⟨a, xs, rfl, h1, h2, h3⟩ := Rp.lstI r
    exact ⟨xs, _, .lst (SqL.of (hid_same _ _ h1)), h3, fun A' H' _ s => SqL.of (hid_same _ _ (s _ _ h1))⟩
  | tup es =>
    cases h
    obtain ⟨a, xs, rfl, h1, h2, h3⟩ := Rp.tupI r
    exact ⟨xs, _, .tup (Same.tup hid_same h1), h3, fun A' H' _ s => Same.tup hid_same (Same.tup s h1)⟩
  | _ => cases h
theorem di_zipZ (h : DA K mg E tr mr) : DI K mg E (iZipZ K tr) (mIZZ mr) := fun C α ow σ ρ H S P X R e hm hx k => h C α ow σ ρ H S _ X _ e hm hx fun d v α1 H1 S1 p f r => by
  unfold asZZ at p
  split at p
  · split at p
    · rename_i x y hx1 hy1
      cases r with
      | cons r t =>
        cases t with
        | cons r2 t =>
          cases t
          obtain ⟨xs, pz, z1, r1, k1⟩ := zsrc r hx1
          obtain ⟨ys, qz, z2, r2, k2⟩ := zsrc r2 hy1
          refine ⟨_, _, xs, ys, pz, qz, rfl, z1, z2, fun t u => k _ _ _ H1 _ p f ⟨_, _, _, walk_zipZ (xs := xs) (ys := ys), by rw [zipD_length, r1.len, r2.len], fun A' H' s => ⟨k1 A' H' t s, k2 A' H' u s⟩, fun i x A' H' H'' s hA hi y => ?_⟩⟩
          obtain ⟨T, x1, y1, rfl, hT, rfl, e1, e2⟩ := y
          have sm : Same H' (upd H' T (.tup [x1, y1])) := same_new hT
          refine ⟨sm, fun d hd => ?_⟩
          have nT : ¬ A' T := fun z => hA T z hT
          obtain ⟨d1, q1, w1⟩ := r1.get e1
          obtain ⟨d2, q2, w2⟩ := r2.get e2
          rw [zipD_get, q1, q2] at hd
          cases hd
          exact rp_pair nT (w1.same (fun a o q => hid_step sm _ _ (s a o q))) (w2.same (fun a o q => hid_step sm _ _ (s a o q))) upd_same
    · exact p.elim
  · exact p.elim
/-! the keys of a dict of the top -/
def mIC (ds : List D) : MI := fun _ S P _ => P ds S
theorem di_kd {ks : List Str} (hz : ks.all (fun k => decide (k.length ≤ sizeLine)) = true) : DI K mg E (iKd ks) (mIC (ks.map D.str)) := fun C α ow σ ρ H S P X R e hm hx k =>
  k _ _ α H S hm e.go ⟨_, _, _, walk_kd, by simp, fun _ _ _ => trivial, fun i x A' H' H'' s hA hi y => by
    obtain ⟨rfl, z, h1, rfl⟩ := y
    refine ⟨Same.refl _, fun d hd => ?_⟩
    rw [List.getElem?_map, h1] at hd
    cases hd
    exact .str (of_decide_eq_true (List.all_eq_true.mp hz _ (List.mem_of_getElem? h1)))⟩
def mNotInTbl (kvs : List (Str × V)) (ma : ME) : ME := fun ρ S P X => ma ρ S (fun d S1 => asStr (fun z => P (.bl (!(kvs.lookup z).isSome)) S1) d) X
theorem de_notInTbl {ta : TE} {ma : ME} {d : Addr} {kvs : List (Str × V)} (ht : tblIs K d kvs = true) (ha : DQ K mg E ta ma) : DE K mg E (tOp (rNotInTbl K d) ta (tC (.ref d))) (mNotInTbl kvs ma) := fun C α ow σ ρ H S P X Q e hm hx k =>
  ha C α ow σ ρ H S _ X _ e hm hx fun a x α1 H1 S1 hm1 f1 s1 => by
    unfold asStr at hm1
    split at hm1
    · rename_i z
      have t := tbl_ns ht z
      cases q : kvs.lookup z with
      | none =>
        rw [q] at hm1
        exact ⟨z, none, s1.strI.1, rfl, t.2 q, k _ _ _ H1 _ hm1 f1 (.bl _)⟩
      | some v =>
        rw [q] at hm1
        obtain ⟨u, h1, _⟩ := t.1 v q
        exact ⟨z, some u, s1.strI.1, rfl, h1, k _ _ _ H1 _ hm1 f1 (.bl _)⟩
    · exact hm1.elim
/-! texts -/
def fStrA : List D → (D → Prop) → Prop
  | [.int i], P => i.natAbs.log2 < 1920 ∧ P (.str (toString i))
  | [.str a], P => P (.str a)
  | _, _ => False
theorem toStr_len {i : Int} (h : i.natAbs.log2 < 1920) : (toString i : Str).length ≤ sizeLine := by
  have := int_text_fits h
  exact this
theorem cd_strA : CallD K rStrA fStrA := fun mg E C α ow σ ρ H S vs ds P Q e h hm k => by
  unfold fStrA at hm
  split at hm
  · obtain ⟨x, rfl, hx⟩ := h.one
    rw [hx.intI]
    exact .inl ⟨_, rfl, hm.1, k _ _ H hm.2 e.go (.str (toStr_len hm.1))⟩
  · obtain ⟨x, rfl, hx⟩ := h.one
    obtain ⟨rfl, hz⟩ := hx.strI
    exact .inr ⟨_, rfl, k _ _ H hm e.go (.str hz)⟩
  · exact hm.elim
def fAddS : D → D → (D → Prop) → Prop
  | .str x, .str y, P => x.length + y.length ≤ sizeLine ∧ P (.str (x ++ y))
  | _, _, _ => False
theorem od_ipS : OpD K rAddS fAddS := fun mg E C α ow σ ρ H S x y a b P Q e sa sb hm k => by
  unfold fAddS at hm
  split at hm
  · obtain ⟨rfl, hz⟩ := sa.strI
    obtain ⟨rfl, hy⟩ := sb.strI
    exact ⟨_, _, rfl, rfl, hm.1, k _ _ H hm.2 e.go (.str (by rw [str_append_length]; exact hm.1))⟩
  · exact hm.elim
/-- s.startswith(t) -/
def rStartsW : V → List V → Hp → VK → Prop := fun x xs H Q => ∃ a b, x = .str a ∧ xs = [.str b] ∧ Q (.bl (Txt.startswith a b)) H
def mSw (ma mb : ME) : ME := fun ρ S P X => ma ρ S (fun d S1 => asStr (fun z => mb ρ S1 (fun d2 S2 => asStr (fun y => P (.bl (Txt.startswith z y)) S2) d2) X) d) X
theorem de_sw {ta tb : TE} {ma mb : ME} (ha : DQ K mg E ta ma) (hb : DQ K mg E tb mb) : DE K mg E (tM1 rStartsW ta tb) (mSw ma mb) := fun C α ow σ ρ H S P X Q e hm hx k =>
  ha C α ow σ ρ H S _ X _ e hm hx fun a x α1 H1 S1 hm1 f1 s1 => by
    unfold asStr at hm1
    split at hm1
    · refine ⟨⟨_, s1.strI.1⟩, hb C α1 ow σ ρ H1 S1 _ X _ (e.step f1) hm1 hx fun b y α2 H2 S2 hm2 f2 s2 => ?_⟩
      unfold asStr at hm2
      split at hm2
      · exact ⟨_, _, s1.strI.1, by rw [s2.strI.1], k _ _ _ _ _ hm2 (f1.trans f2) (.bl _)⟩
      · exact hm2.elim
    · exact hm1.elim
def fIntS : List D → (D → Prop) → Prop
  | [.str a], P => ∃ n : Int, PySem.intText? a = some n ∧ a.length ≤ 640 ∧ P (.int n)
  | _, _ => False
def rIntS : List V → Hp → VK → Prop := fun xs H Q => ∃ a n, xs = [.str a] ∧ PySem.intText? a = some n ∧ a.length ≤ 640 ∧ Q (.int n) H
theorem cd_intS : CallD K rIntS fIntS := fun mg E C α ow σ ρ H S vs ds P Q e h hm k => by
  unfold fIntS at hm
  split at hm
  · obtain ⟨x, rfl, hx⟩ := h.one
    obtain ⟨rfl, hz⟩ := hx.strI
    obtain ⟨n, h1, h2, hm⟩ := hm
    exact ⟨_, n, rfl, h1, h2, k _ _ H hm e.go (.int _)⟩
  · exact hm.elim
/-! f'..' -/
def mFmt (me : ME) : ME := fun ρ S P X => me ρ S (fun d S1 => match d with
  | .str y => P (.str y) S1
  | .int i => i.natAbs.log2 < 1920 ∧ P (.str (toString i)) S1
  | _ => False) X
theorem de_fmt {te : TE} {me : ME} (h : DQ K mg E te me) : DE K mg E (tFmt te) (mFmt me) := fun C α ow σ ρ H S P X Q e hm hx k =>
  h C α ow σ ρ H S _ X _ e hm hx fun d v α1 H1 S1 p f s => by
    split at p
    · obtain ⟨rfl, hz⟩ := s.strI
      exact .inl ⟨_, rfl, hz, k _ _ _ _ _ p f (.str hz)⟩
    · rw [s.intI]
      exact .inr ⟨_, rfl, p.1, k _ _ _ _ _ p.2 f (.str (toStr_len p.1))⟩
    · exact p.elim
inductive DJ (K : PySem.W.Frag) (mg : Str → Option Value) (E : XK) : List TE → List ME → Prop
  | nil : DJ K mg E [] []
  | cons {t : TE} {m : ME} {ts : List TE} {ms : List ME} : DE K mg E t m → DJ K mg E ts ms → DJ K mg E (t :: ts) (m :: ms)
def mJs : List ME → Str → Env → M Str
  | [], acc, _, S, P, _ => P acc S
  | m :: ms, acc, ρ, S, P, X => m ρ S (fun d S1 => asStr (fun y => (acc ++ y).length ≤ sizeLine ∧ mJs ms (acc ++ y) ρ S1 P X) d) X
def mJoined (ms : List ME) : ME := fun ρ S P X => mJs ms Str.empty ρ S (fun z S1 => P (.str z) S1) X
theorem dj_run {ts : List TE} {ms : List ME} (h : DJ K mg E ts ms) : ∀ (C : Cy K mg E) (α : List Addr) (ow : OwS) (σ : L2.St) (ρ : Env) (H : Hp) (S : Sto) (acc : Str) (P : Str → Sto → Prop) (X : Ex → Sto → Prop) (Q : Str → Hp → Prop),
    Ev C α ow σ ρ H S → acc.length ≤ sizeLine → mJs ms acc ρ S P X → XOk C X → (∀ z α' H' S', P z S' → Go C ow α H α' H' S' → z.length ≤ sizeLine → Q z H') → tJs ts acc σ H Q := by
  induction h with
  | nil => exact fun C α ow σ ρ H S acc P X Q e hz hm hx k => k _ _ _ _ hm e.go hz
  | cons h _ ih =>
    intro C α ow σ ρ H S acc P X Q e hz hm hx k
    refine h C α ow σ ρ H S _ X _ e hm hx fun d v α1 H1 S1 p f r => ?_
    unfold asStr at p
    split at p
    · obtain ⟨rfl, _⟩ := Rp.strI r
      exact ⟨_, rfl, p.1, ih C α1 ow σ ρ H1 S1 _ P X Q (e.step f) p.1 p.2 hx fun z α' H' S' pz g hl => k z α' H' S' pz (f.trans g) hl⟩
    · exact p.elim
theorem de_joined {ts : List TE} {ms : List ME} (h : DJ K mg E ts ms) : DE K mg E (fun σ H Q => tJs ts Str.empty σ H fun out H1 => Q (.str out) H1) (mJoined ms) := fun C α ow σ ρ H S P X Q e hm hx k =>
  dj_run h C α ow σ ρ H S _ _ X _ e (Nat.zero_le _) hm hx fun z α' H' S' p g hl => k _ _ _ _ _ p g (.str hl)
end
end Nc

namespace Nc
open PySem PySem.Spec PyProof.Rows L2
/-! ## plain things: texts, data, loops -/
theorem szl {n : Nat} : (n ≤ sizeLine) = (n ≤ 16777216) := by rw [sizeLine_eq]
section
variable (S : Sto)
theorem rs_non : S.rs .non = .non := rfl
theorem rs_bl (b : Bool) : S.rs (.bl b) = .bl b := rfl
theorem rs_int (b : Int) : S.rs (.int b) = .int b := rfl
theorem rs_str (b : Str) : S.rs (.str b) = .str b := rfl
theorem rs_lst (b : List D) : S.rs (.lst b) = .lst b := rfl
theorem rs_tup (b : List D) : S.rs (.tup b) = .tup b := rfl
theorem rs_dic (a b : List D) : S.rs (.dic a b) = .dic a b := rfl
theorem rs_ins (c : Str) (a : List Str) (b : List D) : S.rs (.ins c a b) = .ins c a b := rfl
theorem rs_bag : S.rs .bag = .bag := rfl
theorem rs_raw (v : V) : S.rs (.raw v) = .raw v := rfl
end
theorem ty_non : D.ty .non = some "NoneType" := rfl
theorem ty_bl (b : Bool) : D.ty (.bl b) = some "bool" := rfl
theorem ty_int (b : Int) : D.ty (.int b) = some "int" := rfl
theorem ty_str (b : Str) : D.ty (.str b) = some "str" := rfl
theorem ty_lst (b : List D) : D.ty (.lst b) = some "list" := rfl
theorem ty_tup (b : List D) : D.ty (.tup b) = some "tuple" := rfl
theorem isN_non : D.isN .non = some true := rfl
theorem isN_bl (b : Bool) : D.isN (.bl b) = some false := rfl
theorem isN_int (b : Int) : D.isN (.int b) = some false := rfl
theorem isN_str (b : Str) : D.isN (.str b) = some false := rfl
theorem isN_lst (b : List D) : D.isN (.lst b) = some false := rfl
theorem isN_tup (b : List D) : D.isN (.tup b) = some false := rfl
/-- isinstance, worked out -/
theorem isT_all : isT "NoneType" "int" = false ∧ isT "NoneType" "bool" = false ∧ isT "NoneType" "str" = false ∧ isT "NoneType" "tuple" = false ∧ isT "NoneType" "list" = false ∧ isT "bool" "int" = true ∧ isT "bool" "bool" = true ∧ isT "bool" "str" = false ∧ isT "bool" "tuple" = false ∧ isT "bool" "list" = false ∧ isT "int" "int" = true ∧ isT "int" "bool" = false ∧ isT "int" "str" = false ∧ isT "int" "tuple" = false ∧ isT "int" "list" = false ∧ isT "str" "int" = false ∧ isT "str" "bool" = false ∧ isT "str" "str" = true ∧ isT "str" "tuple" = false ∧ isT "str" "list" = false ∧ isT "list" "int" = false ∧ isT "list" "bool" = false ∧ isT "list" "str" = false ∧ isT "list" "tuple" = false ∧ isT "list" "list" = true ∧ isT "tuple" "int" = false ∧ isT "tuple" "bool" = false ∧ isT "tuple" "str" = false ∧ isT "tuple" "tuple" = true ∧ isT "tuple" "list" = false := by decide +kernel
theorem tyMem {a b c d e : String} {x : String} : (x ∈ [a, b, c, d, e]) = (x = a ∨ x = b ∨ x = c ∨ x = d ∨ x = e) := by simp
theorem str_ext {x y : Str} (h : x.cps.toList = y.cps.toList) : x = y := by
  obtain ⟨⟨a⟩⟩ := x
  obtain ⟨⟨b⟩⟩ := y
  cases h
  rfl
theorem strEqLit (a b : String) : (((a : Str) = (b : Str)) : Prop) = (a = b) := by
  refine propext ⟨fun h => ?_, fun h => by rw [h]⟩
  have h1 := congrArg (fun z : Str => z.cps.toList) h
  simp only [Str.ofString_eq_toList] at h1
  have h2 : a.toList = b.toList := by
    refine List.map_inj_right (f := Char.toNat) (fun x y e => ?_) |>.mp h1
    exact Char.toNat_inj.mp e
  rw [← String.ofList_toList (s := a), h2, String.ofList_toList]
theorem strBeqLit (a b : String) : ((a : Str) == (b : Str)) = decide (a = b) := by
  rw [Bool.eq_iff_iff, beq_iff_eq, decide_eq_true_eq, strEqLit]
theorem vD_int (i : Int) : vD (.int i) = .int i := rfl
theorem vD_str (i : Str) : vD (.str i) = .str i := rfl
theorem inV_nil (x : V) : inV x [] = false := rfl
theorem inV_cons (x y : V) (ys : List V) : inV x (y :: ys) = (eqV y x || inV x ys) := rfl
theorem eqV_ss (a b : Str) : eqV (.str a) (.str b) = (a == b) := rfl
theorem eqV_ii (a b : Int) : eqV (.int a) (.int b) = decide (a = b) := by
  show (a == b) = _
  rw [Bool.eq_iff_iff]; simp
theorem v_str (a : Str) : D.v (.str a) = .str a := rfl
theorem v_int (a : Int) : D.v (.int a) = .int a := rfl
theorem v_non : D.v .non = .non := rfl
theorem v_bl (a : Bool) : D.v (.bl a) = .bl a := rfl
theorem flat_str (a : Str) : D.flat (.str a) = true := rfl
theorem flat_int (a : Int) : D.flat (.int a) = true := rfl
theorem flat_non : D.flat .non = true := rfl
theorem flat_bl (a : Bool) : D.flat (.bl a) = true := rfl
theorem litOk (s : String) : ((s : Str).cps.all (· < 0x110000)) = true := by
  rw [Str.ofString_eq_toList]
  simp only [List.all_toArray, List.all_map, List.all_eq_true, Function.comp_apply, decide_eq_true_eq]
  intro c _
  have h := c.valid
  have e : c.toNat = c.val.toNat := rfl
  rw [e]
  rcases h with h | h
  · have : c.val.toNat < 0xd800 := h
    omega
  · have : c.val.toNat < 0x110000 := h.2
    omega
theorem atI_0 {α : Type} (x : α) (xs : List α) : L2.atI (x :: xs) 0 = some x := by simp [L2.atI, L2.ixN]
theorem atI_1 {α : Type} (x y : α) (xs : List α) : L2.atI (x :: y :: xs) 1 = some y := by
  simp only [L2.atI, L2.ixN, List.length_cons]
  simp only [show ((0:Int) ≤ 1) = True by simp, if_true]
  rw [if_pos (by omega)]
  rfl
theorem atI_2 {α : Type} (x y z : α) (xs : List α) : L2.atI (x :: y :: z :: xs) 2 = some z := by
  simp only [L2.atI, L2.ixN, List.length_cons]
  simp only [show ((0:Int) ≤ 2) = True by simp, if_true]
  rw [if_pos (by omega)]
  rfl
theorem nc0 : ((0 : Nat) : Int) = 0 := rfl
theorem nc1 : ((1 : Nat) : Int) = 1 := rfl
theorem nc2 : ((2 : Nat) : Int) = 2 := rfl
theorem nc3 : ((3 : Nat) : Int) = 3 := rfl
theorem nc4 : ((4 : Nat) : Int) = 4 := rfl
theorem nc5 : ((5 : Nat) : Int) = 5 := rfl
theorem eqv_int (i j : Int) : D.eqv (.int i) (.int j) = decide (i = j) := by
  unfold D.eqv D.py PyData.eqv
  rw [Bool.eq_iff_iff]
  simp
theorem eqv_str (i j : Str) : D.eqv (.str i) (.str j) = decide (i = j) := by
  unfold D.eqv D.py PyData.eqv
  rw [Bool.eq_iff_iff]
  simp
theorem eqv_bl (i j : Bool) : D.eqv (.bl i) (.bl j) = decide (i = j) := by
  unfold D.eqv D.py PyData.eqv
  rw [Bool.eq_iff_iff]
  simp
theorem eqv_non : D.eqv .non .non = true := by
  unfold D.eqv D.py PyData.eqv
  rfl
theorem ok_int (i : Int) : D.ok (.int i) = true := by simp [D.ok, D.isPy, D.py, SeqAt.shaped, PyData.canLay0, PyData.depth]
theorem ok_bl (i : Bool) : D.ok (.bl i) = true := by simp [D.ok, D.isPy, D.py, SeqAt.shaped, PyData.canLay0, PyData.depth]
theorem ok_non : D.ok .non = true := by simp [D.ok, D.isPy, D.py, SeqAt.shaped, PyData.canLay0, PyData.depth]
theorem ok_str (i : Str) : D.ok (.str i) = i.cps.all (· < 0x110000) := by simp [D.ok, D.isPy, D.py, SeqAt.shaped, PyData.canLay0, PyData.depth, PyData.strOk]

theorem eqv_tup (a b : List D) : D.eqv (.tup a) (.tup b) = D.eqv (.lst a) (.lst b) := by
  unfold D.eqv D.py PyData.eqv
  rfl
theorem eqv_lnil : D.eqv (.lst []) (.lst []) = true := by
  unfold D.eqv D.py D.pys PyData.eqv PyData.eqvAll
  rfl
theorem eqv_lcons (a b : D) (as bs : List D) : D.eqv (.lst (a :: as)) (.lst (b :: bs)) = (a.eqv b && D.eqv (.lst as) (.lst bs)) := by
  unfold D.eqv
  conv => lhs; unfold D.py D.pys PyData.eqv PyData.eqvAll
  conv => rhs; rhs; unfold D.py PyData.eqv
theorem eqv_lcn (a : D) (as : List D) : D.eqv (.lst (a :: as)) (.lst []) = false := by
  unfold D.eqv D.py D.pys PyData.eqv PyData.eqvAll
  rfl
theorem eqv_lnc (a : D) (as : List D) : D.eqv (.lst []) (.lst (a :: as)) = false := by
  unfold D.eqv D.py D.pys PyData.eqv PyData.eqvAll
  rfl
theorem eqv_lnl (xs : List D) : D.eqv (.lst xs) (.lst []) = xs.isEmpty := by
  cases xs with
  | nil => exact eqv_lnil
  | cons => exact eqv_lcn _ _
/-- data of the kit's, not too deep -/
def D.okd (n : Nat) (d : D) : Prop := d.isPy = true ∧ PyData.canLay0 d.py = true ∧ PyData.depth d.py ≤ n
theorem ok_iff {d : D} : d.ok = true ↔ d.okd 64 := by
  unfold D.ok D.okd SeqAt.shaped
  rw [Bool.and_eq_true_iff, Bool.and_eq_true_iff, decide_eq_true_eq]
theorem D.okd.le {n m : Nat} {d : D} (h : d.okd n) (hm : n ≤ m) : d.okd m := ⟨h.1, h.2.1, Nat.le_trans h.2.2 hm⟩
theorem okd_non {n : Nat} : D.okd n .non := by simp [D.okd, D.isPy, D.py, PyData.canLay0, PyData.depth]
theorem okd_int {n : Nat} {i : Int} : D.okd n (.int i) := by simp [D.okd, D.isPy, D.py, PyData.canLay0, PyData.depth]
theorem okd_bl {n : Nat} {i : Bool} : D.okd n (.bl i) := by simp [D.okd, D.isPy, D.py, PyData.canLay0, PyData.depth]
theorem okd_str {n : Nat} {z : Str} (h : z.cps.all (· < 0x110000) = true) : D.okd n (.str z) := by simp only [D.okd, D.isPy, D.py, PyData.canLay0, PyData.depth, PyData.strOk, h, true_and]; exact Nat.zero_le _
theorem okd_all {n : Nat} : ∀ {ds : List D}, (∀ d ∈ ds, d.okd n) → D.arePy ds = true ∧ PyData.canLayAll0 (D.pys ds) = true ∧ PyData.depthAll (D.pys ds) ≤ n
  | [], _ => by simp [D.arePy, D.pys, PyData.canLayAll0, PyData.depthAll]
  | d :: ds, h => by
    obtain ⟨h1, h2, h3⟩ := h d (List.mem_cons_self ..)
    obtain ⟨g1, g2, g3⟩ := okd_all fun x hx => h x (List.mem_cons_of_mem _ hx)
    simp only [D.arePy, D.pys, PyData.canLayAll0, PyData.depthAll, h1, h2, g1, g2, Bool.and_self, true_and]
    omega
theorem okd_lst {n : Nat} {ds : List D} (h : ∀ d ∈ ds, d.okd n) : D.okd (n + 1) (.lst ds) := by
  obtain ⟨h1, h2, h3⟩ := okd_all h
  unfold D.okd D.isPy D.py PyData.canLay0 PyData.depth
  exact ⟨h1, h2, by omega⟩
theorem okd_tup {n : Nat} {ds : List D} (h : ∀ d ∈ ds, d.okd n) : D.okd (n + 1) (.tup ds) := by
  obtain ⟨h1, h2, h3⟩ := okd_all h
  unfold D.okd D.isPy D.py PyData.canLay0 PyData.depth
  exact ⟨h1, h2, by omega⟩
mutual
theorem eqv_pd : ∀ d : PyData, d.canLay0 = true → PyData.eqv d d = true
  | .none, _ => by unfold PyData.eqv; rfl
  | .bool b, _ => by unfold PyData.eqv; simp
  | .int b, _ => by unfold PyData.eqv; simp
  | .str b, _ => by unfold PyData.eqv; simp
  | .list xs, h => by unfold PyData.eqv; unfold PyData.canLay0 at h; exact eqv_pds xs h
  | .tuple xs, h => by unfold PyData.eqv; unfold PyData.canLay0 at h; exact eqv_pds xs h
  | .dict _, h => by unfold PyData.canLay0 at h; cases h
theorem eqv_pds : ∀ d : List PyData, PyData.canLayAll0 d = true → PyData.eqvAll d d = true
  | [], _ => by unfold PyData.eqvAll; rfl
  | d :: ds, h => by
    unfold PyData.canLayAll0 at h
    rw [Bool.and_eq_true_iff] at h
    unfold PyData.eqvAll
    rw [eqv_pd d h.1, eqv_pds ds h.2]
    rfl
end
theorem D.okd.self {n : Nat} {d : D} (h : d.okd n) : d.eqv d = true := eqv_pd _ h.2.1
theorem ok_lnil : D.ok (.lst []) = true := ok_iff.mpr (okd_lst fun _ h => by cases h)
/-! ## loops, plainly -/
def lcStep (f : TgM) (mt : MT) (me : ME) (ρ : Env) (d : D) (S : Sto) (P : Option D → Sto → Prop) : Prop := f d ρ fun ρ2 => mt ρ2 S (fun b S1 => if b = true then me ρ2 S1 (fun y S2 => P (some y) S2) noX else P none S1) noX
theorem lcD_inv {τ : Type} {f : TgM} {mt : MT} {me : ME} {ρ : Env} (r : τ → D) (xs : List τ) (I : List τ → List D → Sto → Prop) (h : ∀ dn x rest acc S, xs = dn ++ x :: rest → I dn acc S → ∀ P : Option D → Sto → Prop, (∀ o S', I (dn ++ [x]) (acc ++ o.toList) S' → P o S') → lcStep f mt me ρ (r x) S P)
    {acc : List D} {S : Sto} {P : List D → Sto → Prop} (h0 : I [] acc S) (hP : ∀ acc S, I xs acc S → P acc S) : lcD f mt me ρ (xs.map r) acc S P := by
  have g : ∀ (rest dn : List τ) (acc : List D) (S : Sto), xs = dn ++ rest → I dn acc S → lcD f mt me ρ (rest.map r) acc S P := by
    intro rest
    induction rest with
    | nil =>
      intro dn acc S e i
      rw [List.append_nil] at e
      subst e
      exact hP _ _ i
    | cons x rest ih =>
      intro dn acc S e i
      have e2 : xs = (dn ++ [x]) ++ rest := by rw [e]; simp
      exact h dn x rest acc S e i (fun o S' => match o with
        | some y => lcD f mt me ρ (rest.map r) (acc ++ [y]) S' P
        | none => lcD f mt me ρ (rest.map r) acc S' P) fun o S' i' => by
          cases o with
          | some y => exact ih _ _ _ e2 i'
          | none => exact ih _ _ _ e2 (by simpa using i')
  exact g xs [] acc S rfl h0
/-- .. where nothing is drawn and nothing changes -/
theorem lcD_fm {τ : Type} {f : TgM} {mt : MT} {me : ME} {ρ : Env} (r : τ → D) (o : τ → Option D) (xs : List τ) {acc : List D} {S : Sto} {P : List D → Sto → Prop} (h : ∀ x ∈ xs, ∀ P : Option D → Sto → Prop, P (o x) S → lcStep f mt me ρ (r x) S P)
    (hP : P (acc ++ xs.filterMap o) S) : lcD f mt me ρ (xs.map r) acc S P := by
  refine lcD_inv r xs (fun dn a S' => S' = S ∧ a = acc ++ dn.filterMap o) (fun dn x rest a S' e i P k => ?_) ⟨rfl, by simp⟩ fun a S' i => by rw [i.1, i.2]; exact hP
  obtain ⟨rfl, rfl⟩ := i
  refine h x (by rw [e]; simp) _ (k _ _ ⟨rfl, ?_⟩)
  rw [List.filterMap_append, List.append_assoc]
  cases q : o x <;> simp [q]
theorem lcD_map {τ : Type} {f : TgM} {mt : MT} {me : ME} {ρ : Env} (r o : τ → D) (xs : List τ) {acc : List D} {S : Sto} {P : List D → Sto → Prop} (h : ∀ x ∈ xs, ∀ P : Option D → Sto → Prop, P (some (o x)) S → lcStep f mt me ρ (r x) S P)
    (hP : P (acc ++ xs.map o) S) : lcD f mt me ρ (xs.map r) acc S P := lcD_fm r (fun x => some (o x)) xs h (by rw [List.filterMap_eq_map']; exact hP)
theorem forD_inv {τ : Type} {f : TgM} {m : MS} {e : Pn} (r : τ → D) (xs : List τ) (I : List τ → Env → Sto → Prop) (h : ∀ dn x rest ρ S, xs = dn ++ x :: rest → I dn ρ S → ∀ N : Env → Sto → Prop, (∀ ρ' S', I (dn ++ [x]) ρ' S' → N ρ' S') → f (r x) ρ fun ρ1 => m ρ1 S { e with nx := N, ct := N, bk := e.nx })
    {ρ : Env} {S : Sto} (h0 : I [] ρ S) (hP : ∀ ρ S, I xs ρ S → e.nx ρ S) : forD f m (xs.map r) ρ S e := by
  have g : ∀ (rest dn : List τ) (ρ : Env) (S : Sto), xs = dn ++ rest → I dn ρ S → forD f m (rest.map r) ρ S e := by
    intro rest
    induction rest with
    | nil =>
      intro dn ρ S e i
      rw [List.append_nil] at e
      subst e
      exact hP _ _ i
    | cons x rest ih =>
      intro dn ρ S e i
      have e2 : xs = (dn ++ [x]) ++ rest := by rw [e]; simp
      exact h dn x rest ρ S e i _ fun ρ' S' i' => ih _ _ _ e2 i'
  exact g xs [] ρ S rfl h0
/-! ## gates: what stands behind is not looked at -/
inductive Tg {τ : Sort _} (x : τ) : Type
  | mk
abbrev gate (m : List D → M D) (ds : List D) (S : Sto) (P : D → Sto → Prop) (X : Ex → Sto → Prop) (_ : Tg P) : Prop := m ds S P X
abbrev lcG (f : TgM) (mt : MT) (me : ME) (ρ : Env) (ds acc : List D) (S : Sto) (P : List D → Sto → Prop) (_ : Tg P) : Prop := lcD f mt me ρ ds acc S P
abbrev forG (f : TgM) (m : MS) (ds : List D) (ρ : Env) (S : Sto) (e : Pn) (_ : Tg e) : Prop := forD f m ds ρ S e
abbrev whG (mt : MT) (m : MS) (ρ : Env) (S : Sto) (e : Pn) (_ : Tg e) : Prop := kWhile mt m ρ S e
theorem x_mCall {m : List D → M D} {dd : List D} {mr : MA} {ρ : Env} {S : Sto} {P : D → Sto → Prop} {X : Ex → Sto → Prop} : mCall m dd mr ρ S P X = mr ρ S (fun ds S1 => gate m (ds ++ dd) S1 P X .mk) X := rfl
theorem x_mLc {mi : MI} {f : TgM} {mt : MT} {me : ME} {vs : List Nat} {ρ : Env} {S : Sto} {P : D → Sto → Prop} {X : Ex → Sto → Prop} : mLc mi f mt me vs ρ S P X = ((∀ j ∈ vs, isOw ρ[j]? = false) ∧ mi ρ S (fun ds S1 => ds.length ≤ sizeLine ∧ lcG f mt me (wipeD ρ vs) ds [] S1 (fun out S2 => P (.lst out) S2) .mk) X) := rfl
theorem x_kFor {mi : MI} {f : TgM} {m : MS} {ρ : Env} {S : Sto} {e : Pn} : kFor mi f m ρ S e = mi ρ S (fun ds S1 => forG f m ds ρ S1 e .mk) e.ex := rfl
theorem x_kWhile {mt : MT} {m : MS} {ρ : Env} {S : Sto} {e : Pn} : kWhile mt m ρ S e = whG mt m ρ S e .mk := rfl
theorem x_lcn {f : TgM} {mt : MT} {me : ME} {ρ : Env} {acc : List D} {S : Sto} {P : List D → Sto → Prop} {t : Tg P} : lcG f mt me ρ [] acc S P t = P acc S := rfl
theorem x_lcc {f : TgM} {mt : MT} {me : ME} {ρ : Env} {d : D} {ds acc : List D} {S : Sto} {P : List D → Sto → Prop} {t : Tg P} : lcG f mt me ρ (d :: ds) acc S P t = f d ρ fun ρ2 => mt ρ2 S (fun b S1 => if b = true then me ρ2 S1 (fun y S2 => lcG f mt me ρ ds (acc ++ [y]) S2 P t) noX else lcG f mt me ρ ds acc S1 P t) noX := rfl
theorem x_forn {f : TgM} {m : MS} {ρ : Env} {S : Sto} {nx : Env → Sto → Prop} {rt : D → Sto → Prop} {bk ct : Env → Sto → Prop} {ex : Ex → Sto → Prop} {t : Tg (Pn.mk nx rt bk ct ex)} : forG f m [] ρ S ⟨nx, rt, bk, ct, ex⟩ t = nx ρ S := rfl
theorem x_forc {f : TgM} {m : MS} {d : D} {ds : List D} {ρ : Env} {S : Sto} {nx : Env → Sto → Prop} {rt : D → Sto → Prop} {bk ct : Env → Sto → Prop} {ex : Ex → Sto → Prop} {t : Tg (Pn.mk nx rt bk ct ex)} : forG f m (d :: ds) ρ S ⟨nx, rt, bk, ct, ex⟩ t = f d ρ fun ρ1 => m ρ1 S ⟨fun ρ2 S2 => forG f m ds ρ2 S2 ⟨nx, rt, bk, ct, ex⟩ t, rt, nx, fun ρ2 S2 => forG f m ds ρ2 S2 ⟨nx, rt, bk, ct, ex⟩ t, ex⟩ := rfl
/-- word, *rest = .. -/
def stS : Nat → List D → (List D → Prop) → Prop
  | 0, ds, k => k [.lst ds]
  | _ + 1, [], _ => False
  | n + 1, d :: ds, k => stS n ds fun r => k (d :: r)
theorem stS_0 {ds : List D} {k : List D → Prop} : stS 0 ds k = k [.lst ds] := rfl
theorem stS_s {n : Nat} {d : D} {ds : List D} {k : List D → Prop} : stS (n + 1) (d :: ds) k = stS n ds fun r => k (d :: r) := rfl
theorem stS_eq : ∀ {n : Nat} {ds : List D} {k : List D → Prop}, stS n ds k = (n ≤ ds.length ∧ k (ds.take n ++ [.lst (ds.drop n)]))
  | 0, ds, k => by simp [stS]
  | n + 1, [], k => by simp [stS]
  | n + 1, d :: ds, k => by
    rw [stS_s, stS_eq]
    simp
/-! ## statements, one step each -/
section
variable {ρ : Env} {S : Sto} {nx : Env → Sto → Prop} {rt : D → Sto → Prop} {bk ct : Env → Sto → Prop} {ex : Ex → Sto → Prop}
theorem x_kSeq {m m' : MS} : kSeq m m' ρ S ⟨nx, rt, bk, ct, ex⟩ = m ρ S ⟨fun ρ' S' => m' ρ' S' ⟨nx, rt, bk, ct, ex⟩, rt, bk, ct, ex⟩ := rfl
theorem x_kNext : kNext ρ S ⟨nx, rt, bk, ct, ex⟩ = nx ρ S := rfl
theorem x_kBreak : kBreak ρ S ⟨nx, rt, bk, ct, ex⟩ = bk ρ S := rfl
theorem x_kCont : kCont ρ S ⟨nx, rt, bk, ct, ex⟩ = ct ρ S := rfl
theorem x_kNever : kNever ρ S ⟨nx, rt, bk, ct, ex⟩ = False := rfl
theorem x_kAsg {me : ME} {f : TgM} : kAsg me f ρ S ⟨nx, rt, bk, ct, ex⟩ = me ρ S (fun d S1 => f d ρ fun ρ' => nx ρ' S1) ex := rfl
theorem x_kRet {me : ME} : kRet me ρ S ⟨nx, rt, bk, ct, ex⟩ = me ρ S rt ex := rfl
theorem x_kRetN : kRetN ρ S ⟨nx, rt, bk, ct, ex⟩ = rt .non S := rfl
theorem x_kDrop {me : ME} : kDrop me ρ S ⟨nx, rt, bk, ct, ex⟩ = me ρ S (fun _ S1 => nx ρ S1) ex := rfl
theorem x_kIf {mt : MT} {m m' : MS} : kIf mt m m' ρ S ⟨nx, rt, bk, ct, ex⟩ = mt ρ S (fun b S1 => if b = true then m ρ S1 ⟨nx, rt, bk, ct, ex⟩ else m' ρ S1 ⟨nx, rt, bk, ct, ex⟩) ex := rfl
theorem x_kOwn {i : Nat} {me : ME} : kOwn i me ρ S ⟨nx, rt, bk, ct, ex⟩ = (i < ρ.length ∧ me ρ S (fun d S1 => nx (ρ.set i (.ow d)) S1) ex) := rfl
theorem x_kFrz {i : Nat} {m : MS} : kFrz i m ρ S ⟨nx, rt, bk, ct, ex⟩ = m (frz i ρ) S ⟨nx, rt, bk, ct, ex⟩ := rfl
theorem x_kRetOw {i : Nat} : kRetOw i ρ S ⟨nx, rt, bk, ct, ex⟩ = (match ρ[i]? with
  | some (.ow d) => rt d S
  | _ => False) := rfl
theorem x_kApp {i : Nat} {me : ME} : kApp i me ρ S ⟨nx, rt, bk, ct, ex⟩ = (match ρ[i]? with
  | some (.ow (.lst ds)) => me ρ S (fun d S1 => ds.length < sizeLine ∧ nx (ρ.set i (.ow (.lst (ds ++ [d])))) S1) ex
  | _ => False) := rfl
theorem x_kExt {i : Nat} {me : ME} : kExt i me ρ S ⟨nx, rt, bk, ct, ex⟩ = (match ρ[i]? with
  | some (.ow (.lst ds)) => me ρ S (fun d S1 => asL (fun es => ds.length + es.length ≤ sizeLine ∧ nx (ρ.set i (.ow (.lst (ds ++ es)))) S1) d) ex
  | _ => False) := rfl
theorem x_kPar {i j : Nat} {mr : MA} : kPar i j mr ρ S ⟨nx, rt, bk, ct, ex⟩ = mr ρ S (fun ds S1 => match ds with
  | [a, b] => nx ((ρ.set i (.va a)).set j (.va b)) S1
  | _ => False) ex := rfl
theorem x_kAug {i : Nat} {f : D → D → (D → Prop) → Prop} {me : ME} : kAug i f me ρ S ⟨nx, rt, bk, ct, ex⟩ = (match ρ[i]? with
  | some (.va a) => me ρ S (fun b S1 => f (S1.rs a) (S1.rs b) fun d => nx (ρ.set i (.va d)) S1) ex
  | _ => False) := rfl
theorem x_kAsgS {n : Nat} {me : ME} {f : TgMs} : kAsgS n me f ρ S ⟨nx, rt, bk, ct, ex⟩ = me ρ S (fun d S1 => asT (fun ds => ds.length ≤ 16384 ∧ stS n ds fun l => f l ρ fun ρ' => nx ρ' S1) d) ex := by
  show me ρ S (fun d S1 => asT (fun ds => n ≤ ds.length ∧ ds.length ≤ 16384 ∧ f (ds.take n ++ [.lst (ds.drop n)]) ρ fun ρ' => nx ρ' S1) d) ex = _
  congr 1
  funext d S1
  congr 1
  funext ds
  rw [stS_eq]
  refine propext ⟨fun h => ⟨h.2.1, h.1, h.2.2⟩, fun h => ⟨h.2.1, h.1, h.2.2⟩⟩
theorem x_kRaise1 {c n f : Str} {mr : MA} : kRaise1 c n f mr ρ S ⟨nx, rt, bk, ct, ex⟩ = mr ρ S (fun ds S1 => match ds with
  | [x] => ex ⟨c, [(f, x), ("called", .str n)]⟩ S1
  | _ => False) ex := rfl
theorem x_kRaise0 {c n : Str} : kRaise0 c n ρ S ⟨nx, rt, bk, ct, ex⟩ = ex ⟨c, [("called", .str n)]⟩ S := rfl
end
/-! ## texts of one sign, texts by their signs -/
def sg (c : Nat) : Str := ⟨#[c]⟩
def ofL (cs : List Nat) : Str := ⟨cs.toArray⟩
theorem sg_inj {a b : Nat} : (sg a = sg b) = (a = b) := by
  unfold sg
  simp
theorem sg_len (c : Nat) : (sg c).length = 1 := rfl
theorem ofL_len (cs : List Nat) : (ofL cs).length = cs.length := by simp [ofL, Str.length]
theorem ofL_toL (cs : List Nat) : (ofL cs).cps.toList = cs := by simp [ofL]
theorem sg_toL (c : Nat) : (sg c).cps.toList = [c] := rfl
theorem ofL_inj {a b : List Nat} : (ofL a = ofL b) = (a = b) := by
  refine propext ⟨fun h => ?_, fun h => by rw [h]⟩
  have := congrArg (fun z : Str => z.cps.toList) h
  simpa only [ofL_toL] using this
theorem ofL_of (z : Str) : ofL z.cps.toList = z := str_ext (by rw [ofL_toL])
/-- the letters -/
def LET : List Nat := (List.range 26).map (· + 97)
theorem let_eq : ("abcdefghijklmnopqrstuvwxyz" : Str).cps.toList = LET := by decide +kernel
theorem let_lt {c : Nat} (h : c ∈ LET) : c < 0x110000 := by
  unfold LET at h
  obtain ⟨i, h1, rfl⟩ := List.mem_map.mp h
  have := List.mem_range.mp h1
  omega
theorem sg_fine {c : Nat} (h : c < 0x110000) : (sg c).cps.all (· < 0x110000) = true := by simp [sg, h]
structure GoodL (cs : List Nat) : Prop where
  one : 1 ≤ cs.length
  lets : ∀ c ∈ cs, c ∈ LET
  rise : cs.Pairwise (· < ·)
/-! texts of letters -/
theorem single_lt {c d : Nat} : (([c] : List Nat) < [d]) ↔ c < d := by
  constructor
  · intro h
    cases h with
    | rel h => exact h
    | cons h => cases h
  · intro h; exact List.Lex.rel h
theorem sum_sg : ∀ ks : List Nat, ((ks.map sg).map (·.length)).sum = ks.length
  | [] => rfl
  | c :: r => by
    show (1 : Nat) + ((r.map sg).map (·.length)).sum = r.length + 1
    rw [sum_sg r]
    omega
theorem joinL_sg : ∀ cs : List Nat, TL.joinL [] (cs.map fun c => [c]) = cs
  | [] => rfl
  | [_] => rfl
  | a :: b :: r => by
    show [a] ++ ([] ++ TL.joinL [] ((b :: r).map fun c => [c])) = _
    rw [joinL_sg (b :: r)]
    rfl
theorem join_sg (cs : List Nat) : Txt.join ("" : Str) (cs.map sg) = ofL cs := by
  refine PyProof.Rows.ext_toList ?_
  rw [TL.join_eq]
  refine (TL.tl_join _ _).trans ?_
  rw [List.map_map]
  exact joinL_sg cs
theorem sorted_sg : ∀ (cs : List Nat), sortedS (cs.map sg) = true → cs.Pairwise (· ≤ ·) := by
  have aux : ∀ (cs : List Nat) (c : Nat), risingS (sg c) (cs.map sg) = true → (c :: cs).Pairwise (· ≤ ·) := by
    intro cs
    induction cs with
    | nil => intro c _; exact List.pairwise_singleton _ _
    | cons d r ih =>
      intro c h
      have h' : (!ltCps [d] [c] && risingS (sg d) (r.map sg)) = true := h
      obtain ⟨h1, h2⟩ := Bool.and_eq_true_iff.mp h'
      have hp := ih d h2
      have hcd : c ≤ d := by
        have h3 : ltCps [d] [c] = false := by simpa using h1
        have h4 : (decide (d < c) || (d == c && ltCps [] [])) = false := h3
        simp at h4
        omega
      refine List.pairwise_cons.mpr ⟨fun x hx => ?_, hp⟩
      rcases List.mem_cons.mp hx with e | e
      · omega
      · have := (List.pairwise_cons.mp hp).1 x e
        omega
  intro cs h
  cases cs with
  | nil => exact List.Pairwise.nil
  | cons c r => exact aux r c h
theorem perm_map_inv {α β : Type} {f : α → β} {ys : List β} {xs : List α} (h : ys.Perm (xs.map f)) : ∃ zs : List α, ys = zs.map f ∧ zs.Perm xs := by
  generalize e : xs.map f = m at h
  induction h generalizing xs with
  | nil => exact ⟨[], rfl, by rw [List.map_eq_nil_iff.mp e]⟩
  | cons a _ ih =>
    cases xs with
    | nil => cases e
    | cons x xs =>
      injection e with e1 e2
      obtain ⟨zs, h1, h2⟩ := ih e2
      exact ⟨x :: zs, by rw [List.map_cons, e1, h1], h2.cons x⟩
  | swap a b l =>
    match xs, e with
    | x :: y :: r, e =>
      injection e with e1 e2
      injection e2 with e3 e4
      exact ⟨y :: x :: r, by rw [List.map_cons, List.map_cons, e1, e3, e4], List.Perm.swap x y r⟩
  | trans _ _ ih1 ih2 =>
    obtain ⟨zs, h1, h2⟩ := ih2 e
    obtain ⟨ws, h3, h4⟩ := ih1 h1.symm
    exact ⟨ws, h3, h4.trans h2⟩
theorem strict_of {cs : List Nat} (h : cs.Pairwise (· ≤ ·)) (hn : cs.Nodup) : cs.Pairwise (· < ·) := by
  refine (h.and hn).imp ?_
  intro a b ⟨h1, h2⟩
  exact Nat.lt_of_le_of_ne h1 h2
theorem joinS_sg (cs : List Nat) : Str.join ("" : Str) (cs.map sg) = ofL cs := by
  rw [← join_sg]
  exact (StrLaws.glued_eq_join _ _).symm
theorem sorted_nat_uniq {a b : List Nat} (p : a.Perm b) (ha : a.Pairwise (· ≤ ·)) (hb : b.Pairwise (· ≤ ·)) : a = b :=
  p.eq_of_pairwise (fun x y _ _ h1 h2 => Nat.le_antisymm h1 h2) ha hb
theorem map_sg_inj {a b : List Nat} (h : a.map sg = b.map sg) : a = b := by
  refine List.map_inj_right (f := sg) (fun x y e => ?_) |>.mp h
  rw [sg_inj] at e
  exact e
theorem lcD_mapI {f : TgM} {mt : MT} {me : ME} {ρ : Env} (o : D → D) (xs : List D) {acc : List D} {S : Sto} {P : List D → Sto → Prop} (h : ∀ x ∈ xs, ∀ P : Option D → Sto → Prop, P (some (o x)) S → lcStep f mt me ρ x S P)
    (hP : P (acc ++ xs.map o) S) : lcD f mt me ρ xs acc S P := by
  have := lcD_map (f := f) (mt := mt) (me := me) (ρ := ρ) id o xs h hP
  rwa [List.map_id] at this
theorem lcD_fmI {f : TgM} {mt : MT} {me : ME} {ρ : Env} (o : D → Option D) (xs : List D) {acc : List D} {S : Sto} {P : List D → Sto → Prop} (h : ∀ x ∈ xs, ∀ P : Option D → Sto → Prop, P (o x) S → lcStep f mt me ρ x S P)
    (hP : P (acc ++ xs.filterMap o) S) : lcD f mt me ρ xs acc S P := by
  have := lcD_fm (f := f) (mt := mt) (me := me) (ρ := ρ) id o xs h hP
  rwa [List.map_id] at this
theorem pick_ok {top : Int} {S : Sto} {P : D → Sto → Prop} {X : Ex → Sto → Prop} (h1 : 1 ≤ top) (h2 : top ≤ 10 ^ 60) (h : ∀ d : Int, 0 ≤ d → d < top → P (.int d) S) : mPick [.bag, .int top] S P X := by
  refine ⟨h1, ?_, h⟩
  have h3 : top.natAbs < 2 ^ 200 := by
    have : (10 : Int) ^ 60 < 2 ^ 200 := by decide
    omega
  have := (Nat.log2_lt (by omega)).mpr h3
  omega
theorem cutL_nn {τ : Type} (xs : List τ) (a b : Nat) : cutL xs (some (a : Int)) (some (b : Int)) = (xs.drop a).take (b - a) := by
  unfold cutL
  rw [HT.sIx_nat, HT.sIx_nat]
  by_cases h : a ≤ xs.length
  · rw [Nat.min_eq_left h]
    by_cases h2 : b ≤ xs.length
    · rw [Nat.min_eq_left h2]
    · rw [Nat.min_eq_right (by omega), List.take_of_length_le (by rw [List.length_drop]; omega), List.take_of_length_le (by rw [List.length_drop]; omega)]
  · have e : min a xs.length = xs.length := by omega
    rw [e, List.drop_of_length_le (Nat.le_refl _), List.drop_of_length_le (show xs.length ≤ a by omega)]
    simp
theorem cutL_n {τ : Type} (xs : List τ) (a : Nat) : cutL xs (some (a : Int)) none = xs.drop a := by
  unfold cutL
  rw [HT.sIx_nat, HT.sIx_none]
  by_cases h : a ≤ xs.length
  · rw [Nat.min_eq_left h, List.take_of_length_le (by rw [List.length_drop]; omega)]
  · have e : min a xs.length = xs.length := by omega
    rw [e, List.drop_of_length_le (Nat.le_refl _), List.drop_of_length_le (show xs.length ≤ a by omega)]
    simp
theorem cutL_to {τ : Type} (xs : List τ) (b : Nat) : cutL xs none (some (b : Int)) = xs.take b := by
  unfold cutL
  rw [HT.sIx_nat, HT.sIx_none]
  by_cases h : b ≤ xs.length
  · rw [Nat.min_eq_left h]; rfl
  · have e : min b xs.length = xs.length := by omega
    rw [e]
    simp
    exact (List.take_of_length_le (by omega)).symm
theorem cutL_1 {τ : Type} (xs : List τ) : cutL xs (some 1) none = xs.drop 1 := cutL_n xs 1
theorem cutL_1c {τ : Type} (x : τ) (xs : List τ) : cutL (x :: xs) (some 1) none = xs := cutL_n (x :: xs) 1
theorem cutL_1n {τ : Type} : cutL ([] : List τ) (some 1) none = [] := cutL_n [] 1
theorem cutL_all {τ : Type} (xs : List τ) : cutL xs none none = xs := by
  unfold cutL
  simp [HT.sIx_none]
theorem forD_invI {f : TgM} {m : MS} {e : Pn} (xs : List D) (I : List D → Env → Sto → Prop) (h : ∀ dn x rest ρ S, xs = dn ++ x :: rest → I dn ρ S → ∀ N : Env → Sto → Prop, (∀ ρ' S', I (dn ++ [x]) ρ' S' → N ρ' S') → f x ρ fun ρ1 => m ρ1 S { e with nx := N, ct := N, bk := e.nx })
    {ρ : Env} {S : Sto} (h0 : I [] ρ S) (hP : ∀ ρ S, I xs ρ S → e.nx ρ S) : forD f m xs ρ S e := by
  have := forD_inv (f := f) (m := m) (e := e) id xs I h h0 hP
  rwa [List.map_id] at this
theorem nodup_len {τ : Type} [DecidableEq τ] : ∀ {l L : List τ}, l.Nodup → (∀ x ∈ l, x ∈ L) → l.length ≤ L.length
  | [], _, _, _ => Nat.zero_le _
  | x :: l, L, hn, hs => by
    have hx := hs x (List.mem_cons_self ..)
    obtain ⟨h1, h2⟩ := List.nodup_cons.mp hn
    have := nodup_len (l := l) (L := L.erase x) h2 fun y hy => (List.mem_erase_of_ne (fun e => h1 (by rw [← e]; exact hy))).mpr (hs y (List.mem_cons_of_mem _ hy))
    rw [List.length_erase_of_mem hx] at this
    have hp : 0 < L.length := List.length_pos_of_mem hx
    rw [List.length_cons]
    omega
/-! ## objects of the store -/
section
variable {ρ : Env} {S : Sto} {nx : Env → Sto → Prop} {rt : D → Sto → Prop} {bk ct : Env → Sto → Prop} {ex : Ex → Sto → Prop}
theorem x_kFSet {c f : Str} {mv mo : ME} : kFSet c f mv mo ρ S ⟨nx, rt, bk, ct, ex⟩ = mv ρ S (fun x S1 => mo ρ S1 (fun d S2 => match d with
  | .ob i => match S2[i]? with
    | some (.ins c' gs) => c' = c ∧ gs.length < 1000 ∧ nx ρ (S2.set i (.ins c (putD f x gs)))
    | _ => False
  | _ => False) ex) ex := rfl
theorem x_kFAug {c f : Str} {fo : D → D → (D → Prop) → Prop} {mo mv : ME} : kFAug c f fo mo mv ρ S ⟨nx, rt, bk, ct, ex⟩ = mo ρ S (fun d S1 => match d with
  | .ob i => match S1[i]? with
    | some (.ins c' gs) => c' = c ∧ match gs.lookup f with
      | some x => mv ρ S1 (fun y S2 => fo x y fun z => match S2[i]? with
        | some (.ins c2 gs2) => c2 = c ∧ gs2.length < 1000 ∧ nx ρ (S2.set i (.ins c (putD f z gs2)))
        | _ => False) ex
      | none => False
    | _ => False
  | _ => False) ex := rfl
end
theorem x_mMeth {c n : Str} {m : List D → M D} {dd : List D} {mo : ME} {mr : MA} {ρ : Env} {S : Sto} {P : D → Sto → Prop} {X : Ex → Sto → Prop} : mMeth c n m dd mo mr ρ S P X = mo ρ S (fun d S1 => (match S1.fields c d with
  | some gs => gs.lookup n = none
  | none => False) ∧ mr ρ S1 (fun ds S2 => gate m (d :: (ds ++ dd)) S2 P X .mk) X) X := rfl
theorem x_mMake {c : Str} {m : List D → M D} {dd : List D} {mr : MA} {ρ : Env} {S : Sto} {P : D → Sto → Prop} {X : Ex → Sto → Prop} : mMake c m dd mr ρ S P X = mr ρ S (fun ds S1 => gate m (.ob S1.length :: (ds ++ dd)) (S1 ++ [.ins c []]) (fun d S2 => d = .non ∧ P (.ob S1.length) S2) X .mk) X := rfl
theorem x_mMakeV {c : Str} {m : List D → M D} {dd : List D} {mr : MA} {ρ : Env} {S : Sto} {P : D → Sto → Prop} {X : Ex → Sto → Prop} : mMakeV c m dd mr ρ S P X = mr ρ S (fun ds S1 => gate m (.ob S1.length :: (ds ++ dd)) (S1 ++ [.ins c []]) (fun d S2 => d = .non ∧ ∃ gs, S2[S1.length]? = some (.ins c gs) ∧ S2.take S1.length = S1 ∧ D.obsLt S1.length (gs.map (·.2)) = true ∧ P (.ins c (gs.map (·.1)) (gs.map (·.2))) S1) X .mk) X := rfl
theorem ob_get (S : Sto) (o : Ob) : (S ++ [o])[S.length]? = some o := by simp
theorem ob_set (S : Sto) (o o' : Ob) : (S ++ [o]).set S.length o' = S ++ [o'] := by simp
theorem ob_take (S : Sto) (o : Ob) : (S ++ [o]).take S.length = S := by simp
theorem fields_ob (S : Sto) (c c' : Str) (gs : List (Str × D)) : (S ++ [Ob.ins c gs]).fields c' (.ob S.length) = if c = c' then some gs else none := by
  unfold Sto.fields
  simp only [ob_get]
theorem fields_ins (S : Sto) (c c' : Str) (ns : List Str) (ds : List D) : S.fields c' (.ins c ns ds) = if c = c' ∧ ns.length = ds.length then some (ns.zip ds) else none := rfl
theorem putD_nil (f : Str) (d : D) : putD f d [] = [(f, d)] := rfl
theorem putD_cons (f g : Str) (d x : D) (r : List (Str × D)) : putD f d ((g, x) :: r) = if g = f then (g, d) :: r else (g, x) :: putD f d r := rfl
/-! signs that are no letters -/
theorem tl_dash : ("-" : Str).cps.toList = [45] := by decide +kernel
theorem tl_sq : ("[" : Str).cps.toList = [91] := by decide +kernel
theorem tl_cu : ("{" : Str).cps.toList = [123] := by decide +kernel
theorem tl_an : ("<" : Str).cps.toList = [60] := by decide +kernel
theorem nl_dash : (45 ∈ LET) = False := by decide +kernel
theorem nl_sq : (91 ∈ LET) = False := by decide +kernel
theorem nl_cu : (123 ∈ LET) = False := by decide +kernel
theorem nl_an : (60 ∈ LET) = False := by decide +kernel
theorem sg_lit (c : Nat) (s : String) (h : s.toList.map Char.toNat = [c]) : sg c = (s : Str) := str_ext (by rw [Str.ofString_eq_toList, h]; rfl)
/-! while, by an invariant that falls -/
theorem wh_inv {mt : MT} {m : MS} {ρ : Env} {S : Sto} {nx : Env → Sto → Prop} {rt : D → Sto → Prop} {bk ct : Env → Sto → Prop} {ex : Ex → Sto → Prop} {t : Tg (Pn.mk nx rt bk ct ex)} (W : Nat → Env → Sto → Prop) (j0 : Nat) (h0 : W j0 ρ S)
    (h : ∀ j ρ S, W j ρ S → ∀ N : Env → Sto → Prop, (∀ j' ρ' S', j' < j → W j' ρ' S' → N ρ' S') → mt ρ S (fun b S1 => if b = true then m ρ S1 ⟨N, rt, nx, N, ex⟩ else nx ρ S1) ex) : whG mt m ρ S ⟨nx, rt, bk, ct, ex⟩ t :=
  ⟨W, ⟨j0, h0⟩, fun j ρ S w => h j ρ S w _ fun j' _ _ hj w' => ⟨j', hj, w'⟩⟩
theorem for_cons {f : TgM} {m : MS} {d : D} {ds : List D} {ρ : Env} {S : Sto} {nx : Env → Sto → Prop} {rt : D → Sto → Prop} {bk ct : Env → Sto → Prop} {ex : Ex → Sto → Prop} {t : Tg (Pn.mk nx rt bk ct ex)}
    (h : f d ρ fun ρ1 => m ρ1 S ⟨fun ρ2 S2 => forG f m ds ρ2 S2 ⟨nx, rt, bk, ct, ex⟩ t, rt, nx, fun ρ2 S2 => forG f m ds ρ2 S2 ⟨nx, rt, bk, ct, ex⟩ t, ex⟩) : forG f m (d :: ds) ρ S ⟨nx, rt, bk, ct, ex⟩ t := h
theorem for_nil {f : TgM} {m : MS} {ρ : Env} {S : Sto} {nx : Env → Sto → Prop} {rt : D → Sto → Prop} {bk ct : Env → Sto → Prop} {ex : Ex → Sto → Prop} {t : Tg (Pn.mk nx rt bk ct ex)} (h : nx ρ S) : forG f m [] ρ S ⟨nx, rt, bk, ct, ex⟩ t := h
/-! tables looked up, step by step -/
@[irreducible] def lkp (kvs : List (Str × V)) (z : Str) : Option V := kvs.lookup z
theorem lkp_eq (kvs : List (Str × V)) (z : Str) : lkp kvs z = kvs.lookup z := by unfold lkp; rfl
theorem lkp_nil (z : Str) : lkp [] z = none := by unfold lkp; rfl
theorem lkp_cons (a z : Str) (v : V) (r : List (Str × V)) : lkp ((a, v) :: r) z = if (z == a) = true then some v else lkp r z := by
  rw [lkp_eq, lkp_eq, List.lookup_cons]
  cases z == a <;> rfl
theorem x_mIxTbl {kvs : List (Str × V)} {ma : ME} {ρ : Env} {S : Sto} {P : D → Sto → Prop} {X : Ex → Sto → Prop} : mIxTbl kvs ma ρ S P X = ma ρ S (fun d S1 => asStr (fun z => match lkp kvs z with
  | some v => P (vD v) S1
  | none => False) d) X := by
  unfold mIxTbl
  simp only [lkp_eq] <;> rfl
theorem x_mInTbl {kvs : List (Str × V)} {ma : ME} {ρ : Env} {S : Sto} {P : D → Sto → Prop} {X : Ex → Sto → Prop} : mInTbl kvs ma ρ S P X = ma ρ S (fun d S1 => asStr (fun z => P (.bl (lkp kvs z).isSome) S1) d) X := by
  unfold mInTbl
  simp only [lkp_eq]
theorem x_mNotInTbl {kvs : List (Str × V)} {ma : ME} {ρ : Env} {S : Sto} {P : D → Sto → Prop} {X : Ex → Sto → Prop} : mNotInTbl kvs ma ρ S P X = ma ρ S (fun d S1 => asStr (fun z => P (.bl (!(lkp kvs z).isSome)) S1) d) X := by
  unfold mNotInTbl
  simp only [lkp_eq]
theorem x_mDispGet {kvs : List (Str × V)} {v0 : V} {ma : ME} {ρ : Env} {S : Sto} {P : D → Sto → Prop} {X : Ex → Sto → Prop} : mDispGet kvs v0 ma ρ S P X = ma ρ S (fun d S1 => asStr (fun z => P (vD ((lkp kvs z).getD v0)) S1) d) X := by
  unfold mDispGet
  simp only [lkp_eq]
end Nc

/-! one step of a reading -/
local macro_rules | `(tactic| walk_at "sq") => `(tactic| first
  | assumption | exact L2.SqL.of (by assumption) | exact L2.SqL.of L2.upd_same | exact L2.Same.seq Nc.same_del (by assumption) | exact L2.SqT.of (by assumption) | exact L2.SqT.of L2.upd_same)
local macro_rules | `(tactic| walk_at "ar") => `(tactic| first
  | (show (0 : Int) < _; omega)
  | exact Or.inl ⟨by omega, by omega⟩
  | exact Or.inr ⟨by omega, by omega⟩
  | exact ⟨by omega, by assumption⟩
  | exact ⟨by omega, by decide⟩
  | exact ⟨by omega, by omega, by omega⟩)
local macro_rules | `(tactic| walk_at "n") => `(tactic| first
  | with_reducible refine Nc.w_asg ?_
  | with_reducible refine Nc.w_gName ?_
  | ((with_reducible refine Nc.w_var (v := ?v0) ?h1 ?h2); (case h1 => exact rfl))
  | with_reducible refine Nc.w_c ?_
  | with_reducible refine Nc.w_op ?_
  | with_reducible refine Nc.w_I0 ?_
  | with_reducible refine Nc.w_cons ?_
  | with_reducible refine Nc.w_nil ?_
  | with_reducible refine Nc.w_CB ?_
  | with_reducible refine Nc.w_call ?_
  | with_reducible refine Nc.w_if ?_
  | with_reducible refine Nc.w_tTest ?_
  | with_reducible refine Nc.w_tB ?_
  | with_reducible refine Nc.w_bl ?_
  | with_reducible refine Nc.w_tNot ?_
  | with_reducible refine Nc.w_tAnd ?_
  | with_reducible refine Nc.w_tOr ?_
  | with_reducible refine Nc.w_ret ?_
  | with_reducible refine Nc.w_drop ?_
  | with_reducible refine Nc.w_next ?_
  | with_reducible refine Nc.w_retN ?_
  | with_reducible refine Nc.w_tup ?_
  | with_reducible refine Nc.w_lst ?_
  | with_reducible refine Nc.w_ifE ?_
  | with_reducible refine Nc.w_andV ?_
  | with_reducible refine Nc.w_orV ?_
  | with_reducible refine Nc.w_notV ?_
  | with_reducible refine Nc.w_chain ?_
  | with_reducible refine Nc.w_sl ?_
  | with_reducible refine Nc.w_noPart ?_
  | with_reducible refine Nc.w_part ?_
  | with_reducible refine Nc.w_int ?_
  | with_reducible refine Nc.w_un ?_
  | with_reducible refine Nc.w_BM ?_
  | with_reducible refine Nc.w_BM0 ?_
  | with_reducible refine Nc.w_gSub ?_
  | with_reducible refine Nc.w_par ?_
  | with_reducible refine Nc.w_yes ?_
  | ((with_reducible refine Nc.w_ixL (xs := ?xs0) (v := ?v0) ?h1 ?h2 ?h3); (case h1 => walk_at "sq"); (case h2 => exact rfl))
  | ((with_reducible refine Nc.w_setL (xs := ?xs0) (j := ?j0) ?h1 ?h2 ?h3); (case h1 => assumption); (case h2 => exact rfl); intro _ _ _)
  | ((with_reducible refine Nc.w_len (xs := ?xs0) ?h1 ?h2); (case h1 => walk_at "sq"))
  | with_reducible refine L2.iteF ?_
  | with_reducible refine Nc.w_iteNT ?_
  | with_reducible refine Nc.w_iteNF ?_
  | with_reducible refine Nc.w_for ?_
  | with_reducible refine Nc.w_lc ?_
  | with_reducible refine Nc.w_iList ?_
  | with_reducible refine Nc.w_iStr ?_
  | with_reducible refine Nc.w_iStrR ?_
  | with_reducible refine Nc.w_iZipS ?_
  | with_reducible refine Nc.w_iRng1 ?_
  | with_reducible refine Nc.w_iEnum ?_
  | with_reducible refine Nc.w_isN_non ?_
  | with_reducible refine Nc.w_isN_int ?_
  | with_reducible refine Nc.w_isN_str ?_
  | with_reducible refine Nc.w_isN_bl ?_
  | with_reducible refine Nc.w_isN_ref ?_
  | with_reducible refine Nc.w_notN_non ?_
  | with_reducible refine Nc.w_notN_int ?_
  | with_reducible refine Nc.w_notN_str ?_
  | with_reducible refine Nc.w_notN_bl ?_
  | with_reducible refine Nc.w_notN_ref ?_
  | with_reducible refine Nc.w_dsetdT ?_
  | with_reducible refine Nc.w_dgetT ?_
  | ((with_reducible refine Nc.w_isDK (kvs := ?xs0) ?h1 ?h2); (case h1 => assumption))
  | ((with_reducible refine Nc.w_lenDN (kvs := ?xs0) ?h1 ?h2); (case h1 => assumption))
  | ((with_reducible refine Nc.w_isiInt (d := ?d0) ?h1 ?h2); (case h1 => assumption))
  | ((with_reducible refine Nc.w_isiBool (d := ?d0) ?h1 ?h2); (case h1 => assumption))
  | ((with_reducible refine Nc.w_isiStr (d := ?d0) ?h1 ?h2); (case h1 => assumption))
  | ((with_reducible refine Nc.w_isiTup (d := ?d0) ?h1 ?h2); (case h1 => assumption))
  | ((with_reducible refine Nc.w_isiList (d := ?d0) ?h1 ?h2); (case h1 => assumption))
  | ((with_reducible refine Nc.w_iRngR ?h1 ?h2 ?h3); (case h1 => omega); (case h2 => omega))
  | with_reducible refine Nc.w_M1 ?_
  | with_reducible refine Nc.w_strAnd ?_
  | with_reducible refine Nc.w_lstRg ?_
  | with_reducible refine Nc.w_rg1 ?_
  | with_reducible refine Nc.w_gCons ?_
  | with_reducible refine Nc.w_gNil ?_
  | with_reducible refine Nc.w_geStr ?_
  | ((with_reducible refine Nc.w_gTup (xs := ?xs0) ?h1 ?h2 ?h3); (case h1 => walk_at "sq"); (case h2 => exact rfl))
  | ((with_reducible refine Nc.w_tyL (xs := ?xs0) ?h1 ?h2); (case h1 => walk_at "sq"))
  | ((with_reducible refine Nc.w_iListR (xs := ?xs0) ?h1 ?h2); (case h1 => walk_at "sq"))
  | ((with_reducible refine Nc.w_iEnumR (xs := ?xs0) ?h1 ?h2); (case h1 => walk_at "sq"))
  | with_reducible refine L2.iteT ?_
  | with_reducible refine Nc.w_inSign ?_
  | with_reducible refine Nc.w_notInSign ?_
  | ((with_reducible refine Nc.w_I ?h1 ?h2); (case h1 => walk_at "ar"))
  | ((with_reducible refine Nc.w_EqSame ?h1 ?h2); (case h1 => exact rfl))
  | ((with_reducible refine Nc.w_NeSame ?h1 ?h2); (case h1 => exact rfl))
  | ((with_reducible refine Nc.w_Eq ?h1 ?h2); (case h1 => exact rfl))
  | ((with_reducible refine Nc.w_Ne ?h1 ?h2); (case h1 => exact rfl))
  | ((with_reducible refine Nc.w_iteT (b := Nc.isIntD _) ?h1 ?h2); (case h1 => exact rfl))
  | ((with_reducible refine Nc.w_iteF (b := Nc.isIntD _) ?h1 ?h2); (case h1 => exact rfl))
  | ((with_reducible refine Nc.w_iteT (b := Nc.isBoolD _) ?h1 ?h2); (case h1 => exact rfl))
  | ((with_reducible refine Nc.w_iteF (b := Nc.isBoolD _) ?h1 ?h2); (case h1 => exact rfl))
  | ((with_reducible refine Nc.w_iteT (b := Nc.isStrD _) ?h1 ?h2); (case h1 => exact rfl))
  | ((with_reducible refine Nc.w_iteF (b := Nc.isStrD _) ?h1 ?h2); (case h1 => exact rfl))
  | ((with_reducible refine Nc.w_iteT (b := Nc.isTupD _) ?h1 ?h2); (case h1 => exact rfl))
  | ((with_reducible refine Nc.w_iteF (b := Nc.isTupD _) ?h1 ?h2); (case h1 => exact rfl))
  | ((with_reducible refine Nc.w_iteT (b := Nc.isListD _) ?h1 ?h2); (case h1 => exact rfl))
  | ((with_reducible refine Nc.w_iteF (b := Nc.isListD _) ?h1 ?h2); (case h1 => exact rfl))
  | ((with_reducible refine Nc.w_iteT (b := (Nc.isBoolD _ || Nc.isBoolD _)) ?h1 ?h2); (case h1 => exact rfl))
  | ((with_reducible refine Nc.w_iteF (b := (Nc.isBoolD _ || Nc.isBoolD _)) ?h1 ?h2); (case h1 => exact rfl))
  | ((with_reducible refine Nc.w_iteT (b := (!Nc.isTupD _)) ?h1 ?h2); (case h1 => exact rfl))
  | ((with_reducible refine Nc.w_iteF (b := (!Nc.isTupD _)) ?h1 ?h2); (case h1 => exact rfl))
  | ((with_reducible refine Nc.w_iteT (b := (!Nc.isStrD _)) ?h1 ?h2); (case h1 => exact rfl))
  | ((with_reducible refine Nc.w_iteF (b := (!Nc.isStrD _)) ?h1 ?h2); (case h1 => exact rfl)))
local macro_rules | `(tactic| walk_at "s") => `(tactic| first | with_reducible refine Nc.w_seq ?_ | walk_at "n")
local macro_rules | `(tactic| walk_at "S") => `(tactic| ((repeat walk_at "s"); try dsimp only))
local macro_rules | `(tactic| walk_at "N") => `(tactic| ((repeat walk_at "n"); try dsimp only))
local macro_rules | `(tactic| walk_at "D") => `(tactic| dsimp only [L2.cxOf, L2.start, List.map_cons, List.map, List.map_nil, List.length_cons, List.length_nil, Nat.reduceAdd, Nat.reduceSub, List.replicate, List.cons_append, List.nil_append])
local macro_rules | `(tactic| walk_at "B") => `(tactic| (dsimp only [L2.cxOf, L2.start, List.map_cons, List.map, List.map_nil, List.length_cons, List.length_nil, Nat.reduceAdd, Nat.reduceSub, List.replicate, List.cons_append, List.nil_append]; walk_at "S"))

/-! one step of a meaning -/
local macro_rules | `(tactic| walk_at "M") => `(tactic| try simp (implicitDefEqProofs := false) only [↓Nc.runM, ↓Nc.runF, ↓Nc.stEnv, ↓Nc.x_kSeq, ↓Nc.x_kNext, ↓Nc.x_kBreak, ↓Nc.x_kCont, ↓Nc.x_kNever, ↓Nc.x_kAsg, ↓Nc.x_kRet, ↓Nc.x_kRetN, ↓Nc.x_kDrop, ↓Nc.x_kIf, ↓Nc.x_kOwn, ↓Nc.x_kFrz, ↓Nc.frz, ↓Nc.x_kRetOw, ↓Nc.x_kApp, ↓Nc.x_kExt, ↓Nc.x_kFor, ↓Nc.x_kPar, ↓Nc.x_kAug, ↓Nc.x_kAsgS, ↓Nc.x_kRaise1, ↓Nc.x_kRaise0, ↓Nc.mC, ↓Nc.mVar, ↓Nc.mVarQ, ↓Nc.mOp, ↓Nc.mNil, ↓Nc.mCons, ↓Nc.mTup, ↓Nc.mLst, ↓Nc.x_mCall, ↓Nc.x_mMeth, ↓Nc.x_mMake, ↓Nc.x_mMakeV, ↓Nc.x_kFSet, ↓Nc.x_kFAug, ↓Nc.mFld, Nc.ob_get, Nc.ob_set, Nc.ob_take, Nc.fields_ob, Nc.fields_ins, Nc.putD_nil, Nc.putD_cons, Option.bind_some, ↓Nc.mNew, ↓Nc.Ob.of, ↓Nc.mIC, ↓Nc.mIZZ, ↓Nc.mIZS, ↓Nc.mIZL, ↓Nc.asZZ, ↓Nc.asZS, ↓Nc.asZL, Nc.srcD, ↓Nc.fStrA, ↓Nc.fAddS, ↓Nc.fIntS, ↓Nc.mSw, ↓Nc.mFmt, ↓Nc.mJoined, ↓Nc.mJs, ↓Nc.x_mNotInTbl, ↓Nc.x_lcn, ↓Nc.x_lcc, ↓Nc.x_forn, ↓Nc.x_forc, List.lookup_cons, List.lookup_nil, Nc.strBeqLit, Nc.vD_int, Nc.inV_nil, Nc.inV_cons, Nc.eqV_ss, Nc.eqV_ii, Nc.v_str, Nc.v_int, Nc.v_non, Nc.v_bl, Nc.flat_str, Nc.flat_int, Nc.flat_non, Nc.flat_bl, Nc.cutL_1c, Nc.cutL_1n, Nc.cutL_all, Nc.vD_str, Option.isSome_some, Option.isSome_none, Option.getD_some, Option.getD_none, ↓Nc.stS_0, ↓Nc.stS_s, ↓Nc.x_kWhile, ↓Nc.mCB, ↓Nc.mNo, ↓Nc.mSome, ↓Nc.mSl, ↓Nc.mB, ↓Nc.mNot, ↓Nc.mAnd, ↓Nc.mOr, ↓Nc.mAndV, ↓Nc.mOrV, ↓Nc.mNotV, ↓Nc.mIf, ↓Nc.mChain, ↓Nc.mIL, ↓Nc.mIT, ↓Nc.mIS, ↓Nc.mIR1, ↓Nc.mIR2, ↓Nc.mIE, ↓Nc.x_mLc, ↓Nc.mYes, ↓Nc.mIsi2, ↓Nc.mJoin, ↓Nc.mMaxDef, ↓Nc.x_mInTbl, ↓Nc.x_mIxTbl, ↓Nc.x_mDispGet, Nc.lkp_cons, Nc.lkp_nil, ↓Nc.mSortSet, ↓Nc.fI, ↓Nc.fI0, ↓Nc.fLen, ↓Nc.fAll, ↓Nc.fAny, ↓Nc.fSum, ↓Nc.fListOf, ↓Nc.fListText, ↓Nc.fIx, ↓Nc.fSlL, ↓Nc.fSlT, ↓Nc.fSlS, ↓Nc.fAdd, ↓Nc.fEq, ↓Nc.fIs, ↓Nc.fIn, ↓Nc.fIsi, ↓Nc.fSortS, ↓Nc.fSortI, ↓Nc.fMax2, ↓Nc.fMin2, ↓Nc.fInt1, ↓Nc.fTupleOf, ↓Nc.fMaxL, ↓Nc.asI, ↓Nc.asL, ↓Nc.asT, ↓Nc.asS, ↓Nc.asB, ↓Nc.asE, ↓Nc.asR1, ↓Nc.asR2, ↓Nc.asStr, ↓Nc.mName, ↓Nc.mgNil, ↓Nc.mgCons, ↓Nc.mgTup, ↓Nc.wipeD, ↓Nc.isOw, ↓Nc.rs_non, ↓Nc.rs_bl, ↓Nc.rs_int, ↓Nc.rs_str, ↓Nc.rs_lst, ↓Nc.rs_tup, ↓Nc.rs_dic, ↓Nc.rs_ins, ↓Nc.rs_bag, ↓Nc.rs_raw, Nc.ty_non, Nc.ty_bl, Nc.ty_int, Nc.ty_str, Nc.ty_lst, Nc.ty_tup, Nc.isN_non, Nc.isN_bl, Nc.isN_int, Nc.isN_str, Nc.isN_lst, Nc.isN_tup, Nc.tyMem, Nc.isT_all, Nc.litOk, Nc.atI_0, Nc.atI_1, Nc.atI_2, Nc.nc0, Nc.nc1, Nc.nc2, Nc.nc3, Nc.nc4, Nc.nc5, Nc.eqv_lnil, Nc.eqv_lnl, Nc.ok_lnil, Nc.sg_len, Nc.ofL_len, Nc.sg_toL, Nc.ofL_toL, List.isEmpty_nil, List.isEmpty_cons, String.reduceEq, Int.reduceEq, Int.reduceNe, Nc.strEqLit, Nc.ok_int, Nc.ok_bl, Nc.ok_non, Nc.ok_str, Nc.eqv_int, Nc.eqv_str, Nc.eqv_bl, Nc.eqv_non, List.map_cons, List.map_nil, List.cons_append, List.nil_append, List.append_nil, List.length_cons, List.length_nil, List.getElem?_cons_zero, List.getElem?_cons_succ, List.set_cons_zero, List.set_cons_succ, List.replicate_succ, List.replicate_zero, List.take_succ_cons, List.take_zero, List.drop_succ_cons, List.drop_zero, List.mem_cons, List.not_mem_nil, List.forall_mem_cons, forall_eq_or_imp, forall_eq, Bool.false_eq_true, ↓reduceIte, ↓reduceDIte, true_and, and_true, false_and, and_false, Bool.not_true, Bool.not_false, decide_true, decide_false, decide_eq_true_eq, not_true_eq_false, not_false_eq_true, reduceCtorEq, Nat.reduceAdd, Nat.reduceLeDiff, Nat.reduceLT, Nat.reduceEqDiff, Nat.zero_add, forall_const, implies_true, Nat.lt_add_one, Nat.succ_ne_self, Nat.add_one_sub_one, Nc.szl, List.forall_mem_nil, or_false, false_or, or_true, true_or, Bool.and_true, Bool.true_and, Bool.and_false, Bool.false_and, Bool.or_true, Bool.true_or, Bool.or_false, Bool.false_or, eq_self, Bool.not_eq_true, Bool.decide_eq_true, Nat.le_refl, Int.natCast_add, Int.reduceAdd, Int.reduceLT, Int.reduceLE])
local macro_rules | `(tactic| walk_at "R") => `(tactic| try simp (implicitDefEqProofs := false) only [↓Nc.runM, ↓Nc.runF, ↓Nc.stEnv, ↓Nc.x_kSeq, ↓Nc.x_kNext, ↓Nc.x_kBreak, ↓Nc.x_kCont, ↓Nc.x_kNever, ↓Nc.x_kAsg, ↓Nc.x_kRet, ↓Nc.x_kRetN, ↓Nc.x_kDrop, ↓Nc.x_kIf, ↓Nc.x_kOwn, ↓Nc.x_kFrz, ↓Nc.frz, ↓Nc.x_kRetOw, ↓Nc.x_kApp, ↓Nc.x_kExt, ↓Nc.x_kFor, ↓Nc.x_kPar, ↓Nc.x_kAug, ↓Nc.x_kAsgS, ↓Nc.x_kRaise1, ↓Nc.x_kRaise0, ↓Nc.mC, ↓Nc.mVar, ↓Nc.mVarQ, ↓Nc.mOp, ↓Nc.mNil, ↓Nc.mCons, ↓Nc.mTup, ↓Nc.mLst, Nc.let_eq, Nc.tl_dash, Nc.tl_sq, Nc.tl_cu, Nc.tl_an, Nc.nl_dash, Nc.nl_sq, Nc.nl_cu, Nc.nl_an, ↓Nc.x_mCall, ↓Nc.x_mMeth, ↓Nc.x_mMake, ↓Nc.x_mMakeV, ↓Nc.x_kFSet, ↓Nc.x_kFAug, ↓Nc.mFld, Nc.ob_get, Nc.ob_set, Nc.ob_take, Nc.fields_ob, Nc.fields_ins, Nc.putD_nil, Nc.putD_cons, Option.bind_some, ↓Nc.mNew, ↓Nc.Ob.of, ↓Nc.mIC, ↓Nc.mIZZ, ↓Nc.mIZS, ↓Nc.mIZL, ↓Nc.asZZ, ↓Nc.asZS, ↓Nc.asZL, Nc.srcD, ↓Nc.fStrA, ↓Nc.fAddS, ↓Nc.fIntS, ↓Nc.mSw, ↓Nc.mFmt, ↓Nc.mJoined, ↓Nc.mJs, ↓Nc.x_mNotInTbl, ↓Nc.x_lcn, ↓Nc.x_lcc, ↓Nc.x_forn, ↓Nc.x_forc, List.lookup_cons, List.lookup_nil, Nc.strBeqLit, Nc.vD_int, Nc.inV_nil, Nc.inV_cons, Nc.eqV_ss, Nc.eqV_ii, Nc.v_str, Nc.v_int, Nc.v_non, Nc.v_bl, Nc.flat_str, Nc.flat_int, Nc.flat_non, Nc.flat_bl, Nc.cutL_1c, Nc.cutL_1n, Nc.cutL_all, Nc.vD_str, Option.isSome_some, Option.isSome_none, Option.getD_some, Option.getD_none, ↓Nc.stS_0, ↓Nc.stS_s, ↓Nc.x_kWhile, ↓Nc.mCB, ↓Nc.mNo, ↓Nc.mSome, ↓Nc.mSl, ↓Nc.mB, ↓Nc.mNot, ↓Nc.mAnd, ↓Nc.mOr, ↓Nc.mAndV, ↓Nc.mOrV, ↓Nc.mNotV, ↓Nc.mIf, ↓Nc.mChain, ↓Nc.mIL, ↓Nc.mIT, ↓Nc.mIS, ↓Nc.mIR1, ↓Nc.mIR2, ↓Nc.mIE, ↓Nc.x_mLc, ↓Nc.mYes, ↓Nc.mIsi2, ↓Nc.mJoin, ↓Nc.mMaxDef, ↓Nc.x_mInTbl, ↓Nc.x_mIxTbl, ↓Nc.x_mDispGet, Nc.lkp_cons, Nc.lkp_nil, ↓Nc.mSortSet, ↓Nc.fI, ↓Nc.fI0, ↓Nc.fLen, ↓Nc.fAll, ↓Nc.fAny, ↓Nc.fSum, ↓Nc.fListOf, ↓Nc.fListText, ↓Nc.fIx, ↓Nc.fSlL, ↓Nc.fSlT, ↓Nc.fSlS, ↓Nc.fAdd, ↓Nc.fEq, ↓Nc.fIs, ↓Nc.fIn, ↓Nc.fIsi, ↓Nc.fSortS, ↓Nc.fSortI, ↓Nc.fMax2, ↓Nc.fMin2, ↓Nc.fInt1, ↓Nc.fTupleOf, ↓Nc.fMaxL, ↓Nc.asI, ↓Nc.asL, ↓Nc.asT, ↓Nc.asS, ↓Nc.asB, ↓Nc.asE, ↓Nc.asR1, ↓Nc.asR2, ↓Nc.asStr, ↓Nc.mName, ↓Nc.mgNil, ↓Nc.mgCons, ↓Nc.mgTup, ↓Nc.wipeD, ↓Nc.isOw, ↓Nc.rs_non, ↓Nc.rs_bl, ↓Nc.rs_int, ↓Nc.rs_str, ↓Nc.rs_lst, ↓Nc.rs_tup, ↓Nc.rs_dic, ↓Nc.rs_ins, ↓Nc.rs_bag, ↓Nc.rs_raw, Nc.ty_non, Nc.ty_bl, Nc.ty_int, Nc.ty_str, Nc.ty_lst, Nc.ty_tup, Nc.isN_non, Nc.isN_bl, Nc.isN_int, Nc.isN_str, Nc.isN_lst, Nc.isN_tup, Nc.tyMem, Nc.isT_all, Nc.litOk, Nc.atI_0, Nc.atI_1, Nc.atI_2, Nc.nc0, Nc.nc1, Nc.nc2, Nc.nc3, Nc.nc4, Nc.nc5, Nc.eqv_lnil, Nc.eqv_lnl, Nc.ok_lnil, Nc.sg_len, Nc.ofL_len, Nc.sg_toL, Nc.ofL_toL, List.isEmpty_nil, List.isEmpty_cons, String.reduceEq, Int.reduceEq, Int.reduceNe, Nc.strEqLit, Nc.ok_int, Nc.ok_bl, Nc.ok_non, Nc.ok_str, Nc.eqv_int, Nc.eqv_str, Nc.eqv_bl, Nc.eqv_non, List.map_cons, List.map_nil, List.cons_append, List.nil_append, List.append_nil, List.length_cons, List.length_nil, List.getElem?_cons_zero, List.getElem?_cons_succ, List.set_cons_zero, List.set_cons_succ, List.replicate_succ, List.replicate_zero, List.take_succ_cons, List.take_zero, List.drop_succ_cons, List.drop_zero, List.mem_cons, List.not_mem_nil, List.forall_mem_cons, forall_eq_or_imp, forall_eq, Bool.false_eq_true, ↓reduceIte, ↓reduceDIte, true_and, and_true, false_and, and_false, Bool.not_true, Bool.not_false, decide_true, decide_false, decide_eq_true_eq, not_true_eq_false, not_false_eq_true, reduceCtorEq, Nat.reduceAdd, Nat.reduceLeDiff, Nat.reduceLT, Nat.reduceEqDiff, Nat.zero_add, forall_const, implies_true, Nat.lt_add_one, Nat.succ_ne_self, Nat.add_one_sub_one, Nc.szl, List.forall_mem_nil, or_false, false_or, or_true, true_or, Bool.and_true, Bool.true_and, Bool.and_false, Bool.false_and, Bool.or_true, Bool.true_or, Bool.or_false, Bool.false_or, eq_self, Bool.not_eq_true, Bool.decide_eq_true, Nat.le_refl, Int.natCast_add, Int.reduceAdd, Int.reduceLT, Int.reduceLE])
local macro_rules | `(tactic| walk_at "F") => `(tactic| try simp (implicitDefEqProofs := false) only [↓Nc.runM, ↓Nc.runF, ↓Nc.stEnv, ↓Nc.x_kSeq, ↓Nc.x_kNext, ↓Nc.x_kBreak, ↓Nc.x_kCont, ↓Nc.x_kNever, ↓Nc.x_kAsg, ↓Nc.x_kRet, ↓Nc.x_kRetN, ↓Nc.x_kDrop, ↓Nc.x_kIf, ↓Nc.x_kOwn, ↓Nc.x_kFrz, ↓Nc.frz, ↓Nc.x_kRetOw, ↓Nc.x_kApp, ↓Nc.x_kExt, ↓Nc.x_kFor, ↓Nc.x_kPar, ↓Nc.x_kAug, ↓Nc.x_kAsgS, ↓Nc.x_kRaise1, ↓Nc.x_kRaise0, ↓Nc.mC, ↓Nc.mVar, ↓Nc.mVarQ, ↓Nc.mOp, ↓Nc.mNil, ↓Nc.mCons, ↓Nc.mTup, ↓Nc.mLst, ↓Nc.x_mCall, ↓Nc.x_mMeth, ↓Nc.x_mMake, ↓Nc.x_mMakeV, ↓Nc.x_kFSet, ↓Nc.x_kFAug, ↓Nc.mFld, Nc.ob_get, Nc.ob_set, Nc.ob_take, Nc.fields_ob, Nc.fields_ins, Nc.putD_nil, Nc.putD_cons, Option.bind_some, ↓Nc.mNew, ↓Nc.Ob.of, ↓Nc.mIC, ↓Nc.mIZZ, ↓Nc.mIZS, ↓Nc.mIZL, ↓Nc.asZZ, ↓Nc.asZS, ↓Nc.asZL, Nc.srcD, ↓Nc.fStrA, ↓Nc.fAddS, ↓Nc.fIntS, ↓Nc.mSw, ↓Nc.mFmt, ↓Nc.mJoined, ↓Nc.mJs, ↓Nc.x_mNotInTbl, ↓Nc.x_lcn, ↓Nc.x_lcc, List.lookup_cons, List.lookup_nil, Nc.strBeqLit, Nc.vD_int, Nc.inV_nil, Nc.inV_cons, Nc.eqV_ss, Nc.eqV_ii, Nc.v_str, Nc.v_int, Nc.v_non, Nc.v_bl, Nc.flat_str, Nc.flat_int, Nc.flat_non, Nc.flat_bl, Nc.cutL_1c, Nc.cutL_1n, Nc.cutL_all, Nc.vD_str, Option.isSome_some, Option.isSome_none, Option.getD_some, Option.getD_none, ↓Nc.stS_0, ↓Nc.stS_s, ↓Nc.x_kWhile, ↓Nc.mCB, ↓Nc.mNo, ↓Nc.mSome, ↓Nc.mSl, ↓Nc.mB, ↓Nc.mNot, ↓Nc.mAnd, ↓Nc.mOr, ↓Nc.mAndV, ↓Nc.mOrV, ↓Nc.mNotV, ↓Nc.mIf, ↓Nc.mChain, ↓Nc.mIL, ↓Nc.mIT, ↓Nc.mIS, ↓Nc.mIR1, ↓Nc.mIR2, ↓Nc.mIE, ↓Nc.x_mLc, ↓Nc.mYes, ↓Nc.mIsi2, ↓Nc.mJoin, ↓Nc.mMaxDef, ↓Nc.x_mInTbl, ↓Nc.x_mIxTbl, ↓Nc.x_mDispGet, Nc.lkp_cons, Nc.lkp_nil, ↓Nc.mSortSet, ↓Nc.fI, ↓Nc.fI0, ↓Nc.fLen, ↓Nc.fAll, ↓Nc.fAny, ↓Nc.fSum, ↓Nc.fListOf, ↓Nc.fListText, ↓Nc.fIx, ↓Nc.fSlL, ↓Nc.fSlT, ↓Nc.fSlS, ↓Nc.fAdd, ↓Nc.fEq, ↓Nc.fIs, ↓Nc.fIn, ↓Nc.fIsi, ↓Nc.fSortS, ↓Nc.fSortI, ↓Nc.fMax2, ↓Nc.fMin2, ↓Nc.fInt1, ↓Nc.fTupleOf, ↓Nc.fMaxL, ↓Nc.asI, ↓Nc.asL, ↓Nc.asT, ↓Nc.asS, ↓Nc.asB, ↓Nc.asE, ↓Nc.asR1, ↓Nc.asR2, ↓Nc.asStr, ↓Nc.mName, ↓Nc.mgNil, ↓Nc.mgCons, ↓Nc.mgTup, ↓Nc.wipeD, ↓Nc.isOw, ↓Nc.rs_non, ↓Nc.rs_bl, ↓Nc.rs_int, ↓Nc.rs_str, ↓Nc.rs_lst, ↓Nc.rs_tup, ↓Nc.rs_dic, ↓Nc.rs_ins, ↓Nc.rs_bag, ↓Nc.rs_raw, Nc.ty_non, Nc.ty_bl, Nc.ty_int, Nc.ty_str, Nc.ty_lst, Nc.ty_tup, Nc.isN_non, Nc.isN_bl, Nc.isN_int, Nc.isN_str, Nc.isN_lst, Nc.isN_tup, Nc.tyMem, Nc.isT_all, Nc.litOk, Nc.atI_0, Nc.atI_1, Nc.atI_2, Nc.nc0, Nc.nc1, Nc.nc2, Nc.nc3, Nc.nc4, Nc.nc5, Nc.eqv_lnil, Nc.eqv_lnl, Nc.ok_lnil, Nc.sg_len, Nc.ofL_len, Nc.sg_toL, Nc.ofL_toL, List.isEmpty_nil, List.isEmpty_cons, String.reduceEq, Int.reduceEq, Int.reduceNe, Nc.strEqLit, Nc.ok_int, Nc.ok_bl, Nc.ok_non, Nc.ok_str, Nc.eqv_int, Nc.eqv_str, Nc.eqv_bl, Nc.eqv_non, List.map_cons, List.map_nil, List.cons_append, List.nil_append, List.append_nil, List.length_cons, List.length_nil, List.getElem?_cons_zero, List.getElem?_cons_succ, List.set_cons_zero, List.set_cons_succ, List.replicate_succ, List.replicate_zero, List.take_succ_cons, List.take_zero, List.drop_succ_cons, List.drop_zero, List.mem_cons, List.not_mem_nil, List.forall_mem_cons, forall_eq_or_imp, forall_eq, Bool.false_eq_true, ↓reduceIte, ↓reduceDIte, true_and, and_true, false_and, and_false, Bool.not_true, Bool.not_false, decide_true, decide_false, decide_eq_true_eq, not_true_eq_false, not_false_eq_true, reduceCtorEq, Nat.reduceAdd, Nat.reduceLeDiff, Nat.reduceLT, Nat.reduceEqDiff, Nat.zero_add, forall_const, implies_true, Nat.lt_add_one, Nat.succ_ne_self, Nat.add_one_sub_one, Nc.szl, List.forall_mem_nil, or_false, false_or, or_true, true_or, Bool.and_true, Bool.true_and, Bool.and_false, Bool.false_and, Bool.or_true, Bool.true_or, Bool.or_false, Bool.false_or, eq_self, Bool.not_eq_true, Bool.decide_eq_true, Nat.le_refl, Int.natCast_add, Int.reduceAdd, Int.reduceLT, Int.reduceLE])

namespace Nc
open PySem PySem.Spec PyProof.Rows L2
/-! ### is_number -/
def m_is_number : List D → M D := runM 1 0
    (kRet (mAndV (mCB fIsi (mCons (mVarQ 0) (mCons (mC (.raw (.ty "int"))) mNil))) (mNotV (mCB fIsi (mCons (mVarQ 0) (mCons (mC (.raw (.ty "bool"))) mNil))))))
/-! ### is_letter -/
def m_is_letter : List D → M D := runM 2 0
    (kRet (mAndV (mCB fIsi (mCons (mVarQ 0) (mCons (mC (.raw (.ty "str"))) mNil))) (mAndV (mOp (fEq false) (mCB fLen (mCons (mVarQ 0) mNil)) (mC (.int 1))) (mOp (fIn false) (mVarQ 0) (mVarQ 1)))))
/-! ### pattern_formed -/
def b_pattern_formed_ (self : List D → M D) : List D → M D := runM 1 3
    (kSeq (kIf (mOr (mNot (mB (mCB fIsi (mCons (mVarQ 0) (mCons (mC (.raw (.ty "tuple"))) mNil))))) (mOr (mB (mOp (fEq false) (mCB fLen (mCons (mVarQ 0) mNil)) (mC (.int 0)))) (mNot (mB (mCB fIsi (mCons (mOp fIx (mVarQ 0) (mC (.int 0))) (mCons (mC (.raw (.ty "str"))) mNil))))))) (kRet (mC (.bl false))) kNext)
    (kSeq (kAsgS 1 (mVar 0) (mgCons (mName 1) (mgCons (mName 2) mgNil)))
    (kSeq (kIf (mB (mOp (fEq false) (mVarQ 1) (mC (.str "none")))) (kRet (mOp (fEq false) (mVarQ 2) (mLst mNil))) kNext)
    (kSeq (kIf (mB (mOp (fEq false) (mVarQ 1) (mC (.str "kind")))) (kRet (mAndV (mOp (fEq false) (mCB fLen (mCons (mVarQ 2) mNil)) (mC (.int 1))) (mCall m_is_letter [(.str "abcdefghijklmnopqrstuvwxyz")] (mCons (mOp fIx (mVarQ 2) (mC (.int 0))) mNil)))) kNext)
    (kRet (mAndV (mInTbl [(("then" : Str), V.int 2), (("or" : Str), V.int 2), (("again" : Str), V.int 1)] (mVarQ 1)) (mAndV (mOp (fEq false) (mCB fLen (mCons (mVarQ 2) mNil)) (mIxTbl [(("then" : Str), V.int 2), (("or" : Str), V.int 2), (("again" : Str), V.int 1)] (mVarQ 1))) (mCB fAll (mCons (mLc (mIL (mVar 2)) (mName 3) mYes (mCall self [] (mCons (mVar 3) mNil)) [3]) mNil)))))))))
def m_pattern_formed : Nat → List D → M D
  | 0 => fun _ _ _ _ => False
  | n + 1 => b_pattern_formed_ (m_pattern_formed n)
theorem e_pattern_formed (n : Nat) : m_pattern_formed (n + 1) = b_pattern_formed_ (m_pattern_formed n) := rfl
/-! ### parts_within -/
def m_parts_within : List D → M D := runM 1 1
    (kRet (mLc (mIT (mSl fSlT (mVarQ 0) (mSome (mC (.int 1))) mNo)) (mName 1) (mB (mCB fIsi (mCons (mVarQ 1) (mCons (mC (.raw (.ty "tuple"))) mNil)))) (mVar 1) [1]))
/-! ### parts_of -/
def b_parts_of_ (self : List D → M D) : List D → M D := runM 1 1
    (kRet (mOp fAdd (mC (.int 1)) (mCB fSum (mCons (mLc (mIL (mCall m_parts_within [] (mCons (mVar 0) mNil))) (mName 1) mYes (mCall self [] (mCons (mVar 1) mNil)) [1]) mNil))))
def m_parts_of : Nat → List D → M D
  | 0 => fun _ _ _ _ => False
  | n + 1 => b_parts_of_ (m_parts_of n)
theorem e_parts_of (n : Nat) : m_parts_of (n + 1) = b_parts_of_ (m_parts_of n) := rfl
/-! ### deep_of -/
def b_deep_of_ (self : List D → M D) : List D → M D := runM 1 1
    (kRet (mOp fAdd (mC (.int 1)) (mMaxDef (mCons (mLc (mIL (mCall m_parts_within [] (mCons (mVar 0) mNil))) (mName 1) mYes (mCall self [] (mCons (mVar 1) mNil)) [1]) mNil) 0)))
def m_deep_of : Nat → List D → M D
  | 0 => fun _ _ _ _ => False
  | n + 1 => b_deep_of_ (m_deep_of n)
theorem e_deep_of (n : Nat) : m_deep_of (n + 1) = b_deep_of_ (m_deep_of n) := rfl
/-! ### size_flaw -/
def m_size_flaw : List D → M D := runM 1 0
    (kSeq (kIf (mB (mOp (fI0 fun i j => .bl (decide (j < i))) (mCall (m_parts_of 70) [] (mCons (mVar 0) mNil)) (mC (.int 16)))) (kRet (mC (.str "many"))) kNext)
    (kRet (mIf (mB (mOp (fI0 fun i j => .bl (decide (j < i))) (mCall (m_deep_of 70) [] (mCons (mVar 0) mNil)) (mC (.int 6)))) (mC (.str "deep")) (mC .non))))
/-! ### flaw_of -/
def m_flaw_of : List D → M D := runM 1 0
    (kRet (mIf (mB (mCall (m_pattern_formed 70) [] (mCons (mVar 0) mNil))) (mCall m_size_flaw [] (mCons (mVar 0) mNil)) (mC (.str "form"))))
/-! ### need_pattern -/
def m_need_pattern : List D → M D := runM 1 1
    (kSeq (kAsg (mCall m_flaw_of [] (mCons (mVar 0) mNil)) (mName 1))
    (kIf (mB (mOp (fIs true) (mVarQ 1) (mC .non))) kNever kNext))
/-! ### between -/
def m_between : List D → M D := runM 3 0
    (kRet (mAndV (mCall m_is_number [] (mCons (mVar 0) mNil)) (mChain (fI0 fun i j => .bl (decide (i ≤ j))) (fI0 fun i j => .bl (decide (i ≤ j))) (mVarQ 1) (mVarQ 0) (mVarQ 2))))
/-! ### wish_formed -/
def b_wish_formed_ (self : List D → M D) : List D → M D := runM 1 4
    (kSeq (kIf (mOr (mNot (mB (mCB fIsi (mCons (mVarQ 0) (mCons (mC (.raw (.ty "tuple"))) mNil))))) (mOr (mB (mOp (fEq false) (mCB fLen (mCons (mVarQ 0) mNil)) (mC (.int 0)))) (mNot (mB (mCB fIsi (mCons (mOp fIx (mVarQ 0) (mC (.int 0))) (mCons (mC (.raw (.ty "str"))) mNil))))))) (kRet (mC (.bl false))) kNext)
    (kSeq (kAsgS 1 (mVar 0) (mgCons (mName 1) (mgCons (mName 2) mgNil)))
    (kSeq (kIf (mB (mOp (fIn false) (mVarQ 1) (mTup (mCons (mC (.str "all")) (mCons (mC (.str "one")) mNil))))) (kRet (mAndV (mOp (fEq false) (mCB fLen (mCons (mVarQ 2) mNil)) (mC (.int 1))) (mCall (m_pattern_formed 70) [] (mCons (mOp fIx (mVarQ 2) (mC (.int 0))) mNil)))) kNext)
    (kSeq (kIf (mB (mOp (fEq false) (mVarQ 1) (mC (.str "each")))) (kRet (mAndV (mOp (fEq false) (mCB fLen (mCons (mVarQ 2) mNil)) (mC (.int 2))) (mAndV (mCall m_between [] (mCons (mOp fIx (mVarQ 2) (mC (.int 0))) (mCons (mC (.int 1)) (mCons (mC (.int 3)) mNil)))) (mCall (m_pattern_formed 70) [] (mCons (mOp fIx (mVarQ 2) (mC (.int 1))) mNil))))) kNext)
    (kSeq (kIf (mB (mOp (fEq false) (mVarQ 1) (mC (.str "last")))) (kRet (mAndV (mOp (fEq false) (mCB fLen (mCons (mVarQ 2) mNil)) (mC (.int 2))) (mAndV (mCall m_is_letter [(.str "abcdefghijklmnopqrstuvwxyz")] (mCons (mOp fIx (mVarQ 2) (mC (.int 0))) mNil)) (mCall m_is_letter [(.str "abcdefghijklmnopqrstuvwxyz")] (mCons (mOp fIx (mVarQ 2) (mC (.int 1))) mNil))))) kNext)
    (kSeq (kIf (mB (mOp (fEq false) (mVarQ 1) (mC (.str "turns")))) (kRet (mAndV (mOp (fEq false) (mCB fLen (mCons (mVarQ 2) mNil)) (mC (.int 1))) (mCall m_is_letter [(.str "abcdefghijklmnopqrstuvwxyz")] (mCons (mOp fIx (mVarQ 2) (mC (.int 0))) mNil)))) kNext)
    (kSeq (kIf (mB (mOp (fEq false) (mVarQ 1) (mC (.str "apart")))) (kRet (mAndV (mOp (fEq false) (mCB fLen (mCons (mVarQ 2) mNil)) (mC (.int 1))) (mCall m_between [] (mCons (mOp fIx (mVarQ 2) (mC (.int 0))) (mCons (mC (.int 2)) (mCons (mC (.int 4)) mNil)))))) kNext)
    (kSeq (kIf (mB (mOp (fIn false) (mVarQ 1) (mTup (mCons (mC (.str "upon")) (mCons (mC (.str "cut")) mNil))))) (kSeq (kAsg (mIf (mB (mOp (fEq false) (mVarQ 1) (mC (.str "upon")))) (mC (.int 3)) (mC (.int 2))) (mName 3))
    (kRet (mAndV (mOp (fEq false) (mCB fLen (mCons (mVarQ 2) mNil)) (mVarQ 3)) (mAndV (mCall m_is_letter [(.str "abcdefghijklmnopqrstuvwxyz")] (mCons (mOp fIx (mVarQ 2) (mC (.int 0))) mNil)) (mCB fAll (mCons (mLc (mIL (mSl fSlL (mVarQ 2) (mSome (mC (.int 1))) mNo)) (mName 4) mYes (mCall self [] (mCons (mVar 4) mNil)) [4]) mNil)))))) kNext)
    (kSeq (kAsg (mDispGet [(("both" : Str), V.int 2), (("either" : Str), V.int 2), (("not" : Str), V.int 1)] (V.int (-1)) (mVarQ 1)) (mName 3))
    (kRet (mAndV (mOp (fEq false) (mCB fLen (mCons (mVarQ 2) mNil)) (mVarQ 3)) (mCB fAll (mCons (mLc (mIL (mVar 2)) (mName 4) mYes (mCall self [] (mCons (mVar 4) mNil)) [4]) mNil)))))))))))))
def m_wish_formed : Nat → List D → M D
  | 0 => fun _ _ _ _ => False
  | n + 1 => b_wish_formed_ (m_wish_formed n)
theorem e_wish_formed (n : Nat) : m_wish_formed (n + 1) = b_wish_formed_ (m_wish_formed n) := rfl
/-! ### wish_flaw -/
def m_wish_flaw : List D → M D := runM 1 0
    (kRet (mIf (mB (mCall (m_wish_formed 70) [] (mCons (mVar 0) mNil))) (mCall m_size_flaw [] (mCons (mVar 0) mNil)) (mC (.str "form"))))
/-! ### need_wish -/
def m_need_wish : List D → M D := runM 1 1
    (kSeq (kAsg (mCall m_wish_flaw [] (mCons (mVar 0) mNil)) (mName 1))
    (kIf (mB (mOp (fIs true) (mVarQ 1) (mC .non))) kNever kNext))
/-! ### pattern_so -/
def b_pattern_so_ (self : List D → M D) : List D → M D := runM 1 3
    (kSeq (kAsgS 1 (mVar 0) (mgCons (mName 1) (mgCons (mName 2) mgNil)))
    (kSeq (kIf (mB (mOp (fEq false) (mVarQ 1) (mC (.str "none")))) (kRet (mC (.str "-"))) kNext)
    (kSeq (kIf (mB (mOp (fEq false) (mVarQ 1) (mC (.str "kind")))) (kRet (mOp fIx (mVarQ 2) (mC (.int 0)))) kNext)
    (kRet (mOp fAdd (mOp fAdd (mIxTbl [(("then" : Str), V.str "["), (("or" : Str), V.str "{"), (("again" : Str), V.str "<")] (mVarQ 1)) (mJoin (mC (.str " ")) (mLc (mIL (mVar 2)) (mName 3) mYes (mCall self [] (mCons (mVar 3) mNil)) [3]))) (mIxTbl [(("then" : Str), V.str "]"), (("or" : Str), V.str "}"), (("again" : Str), V.str ">")] (mVarQ 1)))))))
def m_pattern_so : Nat → List D → M D
  | 0 => fun _ _ _ _ => False
  | n + 1 => b_pattern_so_ (m_pattern_so n)
theorem e_pattern_so (n : Nat) : m_pattern_so (n + 1) = b_pattern_so_ (m_pattern_so n) := rfl
/-! ### wish_so -/
def b_wish_so_ (self : List D → M D) : List D → M D := runM 1 5
    (kSeq (kAsgS 1 (mVar 0) (mgCons (mName 1) (mgCons (mName 2) mgNil)))
    (kSeq (kOwn 3 (mLst (mCons (mVar 1) mNil)))
    (kSeq (kFor (mIZZ (mCons (mIxTbl [(("all" : Str), V.str "p"), (("one" : Str), V.str "p"), (("each" : Str), V.str "mp"), (("last" : Str), V.str "kk"), (("turns" : Str), V.str "k"), (("apart" : Str), V.str "n"), (("upon" : Str), V.str "kww"), (("cut" : Str), V.str "kw"), (("both" : Str), V.str "ww"), (("either" : Str), V.str "ww"), (("not" : Str), V.str "w")] (mVarQ 1)) (mCons (mVar 2) mNil))) (mgTup (mgCons (mName 4) (mgCons (mName 5) mgNil))) (kIf (mB (mOp (fEq false) (mVarQ 4) (mC (.str "p")))) (kApp 3 (mCall (m_pattern_so 70) [] (mCons (mVar 5) mNil))) (kIf (mB (mOp (fEq false) (mVarQ 4) (mC (.str "w")))) (kApp 3 (mJoined [(mC (.str "(")), (mFmt (mCall self [] (mCons (mVar 5) mNil))), (mC (.str ")"))])) (kApp 3 (mCB fStrA (mCons (mVarQ 5) mNil))))))
    (kFrz 3 (kRet (mJoin (mC (.str " ")) (mVarQ 3)))))))
def m_wish_so : Nat → List D → M D
  | 0 => fun _ _ _ _ => False
  | n + 1 => b_wish_so_ (m_wish_so n)
theorem e_wish_so (n : Nat) : m_wish_so (n + 1) = b_wish_so_ (m_wish_so n) := rfl
/-! ### pattern_text -/
def m_pattern_text : List D → M D := runM 1 0
    (kSeq (kDrop (mCall m_need_pattern [] (mCons (mVar 0) mNil)))
    (kRet (mCall (m_pattern_so 70) [] (mCons (mVar 0) mNil))))
/-! ### wish_text -/
def m_wish_text : List D → M D := runM 1 0
    (kSeq (kDrop (mCall m_need_wish [] (mCons (mVar 0) mNil)))
    (kRet (mCall (m_wish_so 70) [] (mCons (mVar 0) mNil))))
/-! ### Reader.__init__ -/
def m_Reader___init__ : List D → M D := runM 2 0
    (kSeq (kFSet "Reader" "signs_left" (mVar 1) (mVar 0))
    (kSeq (kFSet "Reader" "at" (mC (.int 0)) (mVar 0))
    (kFSet "Reader" "parts" (mC (.int 0)) (mVar 0))))
/-! ### Reader.sign -/
def m_Reader_sign : List D → M D := runM 1 0
    (kRet (mSl fSlS (mFld "Reader" "signs_left" (mVar 0)) (mSome (mFld "Reader" "at" (mVar 0))) (mSome (mOp fAdd (mFld "Reader" "at" (mVar 0)) (mC (.int 1))))))
/-! ### Reader.one_of -/
def m_Reader_one_of : List D → M D := runM 2 1
    (kSeq (kAsg (mMeth "Reader" "sign" m_Reader_sign [] (mVar 0) mNil) (mName 2))
    (kSeq (kIf (mOr (mB (mOp (fEq false) (mVarQ 2) (mC (.str "")))) (mB (mOp (fIn true) (mVarQ 2) (mVarQ 1)))) kNever kNext)
    (kSeq (kFAug "Reader" "at" (fI0 fun i j => .int (i + j)) (mVar 0) (mC (.int 1)))
    (kRet (mVar 2)))))
/-! ### Reader.begin -/
def m_Reader_begin : List D → M D := runM 2 0
    (kSeq (kIf (mOr (mB (mOp (fI0 fun i j => .bl (decide (j ≤ i))) (mFld "Reader" "parts" (mVar 0)) (mC (.int 16)))) (mB (mOp (fI0 fun i j => .bl (decide (j < i))) (mVarQ 1) (mC (.int 6))))) kNever kNext)
    (kFAug "Reader" "parts" (fI0 fun i j => .int (i + j)) (mVar 0) (mC (.int 1))))
/-! ### Reader.pattern -/
def b_Reader_pattern_ (self : List D → M D) : List D → M D := runM 2 4
    (kSeq (kAsg (mFld "Reader" "at" (mVar 0)) (mName 2))
    (kSeq (kAsg (mMeth "Reader" "one_of" m_Reader_one_of [] (mVar 0) (mCons (mOp fAdd (mC (.str "-[{<")) (mC (.str "abcdefghijklmnopqrstuvwxyz"))) mNil)) (mName 3))
    (kSeq (kFSet "Reader" "at" (mVar 2) (mVar 0))
    (kSeq (kDrop (mMeth "Reader" "begin" m_Reader_begin [] (mVar 0) (mCons (mVar 1) mNil)))
    (kSeq (kFAug "Reader" "at" (fI0 fun i j => .int (i + j)) (mVar 0) (mC (.int 1)))
    (kSeq (kIf (mB (mOp (fEq false) (mVarQ 3) (mC (.str "-")))) (kRet (mTup (mCons (mC (.str "none")) mNil))) kNext)
    (kSeq (kIf (mB (mOp (fIn false) (mVarQ 3) (mC (.str "abcdefghijklmnopqrstuvwxyz")))) (kRet (mTup (mCons (mC (.str "kind")) (mCons (mVar 3) mNil)))) kNext)
    (kSeq (kAsg (mIxTbl [(("[" : Str), V.str "then"), (("{" : Str), V.str "or"), (("<" : Str), V.str "again")] (mVarQ 3)) (mName 4))
    (kSeq (kOwn 5 (mLst (mCons (mMeth "Reader" "pattern" self [] (mVar 0) (mCons (mOp fAdd (mVarQ 1) (mC (.int 1))) mNil)) mNil)))
    (kSeq (kIf (mB (mOp (fEq true) (mVarQ 4) (mC (.str "again")))) (kSeq (kDrop (mMeth "Reader" "one_of" m_Reader_one_of [] (mVar 0) (mCons (mC (.str " ")) mNil)))
    (kApp 5 (mMeth "Reader" "pattern" self [] (mVar 0) (mCons (mOp fAdd (mVarQ 1) (mC (.int 1))) mNil)))) kNext)
    (kFrz 5 (kSeq (kDrop (mMeth "Reader" "one_of" m_Reader_one_of [] (mVar 0) (mCons (mIxTbl [(("then" : Str), V.str "]"), (("or" : Str), V.str "}"), (("again" : Str), V.str ">")] (mVarQ 4)) mNil)))
    (kRet (mOp fAdd (mTup (mCons (mVar 4) mNil)) (mCB fTupleOf (mCons (mVarQ 5) mNil))))))))))))))))
def m_Reader_pattern : Nat → List D → M D
  | 0 => fun _ _ _ _ => False
  | n + 1 => b_Reader_pattern_ (m_Reader_pattern n)
theorem e_Reader_pattern (n : Nat) : m_Reader_pattern (n + 1) = b_Reader_pattern_ (m_Reader_pattern n) := rfl
/-! ### Reader.read_word -/
def m_Reader_read_word : List D → M D := runM 2 2
    (kSeq (kAsg (mC (.str "")) (mName 2))
    (kSeq (kWhile (mB (mNotInTbl [(("all" : Str), V.str "p"), (("one" : Str), V.str "p"), (("each" : Str), V.str "mp"), (("last" : Str), V.str "kk"), (("turns" : Str), V.str "k"), (("apart" : Str), V.str "n"), (("upon" : Str), V.str "kww"), (("cut" : Str), V.str "kw"), (("both" : Str), V.str "ww"), (("either" : Str), V.str "ww"), (("not" : Str), V.str "w")] (mVarQ 2))) (kSeq (kAug 2 fAddS (mMeth "Reader" "one_of" m_Reader_one_of [] (mVar 0) (mCons (mJoin (mC (.str "")) (mLc (mIC ((([(("all" : Str), V.str "p"), (("one" : Str), V.str "p"), (("each" : Str), V.str "mp"), (("last" : Str), V.str "kk"), (("turns" : Str), V.str "k"), (("apart" : Str), V.str "n"), (("upon" : Str), V.str "kww"), (("cut" : Str), V.str "kw"), (("both" : Str), V.str "ww"), (("either" : Str), V.str "ww"), (("not" : Str), V.str "w")] : List (Str × V)).map (·.1)).map D.str)) (mName 3) (mB (mSw (mVarQ 3) (mVarQ 2))) (mOp fIx (mVarQ 3) (mCB fLen (mCons (mVarQ 2) mNil))) [3])) mNil)))
    (kIf (mB (mOp (fEq false) (mCB fLen (mCons (mVarQ 2) mNil)) (mC (.int 1)))) (kSeq (kFAug "Reader" "at" (fI0 fun i j => .int (i - j)) (mVar 0) (mC (.int 1)))
    (kSeq (kDrop (mMeth "Reader" "begin" m_Reader_begin [] (mVar 0) (mCons (mVar 1) mNil)))
    (kFAug "Reader" "at" (fI0 fun i j => .int (i + j)) (mVar 0) (mC (.int 1))))) kNext)))
    (kRet (mVar 2))))
/-! ### Reader.thing -/
def b_Reader_thing_ (self : List D → M D) : List D → M D := runM 3 1
    (kSeq (kIf (mB (mOp (fEq false) (mVarQ 1) (mC (.str "p")))) (kRet (mMeth "Reader" "pattern" (m_Reader_pattern 70) [] (mVar 0) (mCons (mOp fAdd (mVarQ 2) (mC (.int 1))) mNil))) kNext)
    (kSeq (kIf (mB (mOp (fEq true) (mVarQ 1) (mC (.str "w")))) (kSeq (kAsg (mMeth "Reader" "one_of" m_Reader_one_of [] (mVar 0) (mCons (mIxTbl [(("m" : Str), V.str "123"), (("n" : Str), V.str "234"), (("k" : Str), V.str "abcdefghijklmnopqrstuvwxyz")] (mVarQ 1)) mNil)) (mName 3))
    (kRet (mIf (mB (mOp (fEq false) (mVarQ 1) (mC (.str "k")))) (mVar 3) (mCB fIntS (mCons (mVarQ 3) mNil))))) kNext)
    (kSeq (kDrop (mMeth "Reader" "one_of" m_Reader_one_of [] (mVar 0) (mCons (mC (.str "(")) mNil)))
    (kSeq (kAsg (mMeth "Reader" "wish" self [] (mVar 0) (mCons (mOp fAdd (mVarQ 2) (mC (.int 1))) mNil)) (mName 3))
    (kSeq (kDrop (mMeth "Reader" "one_of" m_Reader_one_of [] (mVar 0) (mCons (mC (.str ")")) mNil)))
    (kRet (mVar 3)))))))
/-! ### Reader.wish -/
def b_Reader_wish_ (self : List D → M D) : List D → M D := runM 2 3
    (kSeq (kAsg (mMeth "Reader" "read_word" m_Reader_read_word [] (mVar 0) (mCons (mVar 1) mNil)) (mName 2))
    (kSeq (kOwn 3 (mLst mNil))
    (kSeq (kFor (mIS (mIxTbl [(("all" : Str), V.str "p"), (("one" : Str), V.str "p"), (("each" : Str), V.str "mp"), (("last" : Str), V.str "kk"), (("turns" : Str), V.str "k"), (("apart" : Str), V.str "n"), (("upon" : Str), V.str "kww"), (("cut" : Str), V.str "kw"), (("both" : Str), V.str "ww"), (("either" : Str), V.str "ww"), (("not" : Str), V.str "w")] (mVarQ 2))) (mName 4) (kSeq (kDrop (mMeth "Reader" "one_of" m_Reader_one_of [] (mVar 0) (mCons (mC (.str " ")) mNil)))
    (kApp 3 (mMeth "Reader" "thing" (b_Reader_thing_ self) [] (mVar 0) (mCons (mVar 4) (mCons (mVar 1) mNil))))))
    (kFrz 3 (kRet (mOp fAdd (mTup (mCons (mVar 2) mNil)) (mCB fTupleOf (mCons (mVarQ 3) mNil))))))))
def m_Reader_wish : Nat → List D → M D
  | 0 => fun _ _ _ _ => False
  | n + 1 => b_Reader_wish_ (m_Reader_wish n)
theorem e_Reader_wish (n : Nat) : m_Reader_wish (n + 1) = b_Reader_wish_ (m_Reader_wish n) := rfl
/-! ### Reader.end -/
def m_Reader_end : List D → M D := runM 1 0
    (kIf (mB (mOp (fEq true) (mMeth "Reader" "sign" m_Reader_sign [] (mVar 0) mNil) (mC (.str "")))) kNever kNext)
/-! ### read_pattern -/
def m_read_pattern : List D → M D := runM 1 2
    (kSeq (kAsg (mMake "Reader" m_Reader___init__ [] (mCons (mVar 0) mNil)) (mName 1))
    (kSeq (kAsg (mMeth "Reader" "pattern" (m_Reader_pattern 70) [] (mVar 1) (mCons (mC (.int 1)) mNil)) (mName 2))
    (kSeq (kDrop (mMeth "Reader" "end" m_Reader_end [] (mVar 1) mNil))
    (kRet (mVar 2)))))
/-! ### read_wish -/
def m_read_wish : List D → M D := runM 1 2
    (kSeq (kAsg (mMake "Reader" m_Reader___init__ [] (mCons (mVar 0) mNil)) (mName 1))
    (kSeq (kAsg (mMeth "Reader" "wish" (m_Reader_wish 70) [] (mVar 1) (mCons (mC (.int 1)) mNil)) (mName 2))
    (kSeq (kDrop (mMeth "Reader" "end" m_Reader_end [] (mVar 1) mNil))
    (kRet (mVar 2)))))
/-! ### _law_bag -/

/-! ### _law_pick -/
abbrev m__law_pick : List D → M D := mPick
/-! ### _law_of -/
def m__law_of : List D → M D := runM 2 0
    (kRet (mOp fIx (mVarQ 1) (mCall m__law_pick [] (mCons (mVar 0) (mCons (mCB fLen (mCons (mVarQ 1) mNil)) mNil)))))
/-! ### _law_shuffled -/
abbrev m__law_shuffled : List D → M D := mShuffled
/-! ### _law_same -/
def b__law_same_ (self : List D → M D) : List D → M D := runM 2 1
    (kSeq (kIf (mB (mOp (fIs false) (mVarQ 1) (mC .non))) (kRet (mOp (fIs false) (mVarQ 0) (mC .non))) kNext)
    (kSeq (kIf (mOr (mB (mCB fIsi (mCons (mVarQ 1) (mCons (mC (.raw (.ty "bool"))) mNil)))) (mB (mCB fIsi (mCons (mVarQ 0) (mCons (mC (.raw (.ty "bool"))) mNil))))) (kRet (mAndV (mCB fIsi (mCons (mVarQ 1) (mCons (mC (.raw (.ty "bool"))) mNil))) (mAndV (mCB fIsi (mCons (mVarQ 0) (mCons (mC (.raw (.ty "bool"))) mNil))) (mOp (fEq false) (mVarQ 0) (mVarQ 1))))) kNext)
    (kSeq (kIf (mB (mIsi2 "int" "str" (mVarQ 1))) (kRet (mAndV (mIsi2 "int" "str" (mVarQ 0)) (mAndV (mOp (fEq false) (mCB fIsi (mCons (mVarQ 0) (mCons (mC (.raw (.ty "int"))) mNil))) (mCB fIsi (mCons (mVarQ 1) (mCons (mC (.raw (.ty "int"))) mNil)))) (mOp (fEq false) (mVarQ 0) (mVarQ 1))))) kNext)
    (kSeq (kIf (mOr (mB (mOp (fEq true) (mCB fIsi (mCons (mVarQ 1) (mCons (mC (.raw (.ty "list"))) mNil))) (mCB fIsi (mCons (mVarQ 0) (mCons (mC (.raw (.ty "list"))) mNil))))) (mB (mOp (fEq true) (mCB fIsi (mCons (mVarQ 1) (mCons (mC (.raw (.ty "tuple"))) mNil))) (mCB fIsi (mCons (mVarQ 0) (mCons (mC (.raw (.ty "tuple"))) mNil)))))) (kRet (mC (.bl false))) kNext)
    (kSeq (kIf (mOr (mNot (mB (mIsi2 "list" "tuple" (mVarQ 0)))) (mB (mOp (fEq true) (mCB fLen (mCons (mVarQ 0) mNil)) (mCB fLen (mCons (mVarQ 1) mNil))))) (kRet (mC (.bl false))) kNext)
    (kRet (mCB fAll (mCons (mLc (mIR1 (mCons (mCB fLen (mCons (mVarQ 1) mNil)) mNil)) (mName 2) mYes (mCall self [] (mCons (mOp fIx (mVarQ 0) (mVarQ 2)) (mCons (mOp fIx (mVarQ 1) (mVarQ 2)) mNil))) [2]) mNil))))))))
def m__law_same : Nat → List D → M D
  | 0 => fun _ _ _ _ => False
  | n + 1 => b__law_same_ (m__law_same n)
theorem e__law_same (n : Nat) : m__law_same (n + 1) = b__law_same_ (m__law_same n) := rfl
/-! ### _law_signs -/
def m__law_signs : List D → M D := runM 2 1
    (kSeq (kAsg (mCB fListText (mCons (mC (.str "abcdefghijklmnopqrstuvwxyz")) mNil)) (mName 2))
    (kSeq (kIf (mB (mOp (fEq false) (mCall m__law_pick [] (mCons (mVar 0) (mCons (mC (.int 2)) mNil))) (mC (.int 0)))) (kAsg (mSl fSlL (mVarQ 2) mNo (mSome (mC (.int 5)))) (mName 2)) kNext)
    (kRet (mJoin (mC (.str "")) (mCB fSortS (mCons (mSl fSlL (mCall m__law_shuffled [] (mCons (mVar 0) (mCons (mVar 2) mNil))) mNo (mSome (mOp fAdd (mC (.int 1)) (mCall m__law_pick [] (mCons (mVar 0) (mCons (mVar 1) mNil)))))) mNil))))))
/-! ### _law_pattern -/
def b__law_pattern_ (self : List D → M D) : List D → M D := runM 3 3
    (kSeq (kAsg (mCall m__law_pick [] (mCons (mVar 0) (mCons (mC (.int 8)) mNil))) (mName 3))
    (kSeq (kIf (mOr (mB (mOp (fI0 fun i j => .bl (decide (i < j))) (mVarQ 2) (mC (.int 2)))) (mB (mOp (fEq false) (mVarQ 3) (mC (.int 0))))) (kRet (mIf (mB (mOp (fEq false) (mCall m__law_pick [] (mCons (mVar 0) (mCons (mC (.int 8)) mNil))) (mC (.int 0)))) (mTup (mCons (mC (.str "none")) mNil)) (mTup (mCons (mC (.str "kind")) (mCons (mCall m__law_of [] (mCons (mVar 0) (mCons (mVar 1) mNil))) mNil))))) kNext)
    (kSeq (kIf (mOr (mB (mOp (fI0 fun i j => .bl (decide (i < j))) (mVarQ 3) (mC (.int 3)))) (mB (mOp (fI0 fun i j => .bl (decide (i < j))) (mVarQ 2) (mC (.int 3))))) (kRet (mTup (mCons (mC (.str "again")) (mCons (mCall self [] (mCons (mVar 0) (mCons (mVar 1) (mCons (mOp (fI0 fun i j => .int (i - j)) (mVarQ 2) (mC (.int 1))) mNil)))) mNil)))) kNext)
    (kSeq (kAsg (mOp fAdd (mC (.int 1)) (mCall m__law_pick [] (mCons (mVar 0) (mCons (mOp (fI0 fun i j => .int (i - j)) (mVarQ 2) (mC (.int 2))) mNil)))) (mName 4))
    (kSeq (kAsg (mCall self [] (mCons (mVar 0) (mCons (mVar 1) (mCons (mVar 4) mNil)))) (mName 5))
    (kRet (mTup (mCons (mOp fIx (mLst (mCons (mC (.str "then")) (mCons (mC (.str "or")) mNil))) (mOp (fI (fun _ j => 0 < j) fun i j => .int (i % j)) (mVarQ 3) (mC (.int 2)))) (mCons (mVar 5) (mCons (mCall self [] (mCons (mVar 0) (mCons (mVar 1) (mCons (mOp (fI0 fun i j => .int (i - j)) (mOp (fI0 fun i j => .int (i - j)) (mVarQ 2) (mC (.int 1))) (mVarQ 4)) mNil)))) mNil))))))))))
def m__law_pattern : Nat → List D → M D
  | 0 => fun _ _ _ _ => False
  | n + 1 => b__law_pattern_ (m__law_pattern n)
theorem e__law_pattern (n : Nat) : m__law_pattern (n + 1) = b__law_pattern_ (m__law_pattern n) := rfl
/-! ### _law_inner -/
def m__law_inner : List D → M D := runM 1 1
    (kRet (mLc (mIT (mSl fSlT (mVarQ 0) (mSome (mC (.int 1))) mNo)) (mName 1) (mB (mCB fIsi (mCons (mVarQ 1) (mCons (mC (.raw (.ty "tuple"))) mNil)))) (mVar 1) [1]))
/-! ### _law_parts -/
def b__law_parts_ (self : List D → M D) : List D → M D := runM 1 1
    (kRet (mOp fAdd (mC (.int 1)) (mCB fSum (mCons (mLc (mIL (mCall m__law_inner [] (mCons (mVar 0) mNil))) (mName 1) mYes (mCall self [] (mCons (mVar 1) mNil)) [1]) mNil))))
def m__law_parts : Nat → List D → M D
  | 0 => fun _ _ _ _ => False
  | n + 1 => b__law_parts_ (m__law_parts n)
theorem e__law_parts (n : Nat) : m__law_parts (n + 1) = b__law_parts_ (m__law_parts n) := rfl
/-! ### _law_deep -/
def b__law_deep_ (self : List D → M D) : List D → M D := runM 1 1
    (kRet (mOp fAdd (mC (.int 1)) (mCB fMaxL (mCons (mOp fAdd (mLst (mCons (mC (.int 0)) mNil)) (mLc (mIL (mCall m__law_inner [] (mCons (mVar 0) mNil))) (mName 1) mYes (mCall self [] (mCons (mVar 1) mNil)) [1])) mNil))))
def m__law_deep : Nat → List D → M D
  | 0 => fun _ _ _ _ => False
  | n + 1 => b__law_deep_ (m__law_deep n)
theorem e__law_deep (n : Nat) : m__law_deep (n + 1) = b__law_deep_ (m__law_deep n) := rfl
/-! ### _law_cut_deep -/
def b__law_cut_deep_ (self : List D → M D) : List D → M D := runM 2 1
    (kSeq (kIf (mAnd (mB (mOp (fI0 fun i j => .bl (decide (i < j))) (mVarQ 1) (mC (.int 2)))) (mB (mOp (fIn true) (mOp fIx (mVarQ 0) (mC (.int 0))) (mTup (mCons (mC (.str "none")) (mCons (mC (.str "kind")) mNil)))))) (kRet (mTup (mCons (mC (.str "none")) mNil))) kNext)
    (kSeq (kIf (mB (mOp (fIn false) (mOp fIx (mVarQ 0) (mC (.int 0))) (mTup (mCons (mC (.str "none")) (mCons (mC (.str "kind")) mNil))))) (kRet (mVar 0)) kNext)
    (kRet (mOp fAdd (mTup (mCons (mOp fIx (mVarQ 0) (mC (.int 0))) mNil)) (mCB fTupleOf (mCons (mLc (mIT (mSl fSlT (mVarQ 0) (mSome (mC (.int 1))) mNo)) (mName 2) mYes (mCall self [] (mCons (mVar 2) (mCons (mOp (fI0 fun i j => .int (i - j)) (mVarQ 1) (mC (.int 1))) mNil))) [2]) mNil))))))
def m__law_cut_deep : Nat → List D → M D
  | 0 => fun _ _ _ _ => False
  | n + 1 => b__law_cut_deep_ (m__law_cut_deep n)
theorem e__law_cut_deep (n : Nat) : m__law_cut_deep (n + 1) = b__law_cut_deep_ (m__law_cut_deep n) := rfl
/-! ### _law_size_flaw -/
def m__law_size_flaw : List D → M D := runM 1 0
    (kSeq (kIf (mB (mOp (fI0 fun i j => .bl (decide (j < i))) (mCall (m__law_parts 70) [] (mCons (mVar 0) mNil)) (mC (.int 16)))) (kRet (mC (.str "many"))) kNext)
    (kRet (mIf (mB (mOp (fI0 fun i j => .bl (decide (j < i))) (mCall (m__law_deep 70) [] (mCons (mVar 0) mNil)) (mC (.int 6)))) (mC (.str "deep")) (mC .non))))
/-! ### _law_plain_wish -/
def m__law_plain_wish : List D → M D := runM 3 2
    (kSeq (kAsg (mCall m__law_pick [] (mCons (mVar 0) (mCons (mC (.int 8)) mNil))) (mName 3))
    (kSeq (kIf (mB (mOp (fI0 fun i j => .bl (decide (i < j))) (mVarQ 3) (mC (.int 3)))) (kSeq (kAsg (mCall (m__law_cut_deep 70) [] (mCons (mCall (m__law_pattern 70) [] (mCons (mVar 0) (mCons (mVar 1) (mCons (mVar 2) mNil)))) (mCons (mC (.int 4)) mNil))) (mName 4))
    (kSeq (kIf (mB (mOp (fI0 fun i j => .bl (decide (j < i))) (mCall m__law_pick [] (mCons (mVar 0) (mCons (mC (.int 3)) mNil))) (mC (.int 0)))) (kAsg (mTup (mCons (mC (.str "again")) (mCons (mVar 4) mNil))) (mName 4)) kNext)
    (kRet (mTup (mCons (mC (.str "each")) (mCons (mOp fAdd (mC (.int 1)) (mCall m__law_pick [] (mCons (mVar 0) (mCons (mC (.int 2)) mNil)))) (mCons (mVar 4) mNil))))))) kNext)
    (kSeq (kIf (mB (mOp (fI0 fun i j => .bl (decide (i < j))) (mVarQ 3) (mC (.int 5)))) (kRet (mTup (mCons (mOp fIx (mLst (mCons (mC (.str "all")) (mCons (mC (.str "one")) mNil))) (mOp (fI0 fun i j => .int (i - j)) (mVarQ 3) (mC (.int 3)))) (mCons (mCall (m__law_pattern 70) [] (mCons (mVar 0) (mCons (mVar 1) (mCons (mVar 2) mNil)))) mNil)))) kNext)
    (kSeq (kIf (mB (mOp (fEq false) (mVarQ 3) (mC (.int 5)))) (kRet (mTup (mCons (mC (.str "last")) (mCons (mCall m__law_of [] (mCons (mVar 0) (mCons (mVar 1) mNil))) (mCons (mCall m__law_of [] (mCons (mVar 0) (mCons (mVar 1) mNil))) mNil))))) kNext)
    (kRet (mIf (mB (mOp (fEq false) (mVarQ 3) (mC (.int 6)))) (mTup (mCons (mC (.str "turns")) (mCons (mCall m__law_of [] (mCons (mVar 0) (mCons (mVar 1) mNil))) mNil))) (mTup (mCons (mC (.str "apart")) (mCons (mOp fAdd (mC (.int 2)) (mCall m__law_pick [] (mCons (mVar 0) (mCons (mC (.int 2)) mNil)))) mNil)))))))))
/-! ### _law_wish -/
def b__law_wish_ (self : List D → M D) : List D → M D := runM 3 3
    (kSeq (kAsg (mCall m__law_pick [] (mCons (mVar 0) (mCons (mC (.int 11)) mNil))) (mName 3))
    (kSeq (kIf (mAnd (mB (mOp (fI0 fun i j => .bl (decide (j < i))) (mVarQ 2) (mC (.int 2)))) (mB (mOp (fI0 fun i j => .bl (decide (i < j))) (mVarQ 3) (mC (.int 4))))) (kSeq (kAsg (mLc (mIR1 (mCons (mC (.int 2)) mNil)) (mName 5) mYes (mCall self [] (mCons (mVar 0) (mCons (mVar 1) (mCons (mOp (fI0 fun i j => .int (i - j)) (mOp (fI CDivW fun i j => .int (i / j)) (mVarQ 2) (mC (.int 2))) (mOp (fI (fun _ j => 0 < j) fun i j => .int (i % j)) (mOp (fI CDivW fun i j => .int (i / j)) (mVarQ 3) (mC (.int 2))) (mC (.int 2)))) mNil)))) [5]) (mName 4))
    (kSeq (kIf (mB (mOp (fI0 fun i j => .bl (decide (i < j))) (mVarQ 3) (mC (.int 2)))) (kRet (mTup (mCons (mOp fIx (mLst (mCons (mC (.str "both")) (mCons (mC (.str "either")) mNil))) (mVarQ 3)) (mCons (mOp fIx (mVarQ 4) (mC (.int 0))) (mCons (mOp fIx (mVarQ 4) (mC (.int 1))) mNil))))) kNext)
    (kRet (mIf (mB (mOp (fEq false) (mVarQ 3) (mC (.int 2)))) (mTup (mCons (mC (.str "upon")) (mCons (mCall m__law_of [] (mCons (mVar 0) (mCons (mVar 1) mNil))) (mCons (mOp fIx (mVarQ 4) (mC (.int 0))) (mCons (mOp fIx (mVarQ 4) (mC (.int 1))) mNil))))) (mTup (mCons (mC (.str "not")) (mCons (mOp fIx (mVarQ 4) (mC (.int 0))) mNil))))))) kNext)
    (kSeq (kIf (mAnd (mB (mOp (fI0 fun i j => .bl (decide (j < i))) (mVarQ 2) (mC (.int 1)))) (mB (mOp (fEq false) (mVarQ 3) (mC (.int 4))))) (kRet (mTup (mCons (mC (.str "cut")) (mCons (mCall m__law_of [] (mCons (mVar 0) (mCons (mVar 1) mNil))) (mCons (mCall self [] (mCons (mVar 0) (mCons (mVar 1) (mCons (mOp (fI0 fun i j => .int (i - j)) (mVarQ 2) (mC (.int 1))) mNil)))) mNil))))) kNext)
    (kRet (mCall m__law_plain_wish [] (mCons (mVar 0) (mCons (mVar 1) (mCons (mCB fMax2 (mCons (mC (.int 1)) (mCons (mCB fMin2 (mCons (mVarQ 2) (mCons (mC (.int 5)) mNil))) mNil))) mNil))))))))
def m__law_wish : Nat → List D → M D
  | 0 => fun _ _ _ _ => False
  | n + 1 => b__law_wish_ (m__law_wish n)
theorem e__law_wish (n : Nat) : m__law_wish (n + 1) = b__law_wish_ (m__law_wish n) := rfl
/-! ### _law_said_pattern -/
def b__law_said_pattern_ (self : List D → M D) : List D → M D := runM 1 2
    (kSeq (kIf (mB (mOp (fEq false) (mOp fIx (mVarQ 0) (mC (.int 0))) (mC (.str "none")))) (kRet (mC (.str "-"))) kNext)
    (kSeq (kIf (mB (mOp (fEq false) (mOp fIx (mVarQ 0) (mC (.int 0))) (mC (.str "kind")))) (kRet (mOp fIx (mVarQ 0) (mC (.int 1)))) kNext)
    (kSeq (kAsg (mLc (mIT (mSl fSlT (mVarQ 0) (mSome (mC (.int 1))) mNo)) (mName 2) mYes (mCall self [] (mCons (mVar 2) mNil)) [2]) (mName 1))
    (kSeq (kIf (mB (mOp (fEq false) (mOp fIx (mVarQ 0) (mC (.int 0))) (mC (.str "again")))) (kRet (mOp fAdd (mOp fAdd (mC (.str "<")) (mOp fIx (mVarQ 1) (mC (.int 0)))) (mC (.str ">")))) kNext)
    (kRet (mIf (mB (mOp (fEq false) (mOp fIx (mVarQ 0) (mC (.int 0))) (mC (.str "then")))) (mOp fAdd (mOp fAdd (mC (.str "[")) (mJoin (mC (.str " ")) (mVarQ 1))) (mC (.str "]"))) (mOp fAdd (mOp fAdd (mC (.str "{")) (mJoin (mC (.str " ")) (mVarQ 1))) (mC (.str "}")))))))))
def m__law_said_pattern : Nat → List D → M D
  | 0 => fun _ _ _ _ => False
  | n + 1 => b__law_said_pattern_ (m__law_said_pattern n)
theorem e__law_said_pattern (n : Nat) : m__law_said_pattern (n + 1) = b__law_said_pattern_ (m__law_said_pattern n) := rfl
/-! ### _law_is_pattern -/
def m__law_is_pattern : List D → M D := runM 1 0
    (kRet (mOp (fIn false) (mOp fIx (mVarQ 0) (mC (.int 0))) (mLst (mCons (mC (.str "none")) (mCons (mC (.str "kind")) (mCons (mC (.str "then")) (mCons (mC (.str "or")) (mCons (mC (.str "again")) mNil))))))))
/-! ### _law_said_wish -/
def b__law_said_wish_ (self : List D → M D) : List D → M D := runM 1 2
    (kSeq (kOwn 1 (mLst (mCons (mOp fIx (mVarQ 0) (mC (.int 0))) mNil)))
    (kSeq (kFor (mIT (mSl fSlT (mVarQ 0) (mSome (mC (.int 1))) mNo)) (mName 2) (kIf (mNot (mB (mCB fIsi (mCons (mVarQ 2) (mCons (mC (.raw (.ty "tuple"))) mNil))))) (kApp 1 (mCB fStrA (mCons (mVarQ 2) mNil))) (kIf (mB (mCall m__law_is_pattern [] (mCons (mVar 2) mNil))) (kApp 1 (mCall (m__law_said_pattern 70) [] (mCons (mVar 2) mNil))) (kApp 1 (mOp fAdd (mOp fAdd (mC (.str "(")) (mCall self [] (mCons (mVar 2) mNil))) (mC (.str ")")))))))
    (kFrz 1 (kRet (mJoin (mC (.str " ")) (mVarQ 1))))))
def m__law_said_wish : Nat → List D → M D
  | 0 => fun _ _ _ _ => False
  | n + 1 => b__law_said_wish_ (m__law_said_wish n)
theorem e__law_said_wish (n : Nat) : m__law_said_wish (n + 1) = b__law_said_wish_ (m__law_said_wish n) := rfl
/-! ### law -/
def m_law : MS :=
  (kSeq (kFor (mIR1 (mCons (mC (.int 6)) mNil)) (mName 2) (kSeq (kAsg (mCall m__law_signs [] (mCons (mVar 1) (mCons (mC (.int 4)) mNil))) (mName 3))
    (kSeq (kAsg (mCall (m__law_cut_deep 70) [] (mCons (mCall (m__law_pattern 70) [] (mCons (mVar 1) (mCons (mVar 3) (mCons (mC (.int 14)) mNil)))) (mCons (mC (.int 6)) mNil))) (mName 4))
    (kSeq (kAsg (mCall (m__law_said_pattern 70) [] (mCons (mVar 4) mNil)) (mName 5))
    (kSeq (kIf (mNot (mB (mCall (m__law_same 70) [] (mCons (mLst (mCons (mCall m_pattern_text [] (mCons (mVar 4) mNil)) (mCons (mCall m_read_pattern [] (mCons (mVar 5) mNil)) mNil))) (mCons (mLst (mCons (mVar 5) (mCons (mVar 4) mNil))) mNil))))) (kRet (mC (.bl false))) kNext)
    (kSeq (kAsg (mCall (m__law_wish 70) [] (mCons (mVar 1) (mCons (mVar 3) (mCons (mC (.int 7)) mNil)))) (mName 6))
    (kIf (mB (mOp (fIs false) (mCall m__law_size_flaw [] (mCons (mVar 6) mNil)) (mC .non))) (kSeq (kAsg (mCall (m__law_said_wish 70) [] (mCons (mVar 6) mNil)) (mName 5))
    (kIf (mNot (mB (mCall (m__law_same 70) [] (mCons (mLst (mCons (mCall m_wish_text [] (mCons (mVar 6) mNil)) (mCons (mCall m_read_wish [] (mCons (mVar 5) mNil)) mNil))) (mCons (mLst (mCons (mVar 5) (mCons (mVar 6) mNil))) mNil))))) (kRet (mC (.bl false))) kNext)) kNext)))))))
    (kRet (mOp (fEq false) (mCall m_wish_text [] (mCons (mTup (mCons (mC (.str "upon")) (mCons (mC (.str "c")) (mCons (mTup (mCons (mC (.str "turns")) (mCons (mC (.str "a")) mNil))) (mCons (mTup (mCons (mC (.str "all")) (mCons (mTup (mCons (mC (.str "again")) (mCons (mTup (mCons (mC (.str "kind")) (mCons (mC (.str "a")) mNil))) mNil))) mNil))) mNil))))) mNil)) (mC (.str "upon c (turns a) (all <a>)")))))
end Nc
namespace Nc
open PySem PySem.Spec PyProof.Rows L2
/-! ## patterns -/
inductive Pat where
  | none | kind (c : Nat) | thn (p q : Pat) | orr (p q : Pat) | again (p : Pat)
def Pat.d : Pat → D
  | .none => .tup [.str "none"]
  | .kind c => .tup [.str "kind", .str (sg c)]
  | .thn p q => .tup [.str "then", p.d, q.d]
  | .orr p q => .tup [.str "or", p.d, q.d]
  | .again p => .tup [.str "again", p.d]
def Pat.deep : Pat → Nat
  | .none | .kind _ => 1
  | .thn p q | .orr p q => 1 + max p.deep q.deep
  | .again p => 1 + p.deep
def Pat.parts : Pat → Nat
  | .none | .kind _ => 1
  | .thn p q | .orr p q => 1 + (p.parts + q.parts)
  | .again p => 1 + p.parts
def Pat.letters : Pat → List Nat
  | .none => []
  | .kind c => [c]
  | .thn p q | .orr p q => p.letters ++ q.letters
  | .again p => p.letters
section
variable {P : D → Sto → Prop} {X : Ex → Sto → Prop} {S : Sto}
theorem is_letter_ok {c : Nat} {z : Str} (hP : P (.bl (decide (c ∈ z.cps.toList))) S) : m_is_letter [.str (sg c), .str z] S P X := by
  unfold m_is_letter
  walk_at "M"
  exact hP
theorem Pat.pos (p : Pat) : 1 ≤ p.deep := by cases p <;> simp [Pat.deep] <;> omega
theorem pat_rs (p : Pat) (S : Sto) : S.rs p.d = p.d := by cases p <;> rfl
theorem pat_ty (p : Pat) : D.ty p.d = some "tuple" := by cases p <;> rfl
theorem pattern_formed_ok (p : Pat) : ∀ (n : Nat) {P : D → Sto → Prop} {X : Ex → Sto → Prop} {S : Sto}, p.deep ≤ n → (∀ c ∈ p.letters, c ∈ LET) → P (.bl true) S → m_pattern_formed n [p.d] S P X := by
  induction p with
  | none =>
    intro n P X S h hl hP
    obtain ⟨n, rfl⟩ : ∃ k, n = k + 1 := ⟨n - 1, by simp [Pat.deep] at h; omega⟩
    rw [e_pattern_formed]
    unfold b_pattern_formed_ Pat.d
    walk_at "M"
    exact hP
  | kind c =>
    intro n P X S h hl hP
    obtain ⟨n, rfl⟩ : ∃ k, n = k + 1 := ⟨n - 1, by simp [Pat.deep] at h; omega⟩
    rw [e_pattern_formed]
    unfold b_pattern_formed_ Pat.d
    walk_at "M"
    refine is_letter_ok ?_
    rw [let_eq, decide_eq_true (hl c (by simp [Pat.letters]))]
    exact hP
  | thn p q ihp ihq =>
    intro n P X S h hl hP
    simp only [Pat.deep] at h
    obtain ⟨n, rfl⟩ : ∃ k, n = k + 1 := ⟨n - 1, by omega⟩
    rw [e_pattern_formed]
    unfold b_pattern_formed_ Pat.d
    walk_at "M"
    refine ihp n (by omega) (fun c hc => hl c (by simp [Pat.letters, hc])) ?_
    walk_at "M"
    refine ihq n (by omega) (fun c hc => hl c (by simp [Pat.letters, hc])) ?_
    walk_at "M"
    exact ⟨[true, true], rfl, hP⟩
  | orr p q ihp ihq =>
    intro n P X S h hl hP
    simp only [Pat.deep] at h
    obtain ⟨n, rfl⟩ : ∃ k, n = k + 1 := ⟨n - 1, by omega⟩
    rw [e_pattern_formed]
    unfold b_pattern_formed_ Pat.d
    walk_at "M"
    refine ihp n (by omega) (fun c hc => hl c (by simp [Pat.letters, hc])) ?_
    walk_at "M"
    refine ihq n (by omega) (fun c hc => hl c (by simp [Pat.letters, hc])) ?_
    walk_at "M"
    exact ⟨[true, true], rfl, hP⟩
  | again p ihp =>
    intro n P X S h hl hP
    simp only [Pat.deep] at h
    obtain ⟨n, rfl⟩ : ∃ k, n = k + 1 := ⟨n - 1, by omega⟩
    rw [e_pattern_formed]
    unfold b_pattern_formed_ Pat.d
    walk_at "M"
    refine ihp n (by omega) (fun c hc => hl c (by simp [Pat.letters, hc])) ?_
    walk_at "M"
    exact ⟨[true], rfl, hP⟩
/-! trees of tuples and other things: parts, depth -/
end
end Nc

namespace Nc
open PySem PySem.Spec PyProof.Rows L2
/-! ## trees of tuples: parts, depth, letters -/
def D.isTup : D → Bool
  | .tup _ => true
  | _ => false
def D.strOf : D → Option Str
  | .str z => some z
  | _ => none
/-- what stands behind the first thing of a tuple -/
def D.tail : D → List D
  | .tup (_ :: ds) => ds
  | _ => []
def D.inner (d : D) : List D := d.tail.filter D.isTup
/-- a tree of tuples that begin with a word; of letters -/
def WT : Nat → D → Prop
  | 0, _ => False
  | n + 1, d => ∃ z ds, d = .tup (.str z :: ds) ∧ (ds.length ≤ 8 ∧ ∀ x ∈ ds, ∃ s, x.ty = some s) ∧ (ds.filterMap D.strOf).length ≤ 2 ∧ (∀ z ∈ ds.filterMap D.strOf, ∃ c ∈ LET, z = sg c) ∧ ∀ x ∈ ds.filter D.isTup, WT n x
def D.parts : Nat → D → Int
  | 0, _ => 1
  | n + 1, d => 1 + (d.inner.map (D.parts n)).sum
def D.deepN : Nat → D → Int
  | 0, _ => 1
  | n + 1, d => 1 + mxD 0 (d.inner.map (D.deepN n))
def D.lets : Nat → D → List Str
  | 0, _ => []
  | n + 1, d => d.tail.filterMap D.strOf ++ d.inner.flatMap (D.lets n)
theorem isT_tup {x : D} {s : String} (h : x.ty = some s) : isT s "tuple" = x.isTup := by cases x <;> cases h <;> rfl
theorem isT_str {x : D} {s : String} (h : x.ty = some s) : isT s "str" = x.strOf.isSome := by cases x <;> cases h <;> rfl
theorem ty_rs {x : D} {s : String} (h : x.ty = some s) (S : Sto) : S.rs x = x := by cases x <;> first | rfl | cases h
theorem parts_pos : ∀ n d, 1 ≤ D.parts n d
  | 0, _ => Int.le_refl _
  | n + 1, d => by
    have : 0 ≤ (d.inner.map (D.parts n)).sum := by
      generalize d.inner = l
      induction l with
      | nil => exact Int.le_refl _
      | cons x l ih =>
        rw [List.map_cons, List.sum_cons]
        have := parts_pos n x
        omega
    unfold D.parts
    omega
theorem lets_parts : ∀ n d, WT n d → ((d.lets n).length : Int) ≤ 2 * d.parts n
  | 0, _, h => h.elim
  | n + 1, d, h => by
    obtain ⟨z, ds, rfl, h1, h2, h3, h4⟩ := h
    show ((ds.filterMap D.strOf ++ (ds.filter D.isTup).flatMap (D.lets n)).length : Int) ≤ 2 * (1 + ((ds.filter D.isTup).map (D.parts n)).sum)
    have : ∀ l : List D, (∀ x ∈ l, WT n x) → ((l.flatMap (D.lets n)).length : Int) ≤ 2 * (l.map (D.parts n)).sum := by
      intro l
      induction l with
      | nil => intro _; simp
      | cons x l ih =>
        intro hl
        rw [List.flatMap_cons, List.length_append, List.map_cons, List.sum_cons]
        have := lets_parts n x (hl x (List.mem_cons_self ..))
        have := ih fun y hy => hl y (List.mem_cons_of_mem _ hy)
        omega
    have := this _ h4
    rw [List.length_append]
    omega
theorem lets_good : ∀ n d, WT n d → ∃ cs : List Nat, d.lets n = cs.map sg ∧ ∀ c ∈ cs, c ∈ LET := by
  have key : ∀ l : List Str, (∀ z ∈ l, ∃ c ∈ LET, z = sg c) → ∃ cs : List Nat, l = cs.map sg ∧ ∀ c ∈ cs, c ∈ LET := by
    intro l
    induction l with
    | nil => exact fun _ => ⟨[], rfl, by simp⟩
    | cons z l ih =>
      intro h
      obtain ⟨c, hc, rfl⟩ := h z (List.mem_cons_self ..)
      obtain ⟨cs, rfl, hcs⟩ := ih fun y hy => h y (List.mem_cons_of_mem _ hy)
      exact ⟨c :: cs, rfl, fun x hx => (List.mem_cons.mp hx).elim (fun e => e ▸ hc) (hcs x)⟩
  have mem : ∀ n d, WT n d → ∀ z ∈ d.lets n, ∃ c ∈ LET, z = sg c := by
    intro n
    induction n with
    | zero => exact fun d h => h.elim
    | succ n ih =>
      intro d h z hz
      obtain ⟨w, ds, rfl, h1, h2, h3, h4⟩ := h
      unfold D.lets D.inner D.tail at hz
      rcases List.mem_append.mp hz with hz | hz
      · exact h3 z hz
      · obtain ⟨x, hx, hzx⟩ := List.mem_flatMap.mp hz
        exact ih x (h4 x hx) z hzx
  exact fun n d h => key _ (mem n d h)
section
variable {P : D → Sto → Prop} {X : Ex → Sto → Prop} {S : Sto}
theorem lc_tups {ds : List D} (h : ∀ x ∈ ds, ∃ s, x.ty = some s) {i : Nat} {ρ : Env} (hi : i < ρ.length) {acc : List D} {P : List D → Sto → Prop} (hP : P (acc ++ ds.filter D.isTup) S) :
    lcD (mName i) (mB (mCB fIsi (mCons (mVarQ i) (mCons (mC (.raw (.ty "tuple"))) mNil)))) (mVar i) ρ ds acc S P := by
  refine lcD_fmI (fun x => if x.isTup then some x else none) ds (fun x hx P hP => ?_) ?_
  · obtain ⟨s, hs⟩ := h x hx
    have e1 : (ρ.set i (.va x))[i]? = some (.va x) := List.getElem?_set_self hi
    unfold lcStep
    walk_at "M"
    simp only [e1]
    rw [ty_rs hs, hs]
    simp only [isT_tup hs]
    cases q : x.isTup <;> simp [q] at hP ⊢ <;> exact hP
  · have e : ∀ l : List D, l.filterMap (fun x => if x.isTup then some x else none) = l.filter D.isTup := fun l => by
      induction l with
      | nil => rfl
      | cons x l ih => cases q : x.isTup <;> simp [q, ih]
    rw [e]
    exact hP
theorem parts_within_ok {n : Nat} {d : D} (h : WT n d) (hP : P (.lst d.inner) S) : m_parts_within [d] S P X := by
  cases n with
  | zero => exact h.elim
  | succ n =>
    obtain ⟨z, ds, rfl, h1, h2, h3, h4⟩ := h
    unfold m_parts_within
    walk_at "M"
    exact ⟨by omega, lc_tups h1.2 (by simp) hP⟩
theorem WT.inner {n : Nat} {d : D} (h : WT (n + 1) d) : (∀ x ∈ d.inner, WT n x) ∧ d.inner.length ≤ 8 := by
  obtain ⟨z, ds, rfl, h1, h2, h3, h4⟩ := h
  refine ⟨h4, ?_⟩
  have := List.length_filter_le D.isTup ds
  show (ds.filter D.isTup).length ≤ 8
  omega
theorem parts_of_ok : ∀ (n : Nat) (d : D) {P : D → Sto → Prop} {X : Ex → Sto → Prop} {S : Sto}, WT n d → P (.int (d.parts n)) S → m_parts_of n [d] S P X
  | 0, d, _, _, _, h, _ => h.elim
  | n + 1, d, P, X, S, h, hP => by
    rw [e_parts_of]
    unfold b_parts_of_
    walk_at "M"
    refine parts_within_ok h ?_
    walk_at "M"
    obtain ⟨h1, h2⟩ := h.inner
    refine ⟨by omega, lcD_mapI (fun x => .int (x.parts n)) _ (fun x hx P hP => ?_) ?_⟩
    · unfold lcStep
      walk_at "M"
      exact parts_of_ok n x (h1 x hx) hP
    · walk_at "M"
      exact ⟨d.inner.map (D.parts n), by rw [List.map_map]; rfl, hP⟩
theorem deep_of_ok : ∀ (n : Nat) (d : D) {P : D → Sto → Prop} {X : Ex → Sto → Prop} {S : Sto}, WT n d → P (.int (d.deepN n)) S → m_deep_of n [d] S P X
  | 0, d, _, _, _, h, _ => h.elim
  | n + 1, d, P, X, S, h, hP => by
    rw [e_deep_of]
    unfold b_deep_of_
    walk_at "M"
    refine parts_within_ok h ?_
    walk_at "M"
    obtain ⟨h1, h2⟩ := h.inner
    refine ⟨by omega, lcD_mapI (fun x => .int (x.deepN n)) _ (fun x hx P hP => ?_) ?_⟩
    · unfold lcStep
      walk_at "M"
      exact deep_of_ok n x (h1 x hx) hP
    · walk_at "M"
      exact ⟨d.inner.map (D.deepN n), by rw [List.map_map]; rfl, hP⟩
/-- what the size of a tree says -/
def sizeFlaw (d : D) : D := if d.parts 70 > 16 then .str "many" else if d.deepN 70 > 6 then .str "deep" else .non
theorem size_flaw_ok {d : D} (h : WT 70 d) (hP : P (sizeFlaw d) S) : m_size_flaw [d] S P X := by
  unfold m_size_flaw
  walk_at "M"
  refine parts_of_ok 70 d h ?_
  walk_at "M"
  unfold sizeFlaw at hP
  split
  · rw [if_pos ‹_›] at hP; exact hP
  · rw [if_neg ‹_›] at hP
    refine deep_of_ok 70 d h ?_
    walk_at "M"
    split
    · rw [if_pos ‹_›] at hP; exact hP
    · rw [if_neg ‹_›] at hP; exact hP
theorem lc_strs {ds : List D} (h : ∀ x ∈ ds, ∃ s, x.ty = some s) {i : Nat} {ρ : Env} (hi : i < ρ.length) {acc : List D} {P : List D → Sto → Prop} (hP : P (acc ++ (ds.filterMap D.strOf).map .str) S) :
    lcD (mName i) (mB (mCB fIsi (mCons (mVarQ i) (mCons (mC (.raw (.ty "str"))) mNil)))) (mVar i) ρ ds acc S P := by
  refine lcD_fmI (fun x => x.strOf.map .str) ds (fun x hx P hP => ?_) ?_
  · obtain ⟨s, hs⟩ := h x hx
    have e1 : (ρ.set i (.va x))[i]? = some (.va x) := List.getElem?_set_self hi
    unfold lcStep
    walk_at "M"
    simp only [e1]
    rw [ty_rs hs, hs]
    simp only [isT_str hs]
    cases x <;> simp [D.strOf] at hP ⊢ <;> exact hP
  · rw [List.map_filterMap] at hP
    exact hP
end
end Nc

namespace Nc
open PySem PySem.Spec PyProof.Rows L2
/-! ## what the laws draw with -/
section
variable {P : D → Sto → Prop} {X : Ex → Sto → Prop} {S : Sto}
theorem atI_k {τ : Type} {xs : List τ} {k : Nat} (h : k < xs.length) : L2.atI xs (k : Int) = some xs[k] := L2.atI_nat (List.getElem?_eq_getElem h)
theorem law_of_str {cs : List Nat} (h1 : 1 ≤ cs.length) (h2 : cs.length ≤ 100000) (h : ∀ c ∈ cs, P (.str (sg c)) S) : m__law_of [.bag, .str (ofL cs)] S P X := by
  unfold m__law_of
  walk_at "M"
  refine pick_ok (by omega) (by omega) fun d d0 d1 => ?_
  walk_at "M"
  obtain ⟨k, rfl⟩ := Int.eq_ofNat_of_zero_le d0
  have hk : k < cs.length := by omega
  rw [atI_k hk]
  exact h _ (List.getElem_mem hk)
theorem law_of_lst {ds : List D} (h1 : 1 ≤ ds.length) (h2 : ds.length ≤ 100000) (h : ∀ d ∈ ds, P d S) : m__law_of [.bag, .lst ds] S P X := by
  unfold m__law_of
  walk_at "M"
  refine pick_ok (by omega) (by omega) fun d d0 d1 => ?_
  walk_at "M"
  obtain ⟨k, rfl⟩ := Int.eq_ofNat_of_zero_le d0
  have hk : k < ds.length := by omega
  rw [atI_k hk]
  exact h _ (List.getElem_mem hk)
theorem nodup_let : LET.Nodup := by decide +kernel
theorem law_signs_ok {cap : Nat} (hc : 1 ≤ cap) (hc2 : cap ≤ 26) (h : ∀ cs, GoodL cs → cs.length ≤ cap → P (.str (ofL cs)) S) : m__law_signs [.bag, .int cap] S P X := by
  have fin : ∀ (L zs : List Nat), (∀ c ∈ L, c ∈ LET) → L.Nodup → 1 ≤ L.length → L.length ≤ 26 → zs.Perm L → ∀ d : Int, 0 ≤ d → d < cap →
      ∃ xs : List Str, cutL (zs.map fun c => D.str ⟨#[c]⟩) none (some (1 + d)) = xs.map .str ∧ xs.length < 64 ∧ ∀ ys : List Str, ys.Perm xs → sortedS ys = true →
        ∃ zs : List Str, ys.map D.str = zs.map .str ∧ (zs.map (·.length)).sum + zs.length * ("" : Str).length ≤ 16777216 ∧ P (.str (Str.join "" zs)) S := by
    intro L zs hL hN h1 h26 hz d d0 d1
    obtain ⟨k, rfl⟩ := Int.eq_ofNat_of_zero_le d0
    have hlen := hz.length_eq
    refine ⟨(zs.take (1 + k)).map sg, ?_, ?_, fun ys hp hs => ?_⟩
    · rw [show (1 + (k : Int)) = ((1 + k : Nat) : Int) by omega, cutL_to, ← List.map_take, List.map_map]
      rfl
    · rw [List.length_map, List.length_take]; omega
    · obtain ⟨ws, rfl, hw⟩ := perm_map_inv hp
      have hsub : ∀ c ∈ ws, c ∈ L := fun c hc => hz.mem_iff.mp (List.mem_of_mem_take (hw.mem_iff.mp hc))
      have hwl : ws.length = min (1 + k) zs.length := by rw [hw.length_eq, List.length_take]
      have hnd : ws.Nodup := hw.nodup_iff.mpr ((hz.nodup_iff.mpr hN).sublist (List.take_sublist _ _))
      refine ⟨ws.map sg, rfl, ?_, ?_⟩
      · rw [sum_sg, List.length_map, show ("" : Str).length = 0 from rfl]; omega
      · rw [joinS_sg]
        exact h ws ⟨by omega, fun c hc => hL c (hsub c hc), strict_of (sorted_sg ws hs) hnd⟩ (by omega)
  unfold m__law_signs
  walk_at "M"
  refine pick_ok (by omega) (by omega) fun d d0 d1 => ?_
  walk_at "M"
  rw [let_eq]
  split
  · rw [show cutL (LET.map fun c => D.str ⟨#[c]⟩) none (some 5) = (LET.take 5).map fun c => D.str ⟨#[c]⟩ by rw [show (5 : Int) = ((5 : Nat) : Int) from rfl, cutL_to, List.map_take]]
    refine ⟨by decide, fun ys hp => ?_⟩
    obtain ⟨zs, rfl, hz⟩ := perm_map_inv hp
    walk_at "M"
    refine pick_ok (by omega) (by omega) fun d d0 d1 => ?_
    walk_at "M"
    exact fin (LET.take 5) zs (fun c hc => List.mem_of_mem_take hc) (nodup_let.sublist (List.take_sublist _ _)) (by decide) (by decide) hz d d0 d1
  · refine ⟨by decide, fun ys hp => ?_⟩
    obtain ⟨zs, rfl, hz⟩ := perm_map_inv hp
    walk_at "M"
    refine pick_ok (by omega) (by omega) fun d d0 d1 => ?_
    walk_at "M"
    exact fin LET zs (fun c hc => hc) nodup_let (by decide) (by decide) hz d d0 d1
mutual
/-- no list longer than a thousand -/
def D.smallB : D → Bool
  | .lst ds | .tup ds => decide (ds.length ≤ 100000) && D.smallBs ds
  | _ => true
def D.smallBs : List D → Bool
  | [] => true
  | d :: ds => d.smallB && D.smallBs ds
end
def D.small (d : D) : Prop := d.smallB = true
theorem okd_sub {m : Nat} {ds : List D} (h : D.okd m (.lst ds)) : ∀ x ∈ ds, x.okd m ∧ PyData.depth x.py < PyData.depth (D.lst ds).py := by
  have key : ∀ ds : List D, D.arePy ds = true → PyData.canLayAll0 (D.pys ds) = true → ∀ x ∈ ds, x.isPy = true ∧ PyData.canLay0 x.py = true ∧ PyData.depth x.py ≤ PyData.depthAll (D.pys ds) := by
    intro ds
    induction ds with
    | nil => intro _ _ x hx; cases hx
    | cons d ds ih =>
      intro h1 h2 x hx
      simp only [D.arePy, D.pys, PyData.canLayAll0, Bool.and_eq_true, PyData.depthAll] at h1 h2 ⊢
      rcases List.mem_cons.mp hx with rfl | hx
      · exact ⟨h1.1, h2.1, by omega⟩
      · obtain ⟨a, b, c⟩ := ih h1.2 h2.2 x hx
        exact ⟨a, b, by omega⟩
  intro x hx
  obtain ⟨h1, h2, h3⟩ := h
  have e : PyData.depth (D.lst ds).py = PyData.depthAll (D.pys ds) + 1 := by simp only [D.py, PyData.depth]
  obtain ⟨a, b, c⟩ := key ds (by simpa [D.isPy] using h1) (by simpa [D.py, PyData.canLay0] using h2) x hx
  exact ⟨⟨a, b, by omega⟩, by omega⟩
theorem okd_lt {m : Nat} {ds : List D} (h : D.okd m (.tup ds)) : D.okd m (.lst ds) := by
  obtain ⟨h1, h2, h3⟩ := h
  unfold D.okd
  simp only [D.isPy, D.py, PyData.canLay0, PyData.depth] at h1 h2 h3 ⊢
  exact ⟨h1, h2, h3⟩
theorem small_sub {ds : List D} (h : D.small (.lst ds)) : ds.length ≤ 100000 ∧ ∀ x ∈ ds, x.small := by
  have key : ∀ ds : List D, D.smallBs ds = true → ∀ x ∈ ds, x.small := by
    intro ds
    induction ds with
    | nil => intro _ x hx; cases hx
    | cons d ds ih =>
      intro h x hx
      simp only [D.smallBs, Bool.and_eq_true] at h
      rcases List.mem_cons.mp hx with rfl | hx
      · exact h.1
      · exact ih h.2 x hx
  unfold D.small D.smallB at h
  rw [Bool.and_eq_true, decide_eq_true_eq] at h
  exact ⟨h.1, key ds h.2⟩
theorem okd_ty {m : Nat} {d : D} (h : d.okd m) (S : Sto) : S.rs d = d := by
  cases d with
  | ob i => exact absurd h.1 (by simp [D.isPy])
  | _ => rfl
/-- nothing is unlike itself -/
theorem law_same_ok : ∀ (n m : Nat) (d : D) {P : D → Sto → Prop} {X : Ex → Sto → Prop} {S : Sto}, d.okd m → PyData.depth d.py < n → m ≤ 64 → D.small d → P (.bl true) S → m__law_same n [d, d] S P X := by
  intro n
  induction n with
  | zero => intro m d P X S h hd; omega
  | succ n ih =>
    intro m d P X S h hd hm hsm hP
    have go : ∀ ds : List D, D.okd m (.lst ds) → PyData.depth (D.lst ds).py < n + 1 → D.small (.lst ds) → ∀ a : D, (a = .lst ds ∨ a = .tup ds) →
        -2 ^ 62 ≤ (ds.length : Int) ∧ (ds.length : Int) < 2 ^ 62 ∧ (rngD 0 (ds.length : Int).toNat).length ≤ 16777216 ∧
        lcD (mName 2) mYes (mCall (m__law_same n) [] (mCons (mOp fIx (mVarQ 0) (mVarQ 2)) (mCons (mOp fIx (mVarQ 1) (mVarQ 2)) mNil))) [.va a, .va a, .un] (rngD 0 (ds.length : Int).toNat) [] S
          (fun out S2 => mCB fAll (fun _ S P _ => P [.lst out] S) [] S2 P X) := by
      intro ds h hd hsm a ha
      obtain ⟨s1, s2⟩ := small_sub hsm
      have hsub := okd_sub h
      refine ⟨by omega, by omega, by simp [rngD]; omega, ?_⟩
      unfold rngD
      rw [Int.toNat_natCast]
      refine lcD_map _ (fun _ => .bl true) _ (fun i hi P hP => ?_) ?_
      · have hi := List.mem_range.mp hi
        have hg : ds[i] ∈ ds := List.getElem_mem hi
        unfold lcStep
        rcases ha with rfl | rfl
        · walk_at "M"
          rw [Int.zero_add, atI_k hi]
          walk_at "M"
          exact ih m _ (hsub _ hg).1 (by have := (hsub _ hg).2; omega) hm (s2 _ hg) hP
        · walk_at "M"
          rw [Int.zero_add, atI_k hi]
          walk_at "M"
          exact ih m _ (hsub _ hg).1 (by have := (hsub _ hg).2; omega) hm (s2 _ hg) hP
      · show ∃ bs : List Bool, _ = bs.map D.bl ∧ P (D.bl (bs.all id)) S
        refine ⟨List.replicate ds.length true, ?_, ?_⟩
        · rw [List.map_replicate]
          simp only [List.nil_append]
          rw [List.map_const', List.length_range]
        · rw [show (List.replicate ds.length true).all id = true by simp]
          exact hP
    rw [e__law_same]
    unfold b__law_same_
    cases d with
    | non => walk_at "M"; exact hP
    | bl b => walk_at "M"; exact hP
    | int i => walk_at "M"; exact hP
    | str z =>
      have h1 : z.cps.all (· < 0x110000) = true := by
        have := (ok_iff.mpr (h.le hm))
        rwa [ok_str] at this
      walk_at "M"
      exact ⟨h1, h1, hP⟩
    | lst ds =>
      walk_at "M"
      exact go ds h hd hsm _ (.inl rfl)
    | tup ds =>
      walk_at "M"
      exact go ds (okd_lt h) (by simpa [D.py, PyData.depth] using hd) (by unfold D.small D.smallB at hsm ⊢; exact hsm) _ (.inr rfl)
    | dic _ _ | ins _ _ _ | ob _ | bag | raw _ => exact absurd h.1 (by simp [D.isPy])
end
end Nc

namespace Nc
open PySem PySem.Spec PyProof.Rows L2
/-! ## the law's own parts, depth, letters -/
theorem law_inner_eq : m__law_inner = m_parts_within := rfl
theorem law_parts_eq : ∀ n, m__law_parts n = m_parts_of n
  | 0 => rfl
  | n + 1 => by
    rw [e__law_parts, e_parts_of, law_parts_eq n]
    rfl
theorem deepN_pos : ∀ n d, 1 ≤ D.deepN n d ∧ 0 ≤ mxD 0 (d.inner.map (D.deepN n))
  | 0, d => by
    refine ⟨Int.le_refl _, ?_⟩
    generalize d.inner = l
    cases l with
    | nil => exact Int.le_refl _
    | cons x l =>
      show (0 : Int) ≤ (l.map (D.deepN 0)).foldl max (D.deepN 0 x)
      have : ∀ (l : List Int) (a : Int), 0 ≤ a → 0 ≤ l.foldl max a := fun l => by
        induction l with
        | nil => exact fun a h => h
        | cons b l ih => exact fun a h => ih _ (by omega)
      exact this _ _ (by unfold D.deepN; omega)
  | n + 1, d => by
    have ih := deepN_pos n
    have h1 : ∀ d : D, 1 ≤ D.deepN (n + 1) d := fun d => by unfold D.deepN; have := (ih d).2; omega
    refine ⟨h1 d, ?_⟩
    generalize d.inner = l
    cases l with
    | nil => exact Int.le_refl _
    | cons x l =>
      show (0 : Int) ≤ (l.map (D.deepN (n + 1))).foldl max (D.deepN (n + 1) x)
      have : ∀ (l : List Int) (a : Int), 0 ≤ a → 0 ≤ l.foldl max a := fun l => by
        induction l with
        | nil => exact fun a h => h
        | cons b l ih => exact fun a h => ih _ (by omega)
      exact this _ _ (by have := h1 x; omega)
theorem foldl_max_spec : ∀ (l : List Int) (a : Int), (l.foldl max a ∈ a :: l) ∧ ∀ y ∈ a :: l, y ≤ l.foldl max a
  | [], a => by simp
  | b :: l, a => by
    obtain ⟨h1, h2⟩ := foldl_max_spec l (max a b)
    show (l.foldl max (max a b) ∈ a :: b :: l) ∧ ∀ y ∈ a :: b :: l, y ≤ l.foldl max (max a b)
    refine ⟨?_, fun y hy => ?_⟩
    · rcases List.mem_cons.mp h1 with h | h
      · rw [h]
        rcases Int.le_total a b with q | q
        · rw [Int.max_eq_right q]; simp
        · rw [Int.max_eq_left q]; simp
      · exact List.mem_cons_of_mem _ (List.mem_cons_of_mem _ h)
    · have := h2 (max a b) (List.mem_cons_self ..)
      rcases List.mem_cons.mp hy with rfl | hy
      · omega
      · rcases List.mem_cons.mp hy with rfl | hy
        · omega
        · exact h2 y (List.mem_cons_of_mem _ hy)
theorem max0_eq {ns : List Int} {m : Int} (hp : ∀ x ∈ ns, 0 ≤ x) (h1 : m ∈ (0 : Int) :: ns) (h2 : ∀ y ∈ (0 : Int) :: ns, y ≤ m) : m = mxD 0 ns := by
  cases ns with
  | nil =>
    simp at h1
    exact h1
  | cons x ns =>
    obtain ⟨g1, g2⟩ := foldl_max_spec ns x
    show m = ns.foldl max x
    have a1 := h2 _ (List.mem_cons_of_mem _ g1)
    rcases List.mem_cons.mp h1 with rfl | h1
    · have := hp _ g1
      omega
    · have := g2 m h1
      omega
section
variable {P : D → Sto → Prop} {X : Ex → Sto → Prop} {S : Sto}
theorem law_deep_ok : ∀ (n : Nat) (d : D) {P : D → Sto → Prop} {X : Ex → Sto → Prop} {S : Sto}, WT n d → P (.int (d.deepN n)) S → m__law_deep n [d] S P X
  | 0, d, _, _, _, h, _ => h.elim
  | n + 1, d, P, X, S, h, hP => by
    rw [e__law_deep]
    unfold b__law_deep_
    walk_at "M"
    rw [law_inner_eq]
    refine parts_within_ok h ?_
    walk_at "M"
    obtain ⟨h1, h2⟩ := h.inner
    refine ⟨by omega, lcD_mapI (fun x => .int (x.deepN n)) _ (fun x hx P hP => ?_) ?_⟩
    · unfold lcStep
      walk_at "M"
      exact law_deep_ok n x (h1 x hx) hP
    · walk_at "M"
      refine ⟨by rw [List.length_map]; omega, 0 :: d.inner.map (D.deepN n), by rw [List.map_cons, List.map_map]; rfl, by simp, fun m hm hall => ?_⟩
      have e := max0_eq (fun x hx => by
        obtain ⟨y, _, rfl⟩ := List.mem_map.mp hx
        have := (deepN_pos n y).1
        omega) hm hall
      rw [e]
      exact hP
theorem law_size_flaw_ok {d : D} (h : WT 70 d) (hP : P (sizeFlaw d) S) : m__law_size_flaw [d] S P X := by
  unfold m__law_size_flaw
  walk_at "M"
  rw [law_parts_eq]
  refine parts_of_ok 70 d h ?_
  walk_at "M"
  unfold sizeFlaw at hP
  split
  · rw [if_pos ‹_›] at hP; exact hP
  · rw [if_neg ‹_›] at hP
    refine law_deep_ok 70 d h ?_
    walk_at "M"
    split
    · rw [if_pos ‹_›] at hP; exact hP
    · rw [if_neg ‹_›] at hP; exact hP
theorem sizeFlaw_or (d : D) : sizeFlaw d = .non ∨ ∃ z, sizeFlaw d = .str z := by
  unfold sizeFlaw
  split
  · exact .inr ⟨_, rfl⟩
  · split
    · exact .inr ⟨_, rfl⟩
    · exact .inl rfl
end
end Nc

namespace Nc
open PySem PySem.Spec PyProof.Rows L2
/-! ## wishes -/
inductive Wish where
  | all (p : Pat) | one (p : Pat) | each (m : Nat) (p : Pat) | last (k l : Nat) | turns (k : Nat) | apart (m : Nat)
  | upon (k : Nat) (v w : Wish) | cut (k : Nat) (v : Wish) | both (v w : Wish) | either (v w : Wish) | nt (v : Wish)
def Wish.d : Wish → D
  | .all p => .tup [.str "all", p.d]
  | .one p => .tup [.str "one", p.d]
  | .each m p => .tup [.str "each", .int (m : Int), p.d]
  | .last k l => .tup [.str "last", .str (sg k), .str (sg l)]
  | .turns k => .tup [.str "turns", .str (sg k)]
  | .apart m => .tup [.str "apart", .int (m : Int)]
  | .upon k v w => .tup [.str "upon", .str (sg k), v.d, w.d]
  | .cut k v => .tup [.str "cut", .str (sg k), v.d]
  | .both v w => .tup [.str "both", v.d, w.d]
  | .either v w => .tup [.str "either", v.d, w.d]
  | .nt v => .tup [.str "not", v.d]
def Wish.deep : Wish → Nat
  | .all p | .one p | .each _ p => 1 + p.deep
  | .last _ _ | .turns _ | .apart _ => 1
  | .upon _ v w | .both v w | .either v w => 1 + max v.deep w.deep
  | .cut _ v | .nt v => 1 + v.deep
def Wish.letters : Wish → List Nat
  | .all p | .one p | .each _ p => p.letters
  | .last k l => [k, l]
  | .turns k => [k]
  | .apart _ => []
  | .upon k v w => k :: (v.letters ++ w.letters)
  | .cut k v => k :: v.letters
  | .both v w | .either v w => v.letters ++ w.letters
  | .nt v => v.letters
/-- the numbers within their bounds -/
def Wish.nums : Wish → Prop
  | .each m _ => 1 ≤ m ∧ m ≤ 3
  | .apart m => 2 ≤ m ∧ m ≤ 4
  | .upon _ v w | .both v w | .either v w => v.nums ∧ w.nums
  | .cut _ v | .nt v => v.nums
  | _ => True
theorem wish_so (w : Wish) : D.strOf w.d = none := by cases w <;> rfl
theorem pat_so (w : Pat) : D.strOf w.d = none := by cases w <;> rfl
theorem so_str (z : Str) : D.strOf (.str z) = some z := rfl
theorem so_int (z : Int) : D.strOf (.int z) = none := rfl
theorem pat_WT : ∀ (p : Pat) (n : Nat), p.deep ≤ n → (∀ c ∈ p.letters, c ∈ LET) → WT n p.d := by
  intro p
  induction p with
  | none =>
    intro n h _
    obtain ⟨n, rfl⟩ : ∃ k, n = k + 1 := ⟨n - 1, by simp [Pat.deep] at h; omega⟩
    exact ⟨_, _, rfl, by simp, by simp, by simp, by simp⟩
  | kind c =>
    intro n h hl
    obtain ⟨n, rfl⟩ : ∃ k, n = k + 1 := ⟨n - 1, by simp [Pat.deep] at h; omega⟩
    exact ⟨_, _, rfl, by simp [ty_str, ty_int], by simp [so_str, so_int], by simpa [so_str, so_int] using ⟨c, hl c (by simp [Pat.letters]), rfl⟩, by simp [D.isTup]⟩
  | thn p q ihp ihq =>
    intro n h hl
    simp only [Pat.deep] at h
    obtain ⟨n, rfl⟩ : ∃ k, n = k + 1 := ⟨n - 1, by omega⟩
    have h1 := ihp n (by omega) fun c hc => hl c (by simp [Pat.letters, hc])
    have h2 := ihq n (by omega) fun c hc => hl c (by simp [Pat.letters, hc])
    exact ⟨_, _, rfl, by simp [pat_ty], by simp [pat_so], by simp [pat_so], fun x hx => by
      have := (List.mem_filter.mp hx).1
      simp at this
      rcases this with rfl | rfl
      · exact h1
      · exact h2⟩
  | orr p q ihp ihq =>
    intro n h hl
    simp only [Pat.deep] at h
    obtain ⟨n, rfl⟩ : ∃ k, n = k + 1 := ⟨n - 1, by omega⟩
    have h1 := ihp n (by omega) fun c hc => hl c (by simp [Pat.letters, hc])
    have h2 := ihq n (by omega) fun c hc => hl c (by simp [Pat.letters, hc])
    exact ⟨_, _, rfl, by simp [pat_ty], by simp [pat_so], by simp [pat_so], fun x hx => by
      have := (List.mem_filter.mp hx).1
      simp at this
      rcases this with rfl | rfl
      · exact h1
      · exact h2⟩
  | again p ihp =>
    intro n h hl
    simp only [Pat.deep] at h
    obtain ⟨n, rfl⟩ : ∃ k, n = k + 1 := ⟨n - 1, by omega⟩
    have h1 := ihp n (by omega) fun c hc => hl c (by simp [Pat.letters, hc])
    exact ⟨_, _, rfl, by simp [pat_ty], by simp [pat_so], by simp [pat_so], fun x hx => by
      have := (List.mem_filter.mp hx).1
      simp at this
      rcases this with rfl
      exact h1⟩
theorem wish_rs (w : Wish) (S : Sto) : S.rs w.d = w.d := by cases w <;> rfl
theorem wish_ty (w : Wish) : D.ty w.d = some "tuple" := by cases w <;> rfl
theorem wish_WT : ∀ (w : Wish) (n : Nat), w.deep ≤ n → (∀ c ∈ w.letters, c ∈ LET) → WT n w.d := by
  intro w
  induction w with
  | all p | one p =>
    intro n h hl
    simp only [Wish.deep] at h
    obtain ⟨n, rfl⟩ : ∃ k, n = k + 1 := ⟨n - 1, by omega⟩
    exact ⟨_, _, rfl, by simp [pat_ty], by simp [pat_so], by simp [pat_so], fun x hx => by
      have := (List.mem_filter.mp hx).1
      simp at this
      rw [this]
      exact pat_WT p n (by omega) hl⟩
  | each m p =>
    intro n h hl
    simp only [Wish.deep] at h
    obtain ⟨n, rfl⟩ : ∃ k, n = k + 1 := ⟨n - 1, by omega⟩
    exact ⟨_, _, rfl, by simp [pat_ty, ty_str, ty_int], by simp [List.filterMap_cons, pat_so, so_str, so_int], by simp [List.filterMap_cons, pat_so, so_str, so_int], fun x hx => by
      have h1 := List.mem_filter.mp hx
      simp at h1
      rcases h1.1 with h2 | h2
      · rw [h2] at h1; exact absurd (show false = true from h1.2) Bool.false_ne_true
      · rw [h2]
        exact pat_WT p n (by omega) hl⟩
  | last k l =>
    intro n h hl
    simp only [Wish.deep] at h
    obtain ⟨n, rfl⟩ : ∃ k, n = k + 1 := ⟨n - 1, by omega⟩
    exact ⟨_, _, rfl, by simp [ty_str, ty_int], by simp [so_str, so_int], fun z hz => by
      simp [so_str, so_int] at hz
      rcases hz with rfl | rfl
      · exact ⟨k, hl k (by simp [Wish.letters]), rfl⟩
      · exact ⟨l, hl l (by simp [Wish.letters]), rfl⟩, by simp [D.isTup]⟩
  | turns k =>
    intro n h hl
    simp only [Wish.deep] at h
    obtain ⟨n, rfl⟩ : ∃ k, n = k + 1 := ⟨n - 1, by omega⟩
    exact ⟨_, _, rfl, by simp [ty_str, ty_int], by simp [so_str, so_int], fun z hz => by
      simp [so_str, so_int] at hz
      exact ⟨k, hl k (by simp [Wish.letters]), hz⟩, by simp [D.isTup]⟩
  | apart m =>
    intro n h hl
    simp only [Wish.deep] at h
    obtain ⟨n, rfl⟩ : ∃ k, n = k + 1 := ⟨n - 1, by omega⟩
    exact ⟨_, _, rfl, by simp [ty_str, ty_int], by simp [List.filterMap_cons, so_str, so_int], by simp [List.filterMap_cons, so_str, so_int], by simp [D.isTup]⟩
  | upon k v w ihv ihw =>
    intro n h hl
    simp only [Wish.deep] at h
    obtain ⟨n, rfl⟩ : ∃ k, n = k + 1 := ⟨n - 1, by omega⟩
    have h1 := ihv n (by omega) fun c hc => hl c (by simp [Wish.letters, hc])
    have h2 := ihw n (by omega) fun c hc => hl c (by simp [Wish.letters, hc])
    exact ⟨_, _, rfl, by simp [ty_str, ty_int, wish_ty], by simp [so_str, so_int, wish_so], fun z hz => by
      simp [so_str, so_int, wish_so] at hz
      exact ⟨k, hl k (by simp [Wish.letters]), hz⟩, fun x hx => by
      have h3 := List.mem_filter.mp hx
      simp at h3
      rcases h3.1 with h4 | h4 | h4
      · rw [h4] at h3; exact absurd (show false = true from h3.2) Bool.false_ne_true
      · rw [h4]; exact h1
      · rw [h4]; exact h2⟩
  | cut k v ihv =>
    intro n h hl
    simp only [Wish.deep] at h
    obtain ⟨n, rfl⟩ : ∃ k, n = k + 1 := ⟨n - 1, by omega⟩
    have h1 := ihv n (by omega) fun c hc => hl c (by simp [Wish.letters, hc])
    exact ⟨_, _, rfl, by simp [ty_str, ty_int, wish_ty], by simp [so_str, so_int, wish_so], fun z hz => by
      simp [so_str, so_int, wish_so] at hz
      exact ⟨k, hl k (by simp [Wish.letters]), hz⟩, fun x hx => by
      have h3 := List.mem_filter.mp hx
      simp at h3
      rcases h3.1 with h4 | h4
      · rw [h4] at h3; exact absurd (show false = true from h3.2) Bool.false_ne_true
      · rw [h4]; exact h1⟩
  | both v w ihv ihw | either v w ihv ihw =>
    intro n h hl
    simp only [Wish.deep] at h
    obtain ⟨n, rfl⟩ : ∃ k, n = k + 1 := ⟨n - 1, by omega⟩
    have h1 := ihv n (by omega) fun c hc => hl c (by simp [Wish.letters, hc])
    have h2 := ihw n (by omega) fun c hc => hl c (by simp [Wish.letters, hc])
    exact ⟨_, _, rfl, by simp [wish_ty], by simp [wish_so], by simp [wish_so], fun x hx => by
      have h3 := (List.mem_filter.mp hx).1
      simp at h3
      rcases h3 with h4 | h4
      · rw [h4]; exact h1
      · rw [h4]; exact h2⟩
  | nt v ihv =>
    intro n h hl
    simp only [Wish.deep] at h
    obtain ⟨n, rfl⟩ : ∃ k, n = k + 1 := ⟨n - 1, by omega⟩
    have h1 := ihv n (by omega) fun c hc => hl c (by simp [Wish.letters, hc])
    exact ⟨_, _, rfl, by simp [wish_ty], by simp [wish_so], by simp [wish_so], fun x hx => by
      have h3 := (List.mem_filter.mp hx).1
      simp at h3
      rw [h3]; exact h1⟩
section
variable {P : D → Sto → Prop} {X : Ex → Sto → Prop} {S : Sto}
theorem is_number_int {i : Int} (hP : P (.bl true) S) : m_is_number [.int i] S P X := by
  unfold m_is_number
  walk_at "M"
  exact hP
theorem between_int {i a b : Int} (hP : P (.bl (decide (a ≤ i ∧ i ≤ b))) S) : m_between [.int i, .int a, .int b] S P X := by
  unfold m_between
  walk_at "M"
  refine is_number_int ?_
  walk_at "M"
  by_cases h : a ≤ i
  · rw [if_pos h]
    simpa [h] using hP
  · rw [if_neg h]
    simpa [h] using hP
theorem wish_formed_ok (w : Wish) : ∀ (n : Nat) {P : D → Sto → Prop} {X : Ex → Sto → Prop} {S : Sto}, w.deep ≤ n → n ≤ 70 → (∀ c ∈ w.letters, c ∈ LET) → w.nums → P (.bl true) S → m_wish_formed n [w.d] S P X := by
  induction w with
  | all p | one p =>
    intro n P X S h h70 hl hn hP
    simp only [Wish.deep] at h
    obtain ⟨n, rfl⟩ : ∃ k, n = k + 1 := ⟨n - 1, by omega⟩
    rw [e_wish_formed]
    unfold b_wish_formed_ Wish.d
    walk_at "M"
    exact pattern_formed_ok p 70 (by omega) hl hP
  | each m p =>
    intro n P X S h h70 hl hn hP
    simp only [Wish.deep] at h
    obtain ⟨n, rfl⟩ : ∃ k, n = k + 1 := ⟨n - 1, by omega⟩
    rw [e_wish_formed]
    unfold b_wish_formed_ Wish.d
    walk_at "M"
    refine between_int ?_
    rw [decide_eq_true (by have := hn; simp only [Wish.nums] at this; omega)]
    walk_at "M"
    exact pattern_formed_ok p 70 (by omega) hl hP
  | last k l =>
    intro n P X S h h70 hl hn hP
    simp only [Wish.deep] at h
    obtain ⟨n, rfl⟩ : ∃ k, n = k + 1 := ⟨n - 1, by omega⟩
    rw [e_wish_formed]
    unfold b_wish_formed_ Wish.d
    walk_at "M"
    refine is_letter_ok ?_
    rw [let_eq, decide_eq_true (hl k (by simp [Wish.letters]))]
    walk_at "M"
    refine is_letter_ok ?_
    rw [let_eq, decide_eq_true (hl l (by simp [Wish.letters]))]
    exact hP
  | turns k =>
    intro n P X S h h70 hl hn hP
    simp only [Wish.deep] at h
    obtain ⟨n, rfl⟩ : ∃ k, n = k + 1 := ⟨n - 1, by omega⟩
    rw [e_wish_formed]
    unfold b_wish_formed_ Wish.d
    walk_at "M"
    refine is_letter_ok ?_
    rw [let_eq, decide_eq_true (hl k (by simp [Wish.letters]))]
    exact hP
  | apart m =>
    intro n P X S h h70 hl hn hP
    simp only [Wish.deep] at h
    obtain ⟨n, rfl⟩ : ∃ k, n = k + 1 := ⟨n - 1, by omega⟩
    rw [e_wish_formed]
    unfold b_wish_formed_ Wish.d
    walk_at "M"
    refine between_int ?_
    rw [decide_eq_true (by have := hn; simp only [Wish.nums] at this; omega)]
    exact hP
  | upon k v w ihv ihw =>
    intro n P X S h h70 hl hn hP
    simp only [Wish.deep] at h
    obtain ⟨n, rfl⟩ : ∃ k, n = k + 1 := ⟨n - 1, by omega⟩
    rw [e_wish_formed]
    unfold b_wish_formed_ Wish.d
    walk_at "M"
    refine is_letter_ok ?_
    rw [let_eq, decide_eq_true (hl k (by simp [Wish.letters]))]
    walk_at "M"
    refine ihv n (by omega) (by omega) (fun c hc => hl c (by simp [Wish.letters, hc])) hn.1 ?_
    walk_at "M"
    refine ihw n (by omega) (by omega) (fun c hc => hl c (by simp [Wish.letters, hc])) hn.2 ?_
    walk_at "M"
    exact ⟨[true, true], rfl, hP⟩
  | cut k v ihv =>
    intro n P X S h h70 hl hn hP
    simp only [Wish.deep] at h
    obtain ⟨n, rfl⟩ : ∃ k, n = k + 1 := ⟨n - 1, by omega⟩
    rw [e_wish_formed]
    unfold b_wish_formed_ Wish.d
    walk_at "M"
    refine is_letter_ok ?_
    rw [let_eq, decide_eq_true (hl k (by simp [Wish.letters]))]
    walk_at "M"
    refine ihv n (by omega) (by omega) (fun c hc => hl c (by simp [Wish.letters, hc])) hn ?_
    walk_at "M"
    exact ⟨[true], rfl, hP⟩
  | both v w ihv ihw | either v w ihv ihw =>
    intro n P X S h h70 hl hn hP
    simp only [Wish.deep] at h
    obtain ⟨n, rfl⟩ : ∃ k, n = k + 1 := ⟨n - 1, by omega⟩
    rw [e_wish_formed]
    unfold b_wish_formed_ Wish.d
    walk_at "M"
    refine ihv n (by omega) (by omega) (fun c hc => hl c (by simp [Wish.letters, hc])) hn.1 ?_
    walk_at "M"
    refine ihw n (by omega) (by omega) (fun c hc => hl c (by simp [Wish.letters, hc])) hn.2 ?_
    walk_at "M"
    exact ⟨[true, true], rfl, hP⟩
  | nt v ihv =>
    intro n P X S h h70 hl hn hP
    simp only [Wish.deep] at h
    obtain ⟨n, rfl⟩ : ∃ k, n = k + 1 := ⟨n - 1, by omega⟩
    rw [e_wish_formed]
    unfold b_wish_formed_ Wish.d
    walk_at "M"
    refine ihv n (by omega) (by omega) (fun c hc => hl c (by simp [Wish.letters, hc])) hn ?_
    walk_at "M"
    exact ⟨[true], rfl, hP⟩
theorem need_wish_ok {w : Wish} (h : w.deep ≤ 70) (hl : ∀ c ∈ w.letters, c ∈ LET) (hn : w.nums) (hz : sizeFlaw w.d = .non) (hP : P .non S) : m_need_wish [w.d] S P X := by
  unfold m_need_wish
  walk_at "M"
  unfold m_wish_flaw
  walk_at "M"
  refine wish_formed_ok w 70 h (Nat.le_refl _) hl hn ?_
  walk_at "M"
  refine size_flaw_ok (wish_WT w 70 h hl) ?_
  rw [hz]
  walk_at "M"
  exact hP
end
/-! the letters, rising -/
def upLet (cs : List Nat) : List Nat := LET.filter fun c => decide (c ∈ cs)
theorem let_strict : LET.Pairwise (· < ·) := by decide +kernel
theorem strs_sg : ∀ l : List Str, (∀ z ∈ l, ∃ c ∈ LET, z = sg c) → ∃ cs : List Nat, l = cs.map sg := by
  intro l
  induction l with
  | nil => exact fun _ => ⟨[], rfl⟩
  | cons z l ih =>
    intro h
    obtain ⟨c, hc, rfl⟩ := h z (List.mem_cons_self ..)
    obtain ⟨cs, rfl⟩ := ih fun y hy => h y (List.mem_cons_of_mem _ hy)
    exact ⟨c :: cs, rfl⟩
theorem sortset_eq {cs : List Nat} (hc : ∀ c ∈ cs, c ∈ LET) {ys : List Str} (hp : ys.Perm (foldK (cs.map sg))) (hs : sortedS ys = true) : ys = (upLet cs).map sg := by
  obtain ⟨ws, hw⟩ := strs_sg (foldK (cs.map sg)) fun z hz => by
    obtain ⟨c, h1, rfl⟩ := List.mem_map.mp (mem_foldK.mp hz)
    exact ⟨c, hc c h1, rfl⟩
  have hnd := nodup_foldK (xs := cs.map sg)
  have hm : ∀ c, c ∈ ws ↔ c ∈ cs := fun c => by
    have h1 : sg c ∈ foldK (cs.map sg) ↔ sg c ∈ cs.map sg := mem_foldK
    rw [hw] at h1
    simpa [sg_inj] using h1
  rw [hw] at hp hnd
  obtain ⟨zs, rfl, hz⟩ := perm_map_inv hp
  have hwn : ws.Nodup := (List.Pairwise.of_map sg (fun a b h e => h (congrArg sg e)) hnd : ws.Nodup)
  have hzn : zs.Nodup := hz.nodup_iff.mpr hwn
  have hz1 := sorted_sg zs hs
  have hu : (upLet cs).Pairwise (· ≤ ·) := (let_strict.sublist List.filter_sublist).imp fun h => Nat.le_of_lt h
  have hun : (upLet cs).Nodup := nodup_let.sublist List.filter_sublist
  have hperm : zs.Perm (upLet cs) := (List.perm_ext_iff_of_nodup hzn hun).mpr fun c => by
    rw [hz.mem_iff, hm]
    unfold upLet
    rw [List.mem_filter, decide_eq_true_eq]
    exact ⟨fun h => ⟨hc c h, h⟩, fun h => h.2⟩
  rw [sorted_nat_uniq hperm hz1 hu]
theorem foldK_len {cs : List Nat} (hc : ∀ c ∈ cs, c ∈ LET) : (foldK (cs.map sg)).length ≤ 26 := by
  obtain ⟨ws, hw⟩ := strs_sg (foldK (cs.map sg)) fun z hz => by
    obtain ⟨c, h1, rfl⟩ := List.mem_map.mp (mem_foldK.mp hz)
    exact ⟨c, hc c h1, rfl⟩
  have hnd := nodup_foldK (xs := cs.map sg)
  have hm : ∀ c ∈ ws, c ∈ LET := fun c h => by
    have h1 : sg c ∈ foldK (cs.map sg) := by rw [hw]; exact List.mem_map_of_mem h
    obtain ⟨e, h2, h3⟩ := List.mem_map.mp (mem_foldK.mp h1)
    rw [sg_inj] at h3
    rw [← h3]; exact hc e h2
  rw [hw] at hnd ⊢
  rw [List.length_map]
  have := nodup_len (List.Pairwise.of_map sg (fun a b h e => h (congrArg sg e)) hnd : ws.Nodup) hm
  simpa [LET] using this
end Nc

namespace Nc
open PySem PySem.Spec PyProof.Rows L2
/-! ## wishes drawn; the law -/
section
variable {P : D → Sto → Prop} {X : Ex → Sto → Prop} {S : Sto}
theorem law_pattern_ok {cs : List Nat} (h1 : 1 ≤ cs.length) (h2 : cs.length ≤ 26) : ∀ (n room : Nat) {P : D → Sto → Prop} {X : Ex → Sto → Prop} {S : Sto}, 1 ≤ room → room ≤ n → room ≤ 60 → (∀ p : Pat, (∀ c ∈ p.letters, c ∈ cs) → p.deep ≤ room ∧ p.parts ≤ room → P p.d S) → m__law_pattern n [.bag, .str (ofL cs), .int room] S P X := by
  intro n
  induction n with
  | zero => intro room P X S a b; omega
  | succ n ih =>
    intro room P X S hr hrn hr60 hP
    rw [e__law_pattern]
    unfold b__law_pattern_
    walk_at "M"
    refine pick_ok (by omega) (by omega) fun way d0 d1 => ?_
    walk_at "M"
    repeat' split
    all_goals first
      | (refine pick_ok (by omega) (by omega) fun d _ _ => ?_
         walk_at "M"
         split
         · exact hP .none (by simp [Pat.letters]) (by simp [Pat.deep, Pat.parts]; omega)
         · refine law_of_str h1 (by omega) fun c hc => ?_
           walk_at "M"
           exact hP (.kind c) (by simpa [Pat.letters] using hc) (by simp [Pat.deep, Pat.parts]; omega))
      | (rw [show (room : Int) - 1 = ((room - 1 : Nat) : Int) by omega]
         refine ih (room - 1) (by omega) (by omega) (by omega) fun p hp hd => ?_
         walk_at "M"
         exact hP (.again p) hp (by simp [Pat.deep, Pat.parts]; omega))
      | skip
    refine pick_ok (by omega) (by omega) fun d d2 d3 => ?_
    walk_at "M"
    obtain ⟨k, rfl⟩ := Int.eq_ofNat_of_zero_le d2
    rw [show (1 : Int) + (k : Int) = ((1 + k : Nat) : Int) by omega]
    refine ih (1 + k) (by omega) (by omega) (by omega) fun p hp hd => ?_
    walk_at "M"
    have h2 : way % 2 = 0 ∨ way % 2 = 1 := by omega
    have last : ∀ (w : String), (∀ p q : Pat, (∀ c ∈ p.letters, c ∈ cs) → (∀ c ∈ q.letters, c ∈ cs) → 1 + max p.deep q.deep ≤ room ∧ 1 + (p.parts + q.parts) ≤ room → P (.tup [.str w, p.d, q.d]) S) → gate (m__law_pattern n) [.bag, .str (ofL cs), .int ((room : Int) - 1 - (1 + (k : Int)))] S (fun d S1 => 3 ≤ sizeLine ∧ P (.tup [.str w, p.d, d]) S1) X .mk := fun w hw => by
      rw [show (room : Int) - 1 - (1 + (k : Int)) = ((room - 1 - (1 + k) : Nat) : Int) by omega]
      refine ih _ (by omega) (by omega) (by omega) fun q hq hdq => ⟨by decide, ?_⟩
      exact hw p q hp hq (by omega)
    rcases h2 with h2 | h2
    · rw [h2, atI_0]
      exact last "then" fun p q hp hq hd => hP (.thn p q) (fun c hc => (List.mem_append.mp hc).elim (hp c) (hq c)) hd
    · rw [h2, atI_1]
      exact last "or" fun p q hp hq hd => hP (.orr p q) (fun c hc => (List.mem_append.mp hc).elim (hp c) (hq c)) hd
theorem Pat.ppos (p : Pat) : 1 ≤ p.parts := by cases p <;> simp [Pat.parts] <;> omega
theorem law_cut_ok : ∀ (n : Nat) (p : Pat) (k : Int) {P : D → Sto → Prop} {X : Ex → Sto → Prop} {S : Sto}, p.deep ≤ n → (∀ q : Pat, (∀ c ∈ q.letters, c ∈ p.letters) → q.deep ≤ p.deep ∧ q.parts ≤ p.parts ∧ (1 ≤ k → (q.deep : Int) ≤ k) → P q.d S) → m__law_cut_deep n [p.d, .int k] S P X := by
  intro n
  induction n with
  | zero => intro p k P X S h; have := p.pos; omega
  | succ n ih =>
    intro p k P X S h hP
    rw [e__law_cut_deep]
    unfold b__law_cut_deep_
    have hnone := hP .none (by simp [Pat.letters]) (by have := p.pos; have := p.ppos; simp only [Pat.deep, Pat.parts]; omega)
    cases p with
    | none =>
      unfold Pat.d
      walk_at "M"
      repeat' split
      all_goals exact hnone
    | kind c =>
      unfold Pat.d
      walk_at "M"
      have := hP (.kind c) (fun _ h => h) (by simp only [Pat.deep, Pat.parts]; omega)
      repeat' split
      all_goals first | exact this | exact hnone
    | thn p q =>
      simp only [Pat.deep, Pat.parts] at h hP
      unfold Pat.d
      walk_at "M"
      repeat' split
      all_goals first | exact hnone | skip
      all_goals
        refine ih p _ (by omega) fun p2 h1 h2 => ?_
        walk_at "M"
        refine ih q _ (by omega) fun q2 h3 h4 => ?_
        walk_at "M"
        exact hP (.thn p2 q2) (fun c hc => List.mem_append.mpr ((List.mem_append.mp hc).imp (h1 c) (h3 c))) (by simp only [Pat.deep, Pat.parts]; omega)
    | orr p q =>
      simp only [Pat.deep, Pat.parts] at h hP
      unfold Pat.d
      walk_at "M"
      repeat' split
      all_goals first | exact hnone | skip
      all_goals
        refine ih p _ (by omega) fun p2 h1 h2 => ?_
        walk_at "M"
        refine ih q _ (by omega) fun q2 h3 h4 => ?_
        walk_at "M"
        exact hP (.orr p2 q2) (fun c hc => List.mem_append.mpr ((List.mem_append.mp hc).imp (h1 c) (h3 c))) (by simp only [Pat.deep, Pat.parts]; omega)
    | again p =>
      simp only [Pat.deep, Pat.parts] at h hP
      unfold Pat.d
      walk_at "M"
      repeat' split
      all_goals first | exact hnone | skip
      all_goals
        refine ih p _ (by omega) fun p2 h1 h2 => ?_
        walk_at "M"
        exact hP (.again p2) h1 (by simp only [Pat.deep, Pat.parts]; omega)
theorem law_plain_wish_ok {cs : List Nat} (h1 : 1 ≤ cs.length) (h2 : cs.length ≤ 26) {room : Nat} (hr : 1 ≤ room) (hr5 : room ≤ 5) (hP : ∀ w : Wish, (∀ c ∈ w.letters, c ∈ cs) → w.nums → w.deep ≤ room + 2 → P w.d S) : m__law_plain_wish [.bag, .str (ofL cs), .int room] S P X := by
  unfold m__law_plain_wish
  walk_at "M"
  refine pick_ok (by omega) (by omega) fun way d0 d1 => ?_
  walk_at "M"
  split
  · refine law_pattern_ok h1 h2 70 room hr (by omega) (by omega) fun p hp hd => ?_
    walk_at "M"
    refine law_cut_ok 70 p 4 (by omega) fun q hq hdq => ?_
    walk_at "M"
    refine pick_ok (by omega) (by omega) fun d2 _ _ => ?_
    walk_at "M"
    split
    · refine pick_ok (by omega) (by omega) fun d3 e0 e1 => ?_
      walk_at "M"
      obtain ⟨k, rfl⟩ := Int.eq_ofNat_of_zero_le e0
      rw [show (1 : Int) + (k : Int) = ((1 + k : Nat) : Int) by omega]
      exact hP (.each (1 + k) (.again q)) (fun c hc => hp c (hq c hc)) (by simp only [Wish.nums]; omega) (by simp only [Wish.deep, Pat.deep]; omega)
    · refine pick_ok (by omega) (by omega) fun d3 e0 e1 => ?_
      walk_at "M"
      obtain ⟨k, rfl⟩ := Int.eq_ofNat_of_zero_le e0
      rw [show (1 : Int) + (k : Int) = ((1 + k : Nat) : Int) by omega]
      exact hP (.each (1 + k) q) (fun c hc => hp c (hq c hc)) (by simp only [Wish.nums]; omega) (by simp only [Wish.deep]; omega)
  · split
    · have h34 : way - 3 = 0 ∨ way - 3 = 1 := by omega
      rcases h34 with e | e
      · rw [e, atI_0]
        walk_at "M"
        refine law_pattern_ok h1 h2 70 room hr (by omega) (by omega) fun p hp hd => ?_
        walk_at "M"
        exact hP (.all p) hp trivial (by simp only [Wish.deep]; omega)
      · rw [e, atI_1]
        walk_at "M"
        refine law_pattern_ok h1 h2 70 room hr (by omega) (by omega) fun p hp hd => ?_
        walk_at "M"
        exact hP (.one p) hp trivial (by simp only [Wish.deep]; omega)
    · split
      · refine law_of_str h1 (by omega) fun c hc => ?_
        walk_at "M"
        refine law_of_str h1 (by omega) fun e he => ?_
        walk_at "M"
        exact hP (.last c e) (by simp [Wish.letters, hc, he]) trivial (by simp only [Wish.deep]; omega)
      · split
        · refine law_of_str h1 (by omega) fun c hc => ?_
          walk_at "M"
          exact hP (.turns c) (by simp [Wish.letters, hc]) trivial (by simp only [Wish.deep]; omega)
        · refine pick_ok (by omega) (by omega) fun d3 e0 e1 => ?_
          walk_at "M"
          obtain ⟨k, rfl⟩ := Int.eq_ofNat_of_zero_le e0
          rw [show (2 : Int) + (k : Int) = ((2 + k : Nat) : Int) by omega]
          exact hP (.apart (2 + k)) (by simp [Wish.letters]) (by simp only [Wish.nums]; omega) (by simp only [Wish.deep]; omega)
end
end Nc

namespace Nc
open PySem PySem.Spec PyProof.Rows L2
/-! ## wishes drawn; the law -/
section
variable {P : D → Sto → Prop} {X : Ex → Sto → Prop} {S : Sto}
theorem law_wish_ok {cs : List Nat} (h1 : 1 ≤ cs.length) (h2 : cs.length ≤ 26) : ∀ (n room : Nat) {P : D → Sto → Prop} {X : Ex → Sto → Prop} {S : Sto}, room < n → room ≤ 30 → (∀ w : Wish, (∀ c ∈ w.letters, c ∈ cs) → w.nums → w.deep ≤ room + 3 → P w.d S) → m__law_wish n [.bag, .str (ofL cs), .int room] S P X := by
  intro n
  induction n with
  | zero => intro room P X S h; omega
  | succ n ih =>
    intro room P X S hr h30 hP
    rw [e__law_wish]
    unfold b__law_wish_
    walk_at "M"
    refine pick_ok (by omega) (by omega) fun way d0 d1 => ?_
    walk_at "M"
    have pl : m__law_plain_wish [.bag, .str (ofL cs), .int (if 1 < (if (5 : Int) < (room : Int) then (5 : Int) else (room : Int)) then (if (5 : Int) < (room : Int) then (5 : Int) else (room : Int)) else 1)] S P X := by
      have e : (if 1 < (if (5 : Int) < (room : Int) then (5 : Int) else (room : Int)) then (if (5 : Int) < (room : Int) then (5 : Int) else (room : Int)) else 1) = ((max 1 (min room 5) : Nat) : Int) := by
        split <;> split <;> omega
      rw [e]
      exact law_plain_wish_ok h1 h2 (by omega) (by omega) fun w a b c => hP w a b (by omega)
    have tl : (if 1 < (room : Int) then if way = 4 then gate m__law_of [.bag, .str (ofL cs)] S (fun d S1 => gate (m__law_wish n) [.bag, .str (ofL cs), .int ((room : Int) - 1)] S1 (fun d_1 S1 => 3 ≤ sizeLine ∧ P (.tup [.str "cut", d, d_1]) S1) X .mk) X .mk else m__law_plain_wish [.bag, .str (ofL cs), .int (if 1 < (if (5 : Int) < (room : Int) then (5 : Int) else (room : Int)) then (if (5 : Int) < (room : Int) then (5 : Int) else (room : Int)) else 1)] S P X
        else m__law_plain_wish [.bag, .str (ofL cs), .int (if 1 < (if (5 : Int) < (room : Int) then (5 : Int) else (room : Int)) then (if (5 : Int) < (room : Int) then (5 : Int) else (room : Int)) else 1)] S P X) := by
      split
      · split
        · refine law_of_str h1 (by omega) fun c hc => ?_
          show m__law_wish n _ _ _ _
          rw [show (room : Int) - 1 = ((room - 1 : Nat) : Int) by omega]
          refine ih _ (by omega) (by omega) fun v hv1 hv2 hv3 => ⟨by decide, ?_⟩
          exact hP (.cut c v) (fun x hx => (List.mem_cons.mp hx).elim (fun e => e ▸ hc) (hv1 x)) hv2 (by simp only [Wish.deep]; omega)
        · exact pl
      · exact pl
    have rng2 : rngD 0 (Int.toNat 2) = [.int 0, .int 1] := rfl
    split
    · rename_i h2r
      split
      · rename_i hw4
        refine ⟨by decide, by decide, by decide, ?_⟩
        rw [rng2]
        walk_at "M"
        have cd : CDivW (room : Int) 2 ∧ CDivW way 2 := by
          constructor <;> (unfold CDivW; decide)
        have er : (room : Int) / 2 - way / 2 % 2 = ((room / 2 - way.toNat / 2 % 2 : Nat) : Int) := by omega
        have ihx : ∀ {P : D → Sto → Prop} {X : Ex → Sto → Prop} {S : Sto}, (∀ w : Wish, (∀ c ∈ w.letters, c ∈ cs) → w.nums → w.deep ≤ room / 2 + 3 → P w.d S) → m__law_wish n [.bag, .str (ofL cs), .int ((room : Int) / 2 - way / 2 % 2)] S P X := fun h => by
          rw [er]
          exact ih _ (by omega) (by omega) fun w a b c => h w a b (by omega)
        refine ⟨cd.1, cd.2, ?_⟩
        refine ihx fun v hv1 hv2 hv3 => ?_
        walk_at "M"
        refine ⟨cd.1, cd.2, ?_⟩
        refine ihx fun w hw1 hw2 hw3 => ?_
        walk_at "M"
        have hvw : ∀ c ∈ v.letters ++ w.letters, c ∈ cs := fun c hc => (List.mem_append.mp hc).elim (hv1 c) (hw1 c)
        split
        · have : way = 0 ∨ way = 1 := by omega
          rcases this with e | e
          · rw [e, atI_0]
            walk_at "M"
            exact hP (.both v w) hvw ⟨hv2, hw2⟩ (by simp only [Wish.deep]; omega)
          · rw [e, atI_1]
            walk_at "M"
            exact hP (.either v w) hvw ⟨hv2, hw2⟩ (by simp only [Wish.deep]; omega)
        · split
          · refine law_of_str h1 (by omega) fun c hc => ?_
            walk_at "M"
            exact hP (.upon c v w) (fun x hx => (List.mem_cons.mp hx).elim (fun e => e ▸ hc) (hvw x)) ⟨hv2, hw2⟩ (by simp only [Wish.deep]; omega)
          · exact hP (.nt v) hv1 hv2 (by simp only [Wish.deep]; omega)
      · exact tl
    · exact tl
end
end Nc

namespace Nc
open PySem PySem.Spec PyProof.Rows L2
/-! ## patterns and wishes written -/
theorem ofL_app (a b : List Nat) : ofL a ++ ofL b = ofL (a ++ b) := str_ext (by
  show (ofL a ++ ofL b).cps.toList = _
  rw [show (ofL a ++ ofL b).cps = (ofL a).cps ++ (ofL b).cps from rfl, Array.toList_append, ofL_toL, ofL_toL, ofL_toL])
theorem ofL_one (c : Nat) : sg c = ofL [c] := rfl
def Pat.say : Pat → List Nat
  | .none => [45]
  | .kind c => [c]
  | .thn p q => 91 :: (p.say ++ 32 :: (q.say ++ [93]))
  | .orr p q => 123 :: (p.say ++ 32 :: (q.say ++ [125]))
  | .again p => 60 :: (p.say ++ [62])
theorem Pat.say_len : ∀ p : Pat, p.say.length ≤ 4 * p.parts
  | .none | .kind _ => by simp [Pat.say, Pat.parts]
  | .thn p q | .orr p q => by
    have := p.say_len
    have := q.say_len
    simp only [Pat.say, Pat.parts, List.length_cons, List.length_append, List.length_nil]
    omega
  | .again p => by
    have := p.say_len
    simp only [Pat.say, Pat.parts, List.length_cons, List.length_append, List.length_nil]
    omega
def wd (s : String) : List Nat := s.toList.map Char.toNat
theorem lit_wd (s : String) : (s : Str) = ofL (wd s) := str_ext (by rw [Str.ofString_eq_toList, ofL_toL]; rfl)
/-- with blanks between -/
def glue : List (List Nat) → List Nat
  | [] => []
  | [x] => x
  | x :: y :: r => x ++ 32 :: glue (y :: r)
theorem lit_sp : (" " : Str) = ofL [32] := by decide +kernel
theorem join_glue : ∀ ls : List (List Nat), Str.join (" " : Str) (ls.map ofL) = ofL (glue ls)
  | [] => rfl
  | [_] => rfl
  | x :: y :: r => by
    have ih := join_glue (y :: r)
    show (ofL x ++ (" " : Str)) ++ Str.join (" " : Str) ((y :: r).map ofL) = _
    rw [ih, lit_sp, ofL_app, ofL_app]
    simp [glue]
def dgt (m : Nat) : Nat := 48 + m
theorem toStr_dgt : ∀ m : Nat, m ≤ 9 → ((toString (m : Int) : String) : Str) = ofL [dgt m] ∧ (PySem.intText? (ofL [dgt m]) = some (m : Int)) := by decide +kernel
theorem join1 (z : Str) (a : List Nat) : Str.join z [ofL a] = ofL a := rfl
theorem join2 (a b : List Nat) : Str.join (" " : Str) [ofL a, ofL b] = ofL (a ++ 32 :: b) := by
  show (ofL a ++ (" " : Str)) ++ ofL b = _
  rw [show (" " : Str) = ofL [32] by decide +kernel, ofL_app, ofL_app]
  simp
section
variable {P : D → Sto → Prop} {X : Ex → Sto → Prop} {S : Sto}
theorem pattern_so_ok : ∀ (n : Nat) (p : Pat) {P : D → Sto → Prop} {X : Ex → Sto → Prop} {S : Sto}, p.deep ≤ n → p.parts ≤ 1000 → P (.str (ofL p.say)) S → m_pattern_so n [p.d] S P X := by
  intro n
  induction n with
  | zero => intro p P X S h; have := p.pos; omega
  | succ n ih =>
    intro p P X S h hb hP
    rw [e_pattern_so]
    unfold b_pattern_so_
    cases p with
    | none =>
      unfold Pat.d
      walk_at "M"
      exact hP
    | kind c =>
      unfold Pat.d
      walk_at "M"
      exact hP
    | thn p q =>
      simp only [Pat.deep, Pat.parts] at h hb
      have l1 := p.say_len
      have l2 := q.say_len
      unfold Pat.d
      walk_at "M"
      refine ih p (by omega) (by omega) ?_
      walk_at "M"
      refine ih q (by omega) (by omega) ?_
      walk_at "M"
      refine ⟨[ofL p.say, ofL q.say], rfl, ?_⟩
      rw [join2, lit_sp, show ("[" : Str) = ofL [91] by decide +kernel, show ("]" : Str) = ofL [93] by decide +kernel]
      walk_at "M"
      simp only [ofL_app, ofL_len, List.length_append, List.length_cons, List.length_nil, List.sum_cons, List.sum_nil]
      refine ⟨by omega, by omega, by omega, ?_⟩
      simpa [Pat.say] using hP
    | orr p q =>
      simp only [Pat.deep, Pat.parts] at h hb
      have l1 := p.say_len
      have l2 := q.say_len
      unfold Pat.d
      walk_at "M"
      refine ih p (by omega) (by omega) ?_
      walk_at "M"
      refine ih q (by omega) (by omega) ?_
      walk_at "M"
      refine ⟨[ofL p.say, ofL q.say], rfl, ?_⟩
      rw [join2, lit_sp, show ("{" : Str) = ofL [123] by decide +kernel, show ("}" : Str) = ofL [125] by decide +kernel]
      walk_at "M"
      simp only [ofL_app, ofL_len, List.length_append, List.length_cons, List.length_nil, List.sum_cons, List.sum_nil]
      refine ⟨by omega, by omega, by omega, ?_⟩
      simpa [Pat.say] using hP
    | again p =>
      simp only [Pat.deep, Pat.parts] at h hb
      have l1 := p.say_len
      unfold Pat.d
      walk_at "M"
      refine ih p (by omega) (by omega) ?_
      walk_at "M"
      refine ⟨[ofL p.say], rfl, ?_⟩
      rw [join1, lit_sp, show ("<" : Str) = ofL [60] by decide +kernel, show (">" : Str) = ofL [62] by decide +kernel]
      walk_at "M"
      simp only [ofL_app, ofL_len, List.length_append, List.length_cons, List.length_nil, List.sum_cons, List.sum_nil]
      refine ⟨by omega, by omega, by omega, ?_⟩
      simpa [Pat.say] using hP
theorem said_pattern_ok : ∀ (n : Nat) (p : Pat) {P : D → Sto → Prop} {X : Ex → Sto → Prop} {S : Sto}, p.deep ≤ n → p.parts ≤ 1000 → P (.str (ofL p.say)) S → m__law_said_pattern n [p.d] S P X := by
  intro n
  induction n with
  | zero => intro p P X S h; have := p.pos; omega
  | succ n ih =>
    intro p P X S h hb hP
    rw [e__law_said_pattern]
    unfold b__law_said_pattern_
    cases p with
    | none =>
      unfold Pat.d
      walk_at "M"
      exact hP
    | kind c =>
      unfold Pat.d
      walk_at "M"
      exact hP
    | thn p q =>
      simp only [Pat.deep, Pat.parts] at h hb
      have l1 := p.say_len
      have l2 := q.say_len
      unfold Pat.d
      walk_at "M"
      refine ih p (by omega) (by omega) ?_
      walk_at "M"
      refine ih q (by omega) (by omega) ?_
      walk_at "M"
      refine ⟨[ofL p.say, ofL q.say], rfl, ?_⟩
      rw [join2, lit_sp, show ("[" : Str) = ofL [91] by decide +kernel, show ("]" : Str) = ofL [93] by decide +kernel]
      walk_at "M"
      simp only [ofL_app, ofL_len, List.length_append, List.length_cons, List.length_nil, List.sum_cons, List.sum_nil]
      refine ⟨by omega, by omega, by omega, ?_⟩
      simpa [Pat.say] using hP
    | orr p q =>
      simp only [Pat.deep, Pat.parts] at h hb
      have l1 := p.say_len
      have l2 := q.say_len
      unfold Pat.d
      walk_at "M"
      refine ih p (by omega) (by omega) ?_
      walk_at "M"
      refine ih q (by omega) (by omega) ?_
      walk_at "M"
      refine ⟨[ofL p.say, ofL q.say], rfl, ?_⟩
      rw [join2, lit_sp, show ("{" : Str) = ofL [123] by decide +kernel, show ("}" : Str) = ofL [125] by decide +kernel]
      walk_at "M"
      simp only [ofL_app, ofL_len, List.length_append, List.length_cons, List.length_nil, List.sum_cons, List.sum_nil]
      refine ⟨by omega, by omega, by omega, ?_⟩
      simpa [Pat.say] using hP
    | again p =>
      simp only [Pat.deep, Pat.parts] at h hb
      have l1 := p.say_len
      unfold Pat.d
      walk_at "M"
      refine ih p (by omega) (by omega) ?_
      walk_at "M"
      rw [show ("<" : Str) = ofL [60] by decide +kernel, show (">" : Str) = ofL [62] by decide +kernel]
      walk_at "M"
      simp only [ofL_app, ofL_len, List.length_append, List.length_cons, List.length_nil, List.sum_cons, List.sum_nil]
      refine ⟨by omega, by omega, ?_⟩
      simpa [Pat.say] using hP
end
end Nc

namespace Nc
open PySem PySem.Spec PyProof.Rows L2
/-! ## the reader -/
def RD (z : List Nat) (a n : Nat) : Ob := .ins "Reader" [("signs_left", .str (ofL z)), ("at", .int (a : Int)), ("parts", .int (n : Int))]
theorem cutS_nn (z : List Nat) (a b : Nat) : cutS (ofL z) (some (a : Int)) (some (b : Int)) = ofL ((z.drop a).take (b - a)) := by
  refine str_ext ?_
  rw [ofL_toL, ← cutL_nn]
  unfold cutS cutL
  rw [ofL_len]
  simp only [ofL, Array.toList_extract, List.extract_eq_drop_take]
section
variable {P : D → Sto → Prop} {X : Ex → Sto → Prop} {S S0 : Sto} {z : List Nat} {a n : Nat}
theorem rd_init (hP : P .non (S0 ++ [RD z 0 0])) : m_Reader___init__ [.ob S0.length, .str (ofL z)] (S0 ++ [Ob.ins "Reader" []]) P X := by
  unfold m_Reader___init__
  walk_at "M"
  exact hP
theorem rd_sign (hP : P (.str (ofL ((z.drop a).take 1))) (S0 ++ [RD z a n])) : m_Reader_sign [.ob S0.length] (S0 ++ [RD z a n]) P X := by
  unfold m_Reader_sign RD
  walk_at "M"
  rw [show (a : Int) + 1 = ((a + 1 : Nat) : Int) by omega, cutS_nn, show a + 1 - a = 1 by omega]
  exact hP
theorem ok_sg {c : Nat} (h : c < 0x110000) : D.ok (.str (sg c)) = true := by rw [ok_str]; exact sg_fine h
theorem sg_ne {c : Nat} : (sg c = ("" : Str)) = False := by
  refine eq_false fun h => ?_
  have := congrArg (fun z : Str => z.length) h
  have e : (("" : Str)).length = 0 := by decide
  simp only [sg_len, e] at this
  omega
theorem rd_one {c : Nat} {r ss : List Nat} (hz : z.drop a = c :: r) (hf : c < 0x110000) (hc : c ∈ ss) (hP : P (.str (sg c)) (S0 ++ [RD z (a + 1) n])) : m_Reader_one_of [.ob S0.length, .str (ofL ss)] (S0 ++ [RD z a n]) P X := by
  unfold m_Reader_one_of
  walk_at "M"
  refine ⟨by unfold RD; walk_at "M", rd_sign ?_⟩
  rw [hz, show List.take 1 (c :: r) = [c] from rfl, ← ofL_one]
  unfold RD
  walk_at "M"
  refine ⟨sg_fine hf, ?_⟩
  rw [if_neg (by rw [sg_ne]; exact id), decide_eq_true hc]
  walk_at "M"
  exact hP
theorem rd_begin {deep : Nat} (hn : n < 16) (hd : deep ≤ 6) (hP : P .non (S0 ++ [RD z a (n + 1)])) : m_Reader_begin [.ob S0.length, .int (deep : Int)] (S0 ++ [RD z a n]) P X := by
  unfold m_Reader_begin RD
  walk_at "M"
  rw [if_neg (by omega), if_neg (by omega)]
  exact hP
theorem rd_end (hz : z.drop a = []) (hP : P .non (S0 ++ [RD z a n])) : m_Reader_end [.ob S0.length] (S0 ++ [RD z a n]) P X := by
  unfold m_Reader_end
  walk_at "M"
  refine ⟨by unfold RD; walk_at "M", rd_sign ?_⟩
  rw [hz, show ofL (List.take 1 ([] : List Nat)) = ("" : Str) from rfl]
  walk_at "M"
  exact hP
theorem drop_more {z l r : List Nat} {a : Nat} (h : z.drop a = l ++ r) : z.drop (a + l.length) = r := by
  rw [← List.drop_drop, h, List.drop_left]
theorem drop_one {z r : List Nat} {a c : Nat} (h : z.drop a = c :: r) : z.drop (a + 1) = r := drop_more (l := [c]) h
theorem let_of : ("abcdefghijklmnopqrstuvwxyz" : Str) = ofL LET := str_ext (by rw [let_eq, ofL_toL])
theorem rd_pattern : ∀ (fu : Nat) (p : Pat) (a n deep : Nat) (r : List Nat) {P : D → Sto → Prop} {X : Ex → Sto → Prop}, p.deep ≤ fu → (∀ c ∈ p.letters, c ∈ LET) → z.drop a = p.say ++ r → n + p.parts ≤ 16 → deep + p.deep ≤ 7 →
    P p.d (S0 ++ [RD z (a + p.say.length) (n + p.parts)]) → m_Reader_pattern fu [.ob S0.length, .int (deep : Int)] (S0 ++ [RD z a n]) P X := by
  intro fu
  induction fu with
  | zero => intro p a n deep r P X h; have := p.pos; omega
  | succ fu ih =>
    intro p a n deep r P X h hl hz hn hd hP
    rw [e_Reader_pattern]
    unfold b_Reader_pattern_
    have hpos := p.pos
    have hpp := p.ppos
    obtain ⟨c, r1, hs, hc⟩ : ∃ c r1, p.say = c :: r1 ∧ (c ∈ [45, 91, 123, 60] ++ LET) := by
      cases p with
      | none => exact ⟨_, _, rfl, by decide⟩
      | kind c => exact ⟨_, _, rfl, List.mem_append_right _ (hl c (by simp [Pat.letters]))⟩
      | thn p q => exact ⟨_, _, rfl, by decide⟩
      | orr p q => exact ⟨_, _, rfl, by decide⟩
      | again p => exact ⟨_, _, rfl, by decide⟩
    have hcf : c < 0x110000 := by
      rcases List.mem_append.mp hc with q | q
      · simp at q; omega
      · exact let_lt q
    unfold RD
    walk_at "M"
    refine ⟨by decide, ?_⟩
    rw [show ("-[{<" : Str) = ofL [45, 91, 123, 60] by decide +kernel, let_of, ofL_app]
    refine rd_one (n := n) (r := r1 ++ r) (by rw [hz, hs]; rfl) hcf hc ?_
    unfold RD
    walk_at "M"
    refine rd_begin (a := a) (n := n) (by omega) (by omega) ?_
    cases p with
    | none =>
      obtain rfl : c = 45 := by simp [Pat.say] at hs; omega
      rw [show sg 45 = ("-" : Str) from sg_lit _ _ rfl]
      unfold RD
      walk_at "R"
      exact hP
    | kind c' =>
      obtain rfl : c' = c := by simp [Pat.say] at hs; omega
      have hm := hl c' (by simp [Pat.letters])
      have h45 : (sg c' = ("-" : Str)) = False := by
        rw [show ("-" : Str) = sg 45 from (sg_lit _ _ rfl).symm, sg_inj]
        refine eq_false fun e => ?_
        rw [e, nl_dash] at hm
        exact hm
      unfold RD
      walk_at "R"
      refine ⟨sg_fine hcf, ?_⟩
      rw [if_neg (by rw [h45]; exact id), if_pos hm]
      exact hP
    | thn p q =>
      simp only [Pat.deep, Pat.parts] at h hn hd
      obtain rfl : c = 91 := by simp [Pat.say] at hs; omega
      rw [show sg 91 = ("[" : Str) from sg_lit _ _ rfl]
      have z1 : z.drop (a + 1) = p.say ++ (32 :: (q.say ++ 93 :: r)) := drop_one (c := 91) (by rw [hz]; simp [Pat.say])
      have z2 := drop_more z1
      have z3 := drop_one z2
      have z4 := drop_more z3
      unfold RD
      walk_at "R"
      refine ih p (a + 1) (n + 1) (deep + 1) _ (by omega) (fun c hc => hl c (by simp [Pat.letters, hc])) z1 (by omega) (by omega) ?_
      unfold RD
      walk_at "R"
      rw [show (" " : Str) = ofL [32] from lit_sp]
      refine rd_one (a := a + 1 + p.say.length) (n := n + 1 + p.parts) z2 (by decide) (by decide) ?_
      unfold RD
      walk_at "R"
      refine ih q (a + 1 + p.say.length + 1) (n + 1 + p.parts) (deep + 1) _ (by omega) (fun c hc => hl c (by simp [Pat.letters, hc])) z3 (by omega) (by omega) ?_
      unfold RD
      walk_at "R"
      rw [show ("]" : Str) = ofL [93] by decide +kernel]
      refine ⟨by decide, rd_one (a := a + 1 + p.say.length + 1 + q.say.length) (n := n + 1 + p.parts + q.parts) z4 (by decide) (List.mem_singleton.mpr rfl) ?_⟩
      unfold RD
      walk_at "R"
      have e1 : a + 1 + p.say.length + 1 + q.say.length + 1 = a + (Pat.thn p q).say.length := by simp [Pat.say]; omega
      have e2 : n + 1 + p.parts + q.parts = n + (Pat.thn p q).parts := by simp [Pat.parts]; omega
      rw [← e1, ← e2] at hP
      exact hP
    | orr p q =>
      simp only [Pat.deep, Pat.parts] at h hn hd
      obtain rfl : c = 123 := by simp [Pat.say] at hs; omega
      rw [show sg 123 = ("{" : Str) from sg_lit _ _ rfl]
      have z1 : z.drop (a + 1) = p.say ++ (32 :: (q.say ++ 125 :: r)) := drop_one (c := 123) (by rw [hz]; simp [Pat.say])
      have z2 := drop_more z1
      have z3 := drop_one z2
      have z4 := drop_more z3
      unfold RD
      walk_at "R"
      refine ih p (a + 1) (n + 1) (deep + 1) _ (by omega) (fun c hc => hl c (by simp [Pat.letters, hc])) z1 (by omega) (by omega) ?_
      unfold RD
      walk_at "R"
      rw [show (" " : Str) = ofL [32] from lit_sp]
      refine rd_one (a := a + 1 + p.say.length) (n := n + 1 + p.parts) z2 (by decide) (by decide) ?_
      unfold RD
      walk_at "R"
      refine ih q (a + 1 + p.say.length + 1) (n + 1 + p.parts) (deep + 1) _ (by omega) (fun c hc => hl c (by simp [Pat.letters, hc])) z3 (by omega) (by omega) ?_
      unfold RD
      walk_at "R"
      rw [show ("}" : Str) = ofL [125] by decide +kernel]
      refine ⟨by decide, rd_one (a := a + 1 + p.say.length + 1 + q.say.length) (n := n + 1 + p.parts + q.parts) z4 (by decide) (List.mem_singleton.mpr rfl) ?_⟩
      unfold RD
      walk_at "R"
      have e1 : a + 1 + p.say.length + 1 + q.say.length + 1 = a + (Pat.orr p q).say.length := by simp [Pat.say]; omega
      have e2 : n + 1 + p.parts + q.parts = n + (Pat.orr p q).parts := by simp [Pat.parts]; omega
      rw [← e1, ← e2] at hP
      exact hP
    | again p =>
      simp only [Pat.deep, Pat.parts] at h hn hd
      obtain rfl : c = 60 := by simp [Pat.say] at hs; omega
      rw [show sg 60 = ("<" : Str) from sg_lit _ _ rfl]
      have z1 : z.drop (a + 1) = p.say ++ (62 :: r) := drop_one (c := 60) (by rw [hz]; simp [Pat.say])
      have z2 := drop_more z1
      unfold RD
      walk_at "R"
      refine ih p (a + 1) (n + 1) (deep + 1) _ (by omega) (fun c hc => hl c (by simp [Pat.letters, hc])) z1 (by omega) (by omega) ?_
      unfold RD
      walk_at "R"
      rw [show (">" : Str) = ofL [62] by decide +kernel]
      refine rd_one (a := a + 1 + p.say.length) (n := n + 1 + p.parts) z2 (by decide) (by decide) ?_
      unfold RD
      walk_at "R"
      have e1 : a + 1 + p.say.length + 1 = a + (Pat.again p).say.length := by simp [Pat.say]; omega
      have e2 : n + 1 + p.parts = n + (Pat.again p).parts := by simp [Pat.parts]; omega
      rw [← e1, ← e2] at hP
      exact hP
end
end Nc

namespace Nc
open PySem PySem.Spec PyProof.Rows L2
/-! ## words read -/
def KS : List (List Nat) := ["all", "one", "each", "last", "turns", "apart", "upon", "cut", "both", "either", "not"].map wd
abbrev SHT : List (Str × V) := [(("all" : Str), V.str "p"), (("one" : Str), V.str "p"), (("each" : Str), V.str "mp"), (("last" : Str), V.str "kk"), (("turns" : Str), V.str "k"), (("apart" : Str), V.str "n"), (("upon" : Str), V.str "kww"), (("cut" : Str), V.str "kw"), (("both" : Str), V.str "ww"), (("either" : Str), V.str "ww"), (("not" : Str), V.str "w")]
theorem sht_keys : (SHT.map (·.1)).map D.str = KS.map fun k => D.str (ofL k) := by
  unfold KS
  simp only [List.map_cons, List.map_nil, lit_wd]
def nexts (p : List Nat) : List Nat := KS.filterMap fun k => if Txt.startswith (ofL k) (ofL p) = true then k[p.length]? else none
def okAt (w : List Nat) (i : Nat) : Bool := ((SHT.lookup (ofL (w.take i))).isSome == decide (i = w.length)) && (decide (i = w.length) || ((KS.all fun k => !Txt.startswith (ofL k) (ofL (w.take i)) || decide (i < k.length)) && decide ((w[i]?).any fun c => decide (c ∈ nexts (w.take i)))))
theorem okAt_all : (KS.all fun w => (List.range (w.length + 1)).all fun i => okAt w i) = true := by decide +kernel
theorem ks_small : (KS.all fun w => decide (1 ≤ w.length ∧ w.length ≤ 6) && w.all fun c => decide (c ∈ LET)) = true := by decide +kernel
theorem okAt_of {w : List Nat} (hw : w ∈ KS) {i : Nat} (hi : i ≤ w.length) : okAt w i = true := List.all_eq_true.mp (List.all_eq_true.mp okAt_all w hw) i (List.mem_range.mpr (by omega))
section
variable {P : D → Sto → Prop} {X : Ex → Sto → Prop} {S S0 : Sto} {z : List Nat} {a n : Nat}
theorem nexts_len (p : List Nat) : (nexts p).length ≤ 11 := by
  have := List.length_filterMap_le (fun k => if Txt.startswith (ofL k) (ofL p) = true then k[p.length]? else none) KS
  exact Nat.le_trans this (by decide)
theorem rd_word {w r : List Nat} {deep : Nat} (hw : w ∈ KS) (hz : z.drop a = w ++ r) (hn : n < 16) (hd : deep ≤ 6) (hP : P (.str (ofL w)) (S0 ++ [RD z (a + w.length) (n + 1)])) : m_Reader_read_word [.ob S0.length, .int (deep : Int)] (S0 ++ [RD z a n]) P X := by
  unfold m_Reader_read_word
  rw [show List.map D.str (List.map (fun x => x.1) SHT) = KS.map fun k => D.str (ofL k) from sht_keys]
  obtain ⟨hl, hlet⟩ := Bool.and_eq_true_iff.mp (List.all_eq_true.mp ks_small w hw)
  have hl := of_decide_eq_true hl
  walk_at "M"
  refine wh_inv (fun j ρ S => ∃ i, i ≤ w.length ∧ j = w.length - i ∧ ρ = [.va (.ob S0.length), .va (.int deep), .va (.str (ofL (w.take i))), .un] ∧ S = S0 ++ [RD z (a + i) (if i = 0 then n else n + 1)]) w.length ⟨0, Nat.zero_le _, rfl, rfl, rfl⟩ ?_
  rintro j ρ S ⟨i, hi, rfl, rfl, rfl⟩ N hN
  have ok := okAt_of hw hi
  unfold okAt at ok
  obtain ⟨ok1, ok2⟩ := Bool.and_eq_true_iff.mp ok
  have ok1 : (SHT.lookup (ofL (w.take i))).isSome = decide (i = w.length) := beq_iff_eq.mp ok1
  simp only [mB, mNotInTbl, mVarQ, List.getElem?_cons_succ, List.getElem?_cons_zero, asStr, asB]
  rw [ok1]
  by_cases e : i = w.length
  · subst e
    rw [decide_eq_true rfl, List.take_length]
    walk_at "M"
    rw [if_neg (by omega)]
    exact hP
  · rw [decide_eq_false e, Bool.not_false, if_pos rfl]
    have hlt : i < w.length := by omega
    rw [decide_eq_false e, Bool.false_or] at ok2
    obtain ⟨ok3, ok4⟩ := Bool.and_eq_true_iff.mp ok2
    have hti : (w.take i).length = i := by rw [List.length_take]; omega
    walk_at "M"
    refine ⟨by unfold RD; walk_at "M", by rw [List.length_map]; decide, ?_⟩
    refine lcD_fm (fun k => D.str (ofL k)) (fun k => if Txt.startswith (ofL k) (ofL (w.take i)) = true then (k[i]?).map fun c => D.str (sg c) else none) KS (fun k hk P hP => ?_) ?_
    · have hk3 := List.all_eq_true.mp ok3 k hk
      unfold lcStep
      walk_at "M"
      rw [hti]
      cases hs : Txt.startswith (ofL k) (ofL (w.take i)) with
      | false =>
        rw [hs] at hP
        exact hP
      | true =>
        rw [hs] at hP hk3
        have hki : i < k.length := by simpa using hk3
        rw [List.getElem?_eq_getElem hki] at hP
        rw [atI_k hki]
        walk_at "M"
        exact hP
    · have e1 : KS.filterMap (fun k => if Txt.startswith (ofL k) (ofL (w.take i)) = true then (k[i]?).map fun c => D.str (sg c) else none) = ((nexts (w.take i)).map sg).map D.str := by
        unfold nexts
        rw [hti, List.map_filterMap, List.map_filterMap]
        congr 1
        funext k
        split <;> simp [Option.map_map, Function.comp_def]
      rw [List.nil_append, e1]
      have hnl := nexts_len (w.take i)
      refine ⟨_, rfl, ?_, ?_⟩
      · rw [sum_sg, show ("" : Str).length = 0 from rfl]
        omega
      rw [joinS_sg]
      obtain ⟨c, hc, hcn⟩ : ∃ c, w[i]? = some c ∧ c ∈ nexts (w.take i) := by
        have := of_decide_eq_true ok4
        rw [List.getElem?_eq_getElem hlt] at this ⊢
        exact ⟨_, rfl, by simpa using this⟩
      have hcl : c ∈ LET := by
        have := List.all_eq_true.mp hlet c (List.mem_of_getElem? hc)
        exact of_decide_eq_true this
      have hzi : z.drop (a + i) = c :: (w.drop (i + 1) ++ r) := by
        rw [← List.drop_drop, hz, List.drop_append_of_le_length (by omega), List.drop_eq_getElem_cons hlt]
        rw [List.getElem?_eq_getElem hlt] at hc
        cases hc
        rfl
      refine rd_one hzi (let_lt hcl) hcn ?_
      have etk : ofL (w.take i) ++ sg c = ofL (w.take (i + 1)) := by
        rw [ofL_one, ofL_app, List.take_succ, hc]
        rfl
      have htl : (w.take (i + 1)).length = i + 1 := by rw [List.length_take]; omega
      by_cases e0 : i = 0
      · subst e0
        unfold RD
        walk_at "M"
        rw [List.take_zero] at etk
        rw [etk, ofL_len, htl]
        walk_at "M"
        rw [show (a : Int) + 0 + 1 - 1 = (a : Int) by omega]
        refine rd_begin (a := a) (n := n) hn hd ?_
        unfold RD
        walk_at "M"
        refine hN (w.length - 1) _ _ (by omega) ⟨1, by omega, by omega, rfl, ?_⟩
        unfold RD
        simp
      · rw [if_neg e0]
        unfold RD
        walk_at "M"
        rw [etk]
        refine ⟨by omega, ?_⟩
        rw [ofL_len, htl]
        have e2 : ¬ ((i + 1 : Nat) : Int) = 1 := by omega
        rw [if_neg e2]
        refine hN (w.length - (i + 1)) _ _ (by omega) ⟨i + 1, by omega, rfl, rfl, ?_⟩
        unfold RD
        simp
        omega
end
end Nc

namespace Nc
open PySem PySem.Spec PyProof.Rows L2
/-! ## wishes written -/
def par (l : List Nat) : List Nat := 40 :: (l ++ [41])
def Wish.say : Wish → List Nat
  | .all p => glue [wd "all", p.say]
  | .one p => glue [wd "one", p.say]
  | .each m p => glue [wd "each", [dgt m], p.say]
  | .last k l => glue [wd "last", [k], [l]]
  | .turns k => glue [wd "turns", [k]]
  | .apart m => glue [wd "apart", [dgt m]]
  | .upon k v w => glue [wd "upon", [k], par v.say, par w.say]
  | .cut k v => glue [wd "cut", [k], par v.say]
  | .both v w => glue [wd "both", par v.say, par w.say]
  | .either v w => glue [wd "either", par v.say, par w.say]
  | .nt v => glue [wd "not", par v.say]
def Wish.parts : Wish → Nat
  | .all p | .one p | .each _ p => 1 + p.parts
  | .last _ _ | .turns _ | .apart _ => 1
  | .upon _ v w | .both v w | .either v w => 1 + (v.parts + w.parts)
  | .cut _ v | .nt v => 1 + v.parts
theorem wdl : (wd "all").length = 3 ∧ (wd "one").length = 3 ∧ (wd "each").length = 4 ∧ (wd "last").length = 4 ∧ (wd "turns").length = 5 ∧ (wd "apart").length = 5 ∧ (wd "upon").length = 4 ∧ (wd "cut").length = 3 ∧ (wd "both").length = 4 ∧ (wd "either").length = 6 ∧ (wd "not").length = 3 := by decide +kernel
theorem Wish.say_len : ∀ w : Wish, w.say.length ≤ 20 * w.parts := by
  intro w
  obtain ⟨a1, a2, a3, a4, a5, a6, a7, a8, a9, b1, b2⟩ := wdl
  induction w with
  | all p | one p | each _ p =>
    have := p.say_len
    simp only [Wish.say, Wish.parts, glue, List.length_append, List.length_cons, List.length_nil] at *
    omega
  | last _ _ | turns _ | apart _ =>
    simp only [Wish.say, Wish.parts, glue, List.length_append, List.length_cons, List.length_nil] at *
    omega
  | upon _ v w i1 i2 | both v w i1 i2 | either v w i1 i2 =>
    simp only [Wish.say, Wish.parts, glue, par, List.length_append, List.length_cons, List.length_nil] at *
    omega
  | cut _ v i1 | nt v i1 =>
    simp only [Wish.say, Wish.parts, glue, par, List.length_append, List.length_cons, List.length_nil] at *
    omega
theorem Wish.pos (w : Wish) : 1 ≤ w.deep := by cases w <;> simp [Wish.deep] <;> omega
theorem Wish.ppos (w : Wish) : 1 ≤ w.parts := by cases w <;> simp [Wish.parts] <;> omega
/-! shapes -/
theorem sh_p : signs ("p" : Str) = [.str (sg 112)] := by unfold signs; rw [show ("p" : Str).cps.toList = [112] by decide +kernel]; rfl
theorem sh_mp : signs ("mp" : Str) = [.str (sg 109), .str (sg 112)] := by unfold signs; rw [show ("mp" : Str).cps.toList = [109, 112] by decide +kernel]; rfl
theorem sh_kk : signs ("kk" : Str) = [.str (sg 107), .str (sg 107)] := by unfold signs; rw [show ("kk" : Str).cps.toList = [107, 107] by decide +kernel]; rfl
theorem sh_k : signs ("k" : Str) = [.str (sg 107)] := by unfold signs; rw [show ("k" : Str).cps.toList = [107] by decide +kernel]; rfl
theorem sh_n : signs ("n" : Str) = [.str (sg 110)] := by unfold signs; rw [show ("n" : Str).cps.toList = [110] by decide +kernel]; rfl
theorem sh_kww : signs ("kww" : Str) = [.str (sg 107), .str (sg 119), .str (sg 119)] := by unfold signs; rw [show ("kww" : Str).cps.toList = [107, 119, 119] by decide +kernel]; rfl
theorem sh_kw : signs ("kw" : Str) = [.str (sg 107), .str (sg 119)] := by unfold signs; rw [show ("kw" : Str).cps.toList = [107, 119] by decide +kernel]; rfl
theorem sh_ww : signs ("ww" : Str) = [.str (sg 119), .str (sg 119)] := by unfold signs; rw [show ("ww" : Str).cps.toList = [119, 119] by decide +kernel]; rfl
theorem sh_w : signs ("w" : Str) = [.str (sg 119)] := by unfold signs; rw [show ("w" : Str).cps.toList = [119] by decide +kernel]; rfl
theorem s_p : sg 112 = ("p" : Str) := sg_lit _ _ rfl
theorem s_m : sg 109 = ("m" : Str) := sg_lit _ _ rfl
theorem s_k : sg 107 = ("k" : Str) := sg_lit _ _ rfl
theorem s_n : sg 110 = ("n" : Str) := sg_lit _ _ rfl
theorem s_w : sg 119 = ("w" : Str) := sg_lit _ _ rfl
theorem zipD_nil (l : List D) : zipD [] l = [] := by unfold zipD; rfl
theorem zipD_cons (a b : D) (l r : List D) : zipD (a :: l) (b :: r) = .tup [a, b] :: zipD l r := by rw [zipD]
section
variable {P : D → Sto → Prop} {X : Ex → Sto → Prop} {S : Sto}
theorem glue_sum : ∀ ls : List (List Nat), ((ls.map ofL).map fun x => x.length).sum + ls.length ≤ (glue ls).length + 1
  | [] => by simp [glue]
  | [x] => by simp [glue, ofL_len]
  | x :: y :: r => by
    have ih := glue_sum (y :: r)
    rw [List.map_cons, List.map_cons, List.sum_cons, ofL_len, List.length_cons]
    show _ ≤ (x ++ 32 :: glue (y :: r)).length + 1
    rw [List.length_append, List.length_cons (a := 32)]
    rw [List.length_cons] at ih ⊢
    omega
theorem fin_glue {xs : List D} (ls : List (List Nat)) (hx : xs = ls.map fun l => D.str (ofL l)) (hb : (glue ls).length ≤ 100000) (hP : P (.str (ofL (glue ls))) S) :
    ∃ ys, xs = List.map D.str ys ∧ (List.map (fun x => x.length) ys).sum + ys.length * (" " : Str).length ≤ 16777216 ∧ P (.str (Str.join (" " : Str) ys)) S := by
  refine ⟨ls.map ofL, by rw [hx, List.map_map]; rfl, ?_, by rw [join_glue]; exact hP⟩
  have := glue_sum ls
  rw [List.length_map, show (" " : Str).length = 1 by decide]
  omega
abbrev wsoF : TgM := mgTup (mgCons (mName 4) (mgCons (mName 5) mgNil))
abbrev wsoB (self : List D → M D) : MS := (kIf (mB (mOp (fEq false) (mVarQ 4) (mC (.str "p")))) (kApp 3 (mCall (m_pattern_so 70) [] (mCons (mVar 5) mNil))) (kIf (mB (mOp (fEq false) (mVarQ 4) (mC (.str "w")))) (kApp 3 (mJoined [(mC (.str "(")), (mFmt (mCall self [] (mCons (mVar 5) mNil))), (mC (.str ")"))])) (kApp 3 (mCB fStrA (mCons (mVarQ 5) mNil)))))
section
variable {self : List D → M D} {a b c x y : Sl} {acc r : List D} {nx : Env → Sto → Prop} {rt : D → Sto → Prop} {bk ct : Env → Sto → Prop} {ex : Ex → Sto → Prop} {t : Tg (Pn.mk nx rt bk ct ex)}
theorem wso_p {p : Pat} (h1 : p.deep ≤ 70) (h2 : p.parts ≤ 1000) (hl : acc.length < 1000) (h : ∀ u v, forG wsoF (wsoB self) r [a, b, c, .ow (.lst (acc ++ [.str (ofL p.say)])), u, v] S ⟨nx, rt, bk, ct, ex⟩ t) :
    forG wsoF (wsoB self) (.tup [.str (sg 112), p.d] :: r) [a, b, c, .ow (.lst acc), x, y] S ⟨nx, rt, bk, ct, ex⟩ t := by
  refine for_cons ?_
  generalize hN : (fun (ρ2 : Env) (S2 : Sto) => forG wsoF (wsoB self) r ρ2 S2 ⟨nx, rt, bk, ct, ex⟩ t) = N
  rw [s_p]
  walk_at "F"
  refine pattern_so_ok 70 p h1 h2 ?_
  walk_at "F"
  refine ⟨by rw [sizeLine_eq]; omega, ?_⟩
  rw [← hN]
  exact h _ _
theorem wso_w {v : Wish} (ih : ∀ {P : D → Sto → Prop} {X : Ex → Sto → Prop} {S : Sto}, P (.str (ofL v.say)) S → self [v.d] S P X) (hv : v.parts ≤ 1000) (hl : acc.length < 1000) (h : ∀ u w, forG wsoF (wsoB self) r [a, b, c, .ow (.lst (acc ++ [.str (ofL (par v.say))])), u, w] S ⟨nx, rt, bk, ct, ex⟩ t) :
    forG wsoF (wsoB self) (.tup [.str (sg 119), v.d] :: r) [a, b, c, .ow (.lst acc), x, y] S ⟨nx, rt, bk, ct, ex⟩ t := by
  refine for_cons ?_
  generalize hN : (fun (ρ2 : Env) (S2 : Sto) => forG wsoF (wsoB self) r ρ2 S2 ⟨nx, rt, bk, ct, ex⟩ t) = N
  have hsl := v.say_len
  rw [s_w]
  walk_at "F"
  refine ⟨by decide, ih ?_⟩
  rw [show Str.empty ++ ("(" : Str) = ofL [40] from str_ext (by decide +kernel), show (")" : Str) = ofL [41] by decide +kernel]
  walk_at "F"
  simp only [ofL_app, ofL_len, List.length_append, List.length_cons, List.length_nil, List.cons_append, List.nil_append]
  refine ⟨by omega, by omega, by rw [sizeLine_eq]; omega, ?_⟩
  rw [← hN]
  exact h _ _
theorem wso_i {m : Nat} {q : Nat} (hq : q ≠ 112 ∧ q ≠ 119) (hf : q < 0x110000) (hm : m ≤ 9) (hl : acc.length < 1000) (h : ∀ u w, forG wsoF (wsoB self) r [a, b, c, .ow (.lst (acc ++ [.str (ofL [dgt m])])), u, w] S ⟨nx, rt, bk, ct, ex⟩ t) :
    forG wsoF (wsoB self) (.tup [.str (sg q), .int (m : Int)] :: r) [a, b, c, .ow (.lst acc), x, y] S ⟨nx, rt, bk, ct, ex⟩ t := by
  refine for_cons ?_
  generalize hN : (fun (ρ2 : Env) (S2 : Sto) => forG wsoF (wsoB self) r ρ2 S2 ⟨nx, rt, bk, ct, ex⟩ t) = N
  walk_at "F"
  refine ⟨sg_fine hf, ?_⟩
  rw [if_neg (by rw [← s_p, sg_inj]; exact hq.1), if_neg (by rw [← s_w, sg_inj]; exact hq.2)]
  have hlg : ((m : Int)).natAbs.log2 < 1920 := by
    by_cases h0 : m = 0
    · subst h0; decide
    · exact Nat.lt_of_lt_of_le ((Nat.log2_lt (n := (m : Int).natAbs) (by omega)).mpr (show (m : Int).natAbs < 2 ^ 4 by omega)) (by decide)
  refine ⟨sg_fine hf, hlg, by rw [sizeLine_eq]; omega, ?_⟩
  rw [(toStr_dgt m hm).1, ← hN]
  exact h _ _
theorem wso_k {m : Nat} {q : Nat} (hq : q ≠ 112 ∧ q ≠ 119) (hf : q < 0x110000) (hl : acc.length < 1000) (h : ∀ u w, forG wsoF (wsoB self) r [a, b, c, .ow (.lst (acc ++ [.str (ofL [m])])), u, w] S ⟨nx, rt, bk, ct, ex⟩ t) :
    forG wsoF (wsoB self) (.tup [.str (sg q), .str (sg m)] :: r) [a, b, c, .ow (.lst acc), x, y] S ⟨nx, rt, bk, ct, ex⟩ t := by
  refine for_cons ?_
  generalize hN : (fun (ρ2 : Env) (S2 : Sto) => forG wsoF (wsoB self) r ρ2 S2 ⟨nx, rt, bk, ct, ex⟩ t) = N
  walk_at "F"
  refine ⟨sg_fine hf, ?_⟩
  rw [if_neg (by rw [← s_p, sg_inj]; exact hq.1), if_neg (by rw [← s_w, sg_inj]; exact hq.2)]
  refine ⟨sg_fine hf, by rw [sizeLine_eq]; omega, ?_⟩
  rw [← hN]
  exact h _ _
end
theorem ixt {kvs : List (Str × V)} {z : Str} {v : V} {S : Sto} {P : D → Sto → Prop} (h : kvs.lookup z = some v) (hP : P (vD v) S) : asStr (fun z => match kvs.lookup z with
  | some v => P (vD v) S
  | none => False) (.str z) := by
  show (match kvs.lookup z with
  | some v => P (vD v) S
  | none => False)
  rw [h]
  exact hP
theorem wso_start {n : Nat} {w : Str} {rest : List D} {sh : Str} (hsh : SHT.lookup w = some (.str sh)) (hr : rest.length ≤ 100) (h : forG wsoF (wsoB (m_wish_so n)) (zipD (signs sh) rest) [.va (.tup (.str w :: rest)), .va (.str w), .va (.lst rest), .ow (.lst [.str w]), .un, .un] S ⟨fun ρ' S' => kFrz 3 (kRet (mJoin (mC (.str " ")) (mVarQ 3))) ρ' S' ⟨fun _ S' => P .non S', P, fun _ _ => False, fun _ _ => False, X⟩, P, fun _ _ => False, fun _ _ => False, X⟩ .mk) : m_wish_so (n + 1) [.tup (.str w :: rest)] S P X := by
  rw [e_wish_so]
  unfold b_wish_so_
  refine ⟨rfl, Nat.succ_le_succ (Nat.zero_le _), by rw [List.length_cons]; omega, by simp [stEnv], by rw [sizeLine_eq]; simp, ?_⟩
  exact ixt (P := fun d S1 => asZZ (fun es => forD wsoF (wsoB (m_wish_so n)) es [.va (.tup (.str w :: rest)), .va (.str w), .va (.lst rest), .ow (.lst [.str w]), .un, .un] S1 ⟨fun ρ' S' => kFrz 3 (kRet (mJoin (mC (.str " ")) (mVarQ 3))) ρ' S' ⟨fun _ S' => P .non S', P, fun _ _ => False, fun _ _ => False, X⟩, P, fun _ _ => False, fun _ _ => False, X⟩) [d, .lst rest]) hsh h
theorem wso_end {a b c x y : Sl} {ls : List (List Nat)} {nx : Env → Sto → Prop} {bk ct : Env → Sto → Prop} (hb : (glue ls).length ≤ 100000) (hP : P (.str (ofL (glue ls))) S) : kFrz 3 (kRet (mJoin (mC (.str " ")) (mVarQ 3))) [a, b, c, .ow (.lst (ls.map fun l => D.str (ofL l))), x, y] S ⟨nx, P, bk, ct, X⟩ := by
  walk_at "F"
  exact fin_glue ls rfl hb hP
theorem wish_so_ok : ∀ (n : Nat) (w : Wish) {P : D → Sto → Prop} {X : Ex → Sto → Prop} {S : Sto}, w.deep ≤ n → n ≤ 70 → w.parts ≤ 1000 → w.nums → P (.str (ofL w.say)) S → m_wish_so n [w.d] S P X := by
  intro n
  induction n with
  | zero => intro w P X S h; have := w.pos; omega
  | succ n ih =>
    intro w P X S h h70 hb hn hP
    have hsl := w.say_len
    cases w with
    | all p =>
      simp only [Wish.deep, Wish.parts] at h hb
      refine wso_start (w := "all") (sh := "p") (by decide +kernel) (by simp) ?_
      rw [sh_p, zipD_cons, zipD_nil]
      refine wso_p (by omega) (by omega) (by simp) fun _ _ => ?_
      refine for_nil ?_
      refine wso_end (ls := [wd "all", p.say]) (by have := hsl; simp only [Wish.say, Wish.parts] at this; omega) hP
    | one p =>
      simp only [Wish.deep, Wish.parts] at h hb
      refine wso_start (w := "one") (sh := "p") (by decide +kernel) (by simp) ?_
      rw [sh_p, zipD_cons, zipD_nil]
      refine wso_p (by omega) (by omega) (by simp) fun _ _ => ?_
      refine for_nil ?_
      refine wso_end (ls := [wd "one", p.say]) (by have := hsl; simp only [Wish.say, Wish.parts] at this; omega) hP
    | each m p =>
      simp only [Wish.deep, Wish.parts] at h hb
      refine wso_start (w := "each") (sh := "mp") (by decide +kernel) (by simp) ?_
      rw [sh_mp, zipD_cons, zipD_cons, zipD_nil]
      refine wso_i (by decide) (by decide) (by have := hn; simp only [Wish.nums] at this; omega) (by simp) fun _ _ => ?_
      refine wso_p (by omega) (by omega) (by simp) fun _ _ => ?_
      refine for_nil ?_
      refine wso_end (ls := [wd "each", [dgt m], p.say]) (by have := hsl; simp only [Wish.say, Wish.parts] at this; omega) hP
    | last k l =>
      simp only [Wish.deep, Wish.parts] at h hb
      refine wso_start (w := "last") (sh := "kk") (by decide +kernel) (by simp) ?_
      rw [sh_kk, zipD_cons, zipD_cons, zipD_nil]
      refine wso_k (by decide) (by decide) (by simp) fun _ _ => ?_
      refine wso_k (by decide) (by decide) (by simp) fun _ _ => ?_
      refine for_nil ?_
      refine wso_end (ls := [wd "last", [k], [l]]) (by have := hsl; simp only [Wish.say, Wish.parts] at this; omega) hP
    | turns k =>
      simp only [Wish.deep, Wish.parts] at h hb
      refine wso_start (w := "turns") (sh := "k") (by decide +kernel) (by simp) ?_
      rw [sh_k, zipD_cons, zipD_nil]
      refine wso_k (by decide) (by decide) (by simp) fun _ _ => ?_
      refine for_nil ?_
      refine wso_end (ls := [wd "turns", [k]]) (by have := hsl; simp only [Wish.say, Wish.parts] at this; omega) hP
    | apart m =>
      simp only [Wish.deep, Wish.parts] at h hb
      refine wso_start (w := "apart") (sh := "n") (by decide +kernel) (by simp) ?_
      rw [sh_n, zipD_cons, zipD_nil]
      refine wso_i (by decide) (by decide) (by have := hn; simp only [Wish.nums] at this; omega) (by simp) fun _ _ => ?_
      refine for_nil ?_
      refine wso_end (ls := [wd "apart", [dgt m]]) (by have := hsl; simp only [Wish.say, Wish.parts] at this; omega) hP
    | upon k v w =>
      simp only [Wish.deep, Wish.parts] at h hb
      refine wso_start (w := "upon") (sh := "kww") (by decide +kernel) (by simp) ?_
      rw [sh_kww, zipD_cons, zipD_cons, zipD_cons, zipD_nil]
      refine wso_k (by decide) (by decide) (by simp) fun _ _ => ?_
      refine wso_w (v := v) (fun hq => ih v (by omega) (by omega) (by omega) hn.1 hq) (by omega) (by simp) fun _ _ => ?_
      refine wso_w (v := w) (fun hq => ih w (by omega) (by omega) (by omega) hn.2 hq) (by omega) (by simp) fun _ _ => ?_
      refine for_nil ?_
      refine wso_end (ls := [wd "upon", [k], par v.say, par w.say]) (by have := hsl; simp only [Wish.say, Wish.parts] at this; omega) hP
    | cut k v =>
      simp only [Wish.deep, Wish.parts] at h hb
      refine wso_start (w := "cut") (sh := "kw") (by decide +kernel) (by simp) ?_
      rw [sh_kw, zipD_cons, zipD_cons, zipD_nil]
      refine wso_k (by decide) (by decide) (by simp) fun _ _ => ?_
      refine wso_w (v := v) (fun hq => ih v (by omega) (by omega) (by omega) hn hq) (by omega) (by simp) fun _ _ => ?_
      refine for_nil ?_
      refine wso_end (ls := [wd "cut", [k], par v.say]) (by have := hsl; simp only [Wish.say, Wish.parts] at this; omega) hP
    | both v w =>
      simp only [Wish.deep, Wish.parts] at h hb
      refine wso_start (w := "both") (sh := "ww") (by decide +kernel) (by simp) ?_
      rw [sh_ww, zipD_cons, zipD_cons, zipD_nil]
      refine wso_w (v := v) (fun hq => ih v (by omega) (by omega) (by omega) hn.1 hq) (by omega) (by simp) fun _ _ => ?_
      refine wso_w (v := w) (fun hq => ih w (by omega) (by omega) (by omega) hn.2 hq) (by omega) (by simp) fun _ _ => ?_
      refine for_nil ?_
      refine wso_end (ls := [wd "both", par v.say, par w.say]) (by have := hsl; simp only [Wish.say, Wish.parts] at this; omega) hP
    | either v w =>
      simp only [Wish.deep, Wish.parts] at h hb
      refine wso_start (w := "either") (sh := "ww") (by decide +kernel) (by simp) ?_
      rw [sh_ww, zipD_cons, zipD_cons, zipD_nil]
      refine wso_w (v := v) (fun hq => ih v (by omega) (by omega) (by omega) hn.1 hq) (by omega) (by simp) fun _ _ => ?_
      refine wso_w (v := w) (fun hq => ih w (by omega) (by omega) (by omega) hn.2 hq) (by omega) (by simp) fun _ _ => ?_
      refine for_nil ?_
      refine wso_end (ls := [wd "either", par v.say, par w.say]) (by have := hsl; simp only [Wish.say, Wish.parts] at this; omega) hP
    | nt v =>
      simp only [Wish.deep, Wish.parts] at h hb
      refine wso_start (w := "not") (sh := "w") (by decide +kernel) (by simp) ?_
      rw [sh_w, zipD_cons, zipD_nil]
      refine wso_w (v := v) (fun hq => ih v (by omega) (by omega) (by omega) hn hq) (by omega) (by simp) fun _ _ => ?_
      refine for_nil ?_
      refine wso_end (ls := [wd "not", par v.say]) (by have := hsl; simp only [Wish.say, Wish.parts] at this; omega) hP
end
end Nc

namespace Nc
open PySem PySem.Spec PyProof.Rows L2
/-! ## the law's own writing; sizes -/
abbrev swB (self : List D → M D) : MS := (kIf (mNot (mB (mCB fIsi (mCons (mVarQ 2) (mCons (mC (.raw (.ty "tuple"))) mNil))))) (kApp 1 (mCB fStrA (mCons (mVarQ 2) mNil))) (kIf (mB (mCall m__law_is_pattern [] (mCons (mVar 2) mNil))) (kApp 1 (mCall (m__law_said_pattern 70) [] (mCons (mVar 2) mNil))) (kApp 1 (mOp fAdd (mOp fAdd (mC (.str "(")) (mCall self [] (mCons (mVar 2) mNil))) (mC (.str ")"))))))
section
variable {P : D → Sto → Prop} {X : Ex → Sto → Prop} {S : Sto}
theorem isp_pat {p : Pat} (hP : P (.bl true) S) : m__law_is_pattern [p.d] S P X := by
  unfold m__law_is_pattern
  cases p <;> (unfold Pat.d; walk_at "F"; exact hP)
theorem isp_wish {w : Wish} (hP : P (.bl false) S) : m__law_is_pattern [w.d] S P X := by
  unfold m__law_is_pattern
  cases w <;> (unfold Wish.d; walk_at "F"; exact hP)
section
variable {self : List D → M D} {a x : Sl} {acc r : List D} {nx : Env → Sto → Prop} {rt : D → Sto → Prop} {bk ct : Env → Sto → Prop} {ex : Ex → Sto → Prop} {t : Tg (Pn.mk nx rt bk ct ex)}
theorem sw_p {p : Pat} (h1 : p.deep ≤ 70) (h2 : p.parts ≤ 1000) (hl : acc.length < 1000) (h : ∀ u, forG (mName 2) (swB self) r [a, .ow (.lst (acc ++ [.str (ofL p.say)])), u] S ⟨nx, rt, bk, ct, ex⟩ t) :
    forG (mName 2) (swB self) (p.d :: r) [a, .ow (.lst acc), x] S ⟨nx, rt, bk, ct, ex⟩ t := by
  refine for_cons ?_
  generalize hN : (fun (ρ2 : Env) (S2 : Sto) => forG (mName 2) (swB self) r ρ2 S2 ⟨nx, rt, bk, ct, ex⟩ t) = N
  walk_at "F"
  rw [pat_rs, pat_ty]
  walk_at "F"
  refine isp_pat ?_
  walk_at "F"
  refine said_pattern_ok 70 p h1 h2 ?_
  walk_at "F"
  refine ⟨by rw [sizeLine_eq]; omega, ?_⟩
  rw [← hN]
  exact h _
theorem sw_w {v : Wish} (ih : ∀ {P : D → Sto → Prop} {X : Ex → Sto → Prop} {S : Sto}, P (.str (ofL v.say)) S → self [v.d] S P X) (hv : v.parts ≤ 1000) (hl : acc.length < 1000) (h : ∀ u, forG (mName 2) (swB self) r [a, .ow (.lst (acc ++ [.str (ofL (par v.say))])), u] S ⟨nx, rt, bk, ct, ex⟩ t) :
    forG (mName 2) (swB self) (v.d :: r) [a, .ow (.lst acc), x] S ⟨nx, rt, bk, ct, ex⟩ t := by
  refine for_cons ?_
  generalize hN : (fun (ρ2 : Env) (S2 : Sto) => forG (mName 2) (swB self) r ρ2 S2 ⟨nx, rt, bk, ct, ex⟩ t) = N
  have hsl := v.say_len
  walk_at "F"
  rw [wish_rs, wish_ty]
  walk_at "F"
  refine isp_wish ?_
  walk_at "F"
  refine ih ?_
  rw [show ("(" : Str) = ofL [40] by decide +kernel, show (")" : Str) = ofL [41] by decide +kernel]
  walk_at "F"
  simp only [ofL_app, ofL_len, List.length_append, List.length_cons, List.length_nil, List.cons_append, List.nil_append]
  refine ⟨by omega, by omega, by rw [sizeLine_eq]; omega, ?_⟩
  rw [← hN]
  exact h _
theorem sw_i {m : Nat} (hm : m ≤ 9) (hl : acc.length < 1000) (h : ∀ u, forG (mName 2) (swB self) r [a, .ow (.lst (acc ++ [.str (ofL [dgt m])])), u] S ⟨nx, rt, bk, ct, ex⟩ t) :
    forG (mName 2) (swB self) (.int (m : Int) :: r) [a, .ow (.lst acc), x] S ⟨nx, rt, bk, ct, ex⟩ t := by
  refine for_cons ?_
  generalize hN : (fun (ρ2 : Env) (S2 : Sto) => forG (mName 2) (swB self) r ρ2 S2 ⟨nx, rt, bk, ct, ex⟩ t) = N
  walk_at "F"
  have hlg : ((m : Int)).natAbs.log2 < 1920 := by
    by_cases h0 : m = 0
    · subst h0; decide
    · exact Nat.lt_of_lt_of_le ((Nat.log2_lt (n := (m : Int).natAbs) (by omega)).mpr (show (m : Int).natAbs < 2 ^ 4 by omega)) (by decide)
  refine ⟨hlg, by rw [sizeLine_eq]; omega, ?_⟩
  rw [(toStr_dgt m hm).1, ← hN]
  exact h _
theorem sw_k {m : Nat} (hl : acc.length < 1000) (h : ∀ u, forG (mName 2) (swB self) r [a, .ow (.lst (acc ++ [.str (ofL [m])])), u] S ⟨nx, rt, bk, ct, ex⟩ t) :
    forG (mName 2) (swB self) (.str (sg m) :: r) [a, .ow (.lst acc), x] S ⟨nx, rt, bk, ct, ex⟩ t := by
  refine for_cons ?_
  generalize hN : (fun (ρ2 : Env) (S2 : Sto) => forG (mName 2) (swB self) r ρ2 S2 ⟨nx, rt, bk, ct, ex⟩ t) = N
  walk_at "F"
  refine ⟨by rw [sizeLine_eq]; omega, ?_⟩
  rw [← hN]
  exact h _
end
theorem sw_start {n : Nat} {w : Str} {rest : List D} (h : forG (mName 2) (swB (m__law_said_wish n)) rest [.va (.tup (.str w :: rest)), .ow (.lst [.str w]), .un] S ⟨fun ρ' S' => kFrz 1 (kRet (mJoin (mC (.str " ")) (mVarQ 1))) ρ' S' ⟨fun _ S' => P .non S', P, fun _ _ => False, fun _ _ => False, X⟩, P, fun _ _ => False, fun _ _ => False, X⟩ .mk) : m__law_said_wish (n + 1) [.tup (.str w :: rest)] S P X := by
  rw [e__law_said_wish]
  unfold b__law_said_wish_
  walk_at "F"
  exact h
theorem sw_end {a x : Sl} {ls : List (List Nat)} {nx : Env → Sto → Prop} {bk ct : Env → Sto → Prop} (hb : (glue ls).length ≤ 100000) (hP : P (.str (ofL (glue ls))) S) : kFrz 1 (kRet (mJoin (mC (.str " ")) (mVarQ 1))) [a, .ow (.lst (ls.map fun l => D.str (ofL l))), x] S ⟨nx, P, bk, ct, X⟩ := by
  walk_at "F"
  exact fin_glue ls rfl hb hP
theorem said_wish_ok : ∀ (n : Nat) (w : Wish) {P : D → Sto → Prop} {X : Ex → Sto → Prop} {S : Sto}, w.deep ≤ n → n ≤ 70 → w.parts ≤ 1000 → w.nums → P (.str (ofL w.say)) S → m__law_said_wish n [w.d] S P X := by
  intro n
  induction n with
  | zero => intro w P X S h; have := w.pos; omega
  | succ n ih =>
    intro w P X S h h70 hb hn hP
    have hsl := w.say_len
    cases w with
    | all p =>
      simp only [Wish.deep, Wish.parts] at h hb
      refine sw_start (w := "all") ?_
      refine sw_p (by omega) (by omega) (by simp) fun _ => ?_
      refine for_nil ?_
      refine sw_end (ls := [wd "all", p.say]) (by have := hsl; simp only [Wish.say, Wish.parts] at this; omega) hP
    | one p =>
      simp only [Wish.deep, Wish.parts] at h hb
      refine sw_start (w := "one") ?_
      refine sw_p (by omega) (by omega) (by simp) fun _ => ?_
      refine for_nil ?_
      refine sw_end (ls := [wd "one", p.say]) (by have := hsl; simp only [Wish.say, Wish.parts] at this; omega) hP
    | each m p =>
      simp only [Wish.deep, Wish.parts] at h hb
      refine sw_start (w := "each") ?_
      refine sw_i (by have := hn; simp only [Wish.nums] at this; omega) (by simp) fun _ => ?_
      refine sw_p (by omega) (by omega) (by simp) fun _ => ?_
      refine for_nil ?_
      refine sw_end (ls := [wd "each", [dgt m], p.say]) (by have := hsl; simp only [Wish.say, Wish.parts] at this; omega) hP
    | last k l =>
      simp only [Wish.deep, Wish.parts] at h hb
      refine sw_start (w := "last") ?_
      refine sw_k (by simp) fun _ => ?_
      refine sw_k (by simp) fun _ => ?_
      refine for_nil ?_
      refine sw_end (ls := [wd "last", [k], [l]]) (by have := hsl; simp only [Wish.say, Wish.parts] at this; omega) hP
    | turns k =>
      simp only [Wish.deep, Wish.parts] at h hb
      refine sw_start (w := "turns") ?_
      refine sw_k (by simp) fun _ => ?_
      refine for_nil ?_
      refine sw_end (ls := [wd "turns", [k]]) (by have := hsl; simp only [Wish.say, Wish.parts] at this; omega) hP
    | apart m =>
      simp only [Wish.deep, Wish.parts] at h hb
      refine sw_start (w := "apart") ?_
      refine sw_i (by have := hn; simp only [Wish.nums] at this; omega) (by simp) fun _ => ?_
      refine for_nil ?_
      refine sw_end (ls := [wd "apart", [dgt m]]) (by have := hsl; simp only [Wish.say, Wish.parts] at this; omega) hP
    | upon k v w =>
      simp only [Wish.deep, Wish.parts] at h hb
      refine sw_start (w := "upon") ?_
      refine sw_k (by simp) fun _ => ?_
      refine sw_w (v := v) (fun hq => ih v (by omega) (by omega) (by omega) hn.1 hq) (by omega) (by simp) fun _ => ?_
      refine sw_w (v := w) (fun hq => ih w (by omega) (by omega) (by omega) hn.2 hq) (by omega) (by simp) fun _ => ?_
      refine for_nil ?_
      refine sw_end (ls := [wd "upon", [k], par v.say, par w.say]) (by have := hsl; simp only [Wish.say, Wish.parts] at this; omega) hP
    | cut k v =>
      simp only [Wish.deep, Wish.parts] at h hb
      refine sw_start (w := "cut") ?_
      refine sw_k (by simp) fun _ => ?_
      refine sw_w (v := v) (fun hq => ih v (by omega) (by omega) (by omega) hn hq) (by omega) (by simp) fun _ => ?_
      refine for_nil ?_
      refine sw_end (ls := [wd "cut", [k], par v.say]) (by have := hsl; simp only [Wish.say, Wish.parts] at this; omega) hP
    | both v w =>
      simp only [Wish.deep, Wish.parts] at h hb
      refine sw_start (w := "both") ?_
      refine sw_w (v := v) (fun hq => ih v (by omega) (by omega) (by omega) hn.1 hq) (by omega) (by simp) fun _ => ?_
      refine sw_w (v := w) (fun hq => ih w (by omega) (by omega) (by omega) hn.2 hq) (by omega) (by simp) fun _ => ?_
      refine for_nil ?_
      refine sw_end (ls := [wd "both", par v.say, par w.say]) (by have := hsl; simp only [Wish.say, Wish.parts] at this; omega) hP
    | either v w =>
      simp only [Wish.deep, Wish.parts] at h hb
      refine sw_start (w := "either") ?_
      refine sw_w (v := v) (fun hq => ih v (by omega) (by omega) (by omega) hn.1 hq) (by omega) (by simp) fun _ => ?_
      refine sw_w (v := w) (fun hq => ih w (by omega) (by omega) (by omega) hn.2 hq) (by omega) (by simp) fun _ => ?_
      refine for_nil ?_
      refine sw_end (ls := [wd "either", par v.say, par w.say]) (by have := hsl; simp only [Wish.say, Wish.parts] at this; omega) hP
    | nt v =>
      simp only [Wish.deep, Wish.parts] at h hb
      refine sw_start (w := "not") ?_
      refine sw_w (v := v) (fun hq => ih v (by omega) (by omega) (by omega) hn hq) (by omega) (by simp) fun _ => ?_
      refine for_nil ?_
      refine sw_end (ls := [wd "not", par v.say]) (by have := hsl; simp only [Wish.say, Wish.parts] at this; omega) hP
/-! sizes -/
theorem pat_sizes : ∀ (p : Pat) (n : Nat), p.deep ≤ n → D.parts n p.d = p.parts ∧ D.deepN n p.d = p.deep := by
  intro p
  induction p with
  | none => intro n h; obtain ⟨n, rfl⟩ : ∃ k, n = k + 1 := ⟨n - 1, by simp [Pat.deep] at h; omega⟩; exact ⟨rfl, rfl⟩
  | kind c => intro n h; obtain ⟨n, rfl⟩ : ∃ k, n = k + 1 := ⟨n - 1, by simp [Pat.deep] at h; omega⟩; exact ⟨rfl, rfl⟩
  | thn p q ihp ihq | orr p q ihp ihq =>
    intro n h
    simp only [Pat.deep] at h
    obtain ⟨n, rfl⟩ : ∃ k, n = k + 1 := ⟨n - 1, by omega⟩
    obtain ⟨a1, a2⟩ := ihp n (by omega)
    obtain ⟨b1, b2⟩ := ihq n (by omega)
    have tp : p.d.isTup = true := by cases p <;> rfl
    have tq : q.d.isTup = true := by cases q <;> rfl
    unfold D.parts D.deepN D.inner D.tail Pat.d
    simp only [List.filter_cons, tp, tq, if_true, List.filter_nil, List.map_cons, List.map_nil, List.sum_cons, List.sum_nil, a1, a2, b1, b2, Pat.parts, Pat.deep, mxD, List.foldl_cons, List.foldl_nil]
    omega
  | again p ihp =>
    intro n h
    simp only [Pat.deep] at h
    obtain ⟨n, rfl⟩ : ∃ k, n = k + 1 := ⟨n - 1, by omega⟩
    obtain ⟨a1, a2⟩ := ihp n (by omega)
    have tp : p.d.isTup = true := by cases p <;> rfl
    unfold D.parts D.deepN D.inner D.tail Pat.d
    simp only [List.filter_cons, tp, if_true, List.filter_nil, List.map_cons, List.map_nil, List.sum_cons, List.sum_nil, a1, a2, Pat.parts, Pat.deep, mxD, List.foldl_cons, List.foldl_nil]
    omega
theorem need_pattern_ok {p : Pat} (h : p.deep ≤ 6) (hp : p.parts ≤ 16) (hl : ∀ c ∈ p.letters, c ∈ LET) (hP : P .non S) : m_need_pattern [p.d] S P X := by
  obtain ⟨a1, a2⟩ := pat_sizes p 70 (by omega)
  have hz : sizeFlaw p.d = .non := by
    unfold sizeFlaw
    rw [a1, a2, if_neg (by omega), if_neg (by omega)]
  unfold m_need_pattern
  walk_at "F"
  unfold m_flaw_of
  walk_at "F"
  refine pattern_formed_ok p 70 (by omega) hl ?_
  walk_at "F"
  refine size_flaw_ok (pat_WT p 70 (by omega) hl) ?_
  rw [hz]
  walk_at "F"
  exact hP
theorem pattern_text_ok {p : Pat} (h : p.deep ≤ 6) (hp : p.parts ≤ 16) (hl : ∀ c ∈ p.letters, c ∈ LET) (hP : P (.str (ofL p.say)) S) : m_pattern_text [p.d] S P X := by
  unfold m_pattern_text
  walk_at "F"
  refine need_pattern_ok h hp hl ?_
  walk_at "F"
  exact pattern_so_ok 70 p (by omega) (by omega) hP
theorem read_pattern_ok {p : Pat} (h : p.deep ≤ 6) (hp : p.parts ≤ 16) (hl : ∀ c ∈ p.letters, c ∈ LET) (hP : ∀ S', P p.d S') : m_read_pattern [.str (ofL p.say)] S P X := by
  unfold m_read_pattern
  walk_at "F"
  refine rd_init ?_
  walk_at "F"
  refine ⟨by unfold RD; walk_at "F", rd_pattern 70 p 0 0 1 [] (by omega) hl (by simp) (by omega) (by omega) ?_⟩
  walk_at "F"
  refine ⟨by unfold RD; walk_at "F", rd_end (by simp) ?_⟩
  walk_at "F"
  exact hP _
end
end Nc

namespace Nc
open PySem PySem.Spec PyProof.Rows L2
/-! ## wishes read -/
abbrev rwB (self : List D → M D) : MS := (kSeq (kDrop (mMeth "Reader" "one_of" m_Reader_one_of [] (mVar 0) (mCons (mC (.str " ")) mNil)))
    (kApp 3 (mMeth "Reader" "thing" (b_Reader_thing_ self) [] (mVar 0) (mCons (mVar 4) (mCons (mVar 1) mNil)))))
section
variable {P : D → Sto → Prop} {X : Ex → Sto → Prop} {S S0 : Sto} {z : List Nat} {a n deep : Nat} {self : List D → M D}
theorem th_p {p : Pat} {rr : List Nat} (hz : z.drop a = p.say ++ rr) (hl : ∀ c ∈ p.letters, c ∈ LET) (hn : n + p.parts ≤ 16) (hd : deep + 1 + p.deep ≤ 7) (hP : P p.d (S0 ++ [RD z (a + p.say.length) (n + p.parts)])) :
    b_Reader_thing_ self [.ob S0.length, .str (sg 112), .int (deep : Int)] (S0 ++ [RD z a n]) P X := by
  unfold b_Reader_thing_
  rw [s_p]
  walk_at "F"
  exact ⟨by unfold RD; walk_at "F", rd_pattern 70 p a n (deep + 1) rr (by omega) hl hz hn hd hP⟩
theorem th_k {c : Nat} {rr : List Nat} (hz : z.drop a = c :: rr) (hl : c ∈ LET) (hP : P (.str (sg c)) (S0 ++ [RD z (a + 1) n])) :
    b_Reader_thing_ self [.ob S0.length, .str (sg 107), .int (deep : Int)] (S0 ++ [RD z a n]) P X := by
  unfold b_Reader_thing_
  rw [s_k]
  walk_at "F"
  refine ⟨by unfold RD; walk_at "F", ?_⟩
  rw [let_of]
  refine rd_one hz (let_lt hl) hl ?_
  walk_at "F"
  exact hP
theorem th_m {m : Nat} {rr : List Nat} (hz : z.drop a = dgt m :: rr) (hm : 1 ≤ m ∧ m ≤ 3) (hP : P (.int (m : Int)) (S0 ++ [RD z (a + 1) n])) :
    b_Reader_thing_ self [.ob S0.length, .str (sg 109), .int (deep : Int)] (S0 ++ [RD z a n]) P X := by
  unfold b_Reader_thing_
  rw [s_m]
  walk_at "F"
  refine ⟨by unfold RD; walk_at "F", ?_⟩
  rw [show ("123" : Str) = ofL [49, 50, 51] by decide +kernel]
  refine rd_one hz (by unfold dgt; omega) (by unfold dgt; simp; omega) ?_
  walk_at "F"
  exact ⟨m, (toStr_dgt m (by omega)).2, hP⟩
theorem th_n {m : Nat} {rr : List Nat} (hz : z.drop a = dgt m :: rr) (hm : 2 ≤ m ∧ m ≤ 4) (hP : P (.int (m : Int)) (S0 ++ [RD z (a + 1) n])) :
    b_Reader_thing_ self [.ob S0.length, .str (sg 110), .int (deep : Int)] (S0 ++ [RD z a n]) P X := by
  unfold b_Reader_thing_
  rw [s_n]
  walk_at "F"
  refine ⟨by unfold RD; walk_at "F", ?_⟩
  rw [show ("234" : Str) = ofL [50, 51, 52] by decide +kernel]
  refine rd_one hz (by unfold dgt; omega) (by unfold dgt; simp; omega) ?_
  walk_at "F"
  exact ⟨m, (toStr_dgt m (by omega)).2, hP⟩
theorem th_w {v : Wish} {rr : List Nat} (ih : ∀ {P : D → Sto → Prop} {X : Ex → Sto → Prop} (a n : Nat) (r : List Nat), z.drop a = v.say ++ r → n + v.parts ≤ 16 → P v.d (S0 ++ [RD z (a + v.say.length) (n + v.parts)]) → self [.ob S0.length, .int ((deep + 1 : Nat) : Int)] (S0 ++ [RD z a n]) P X)
    (hz : z.drop a = par v.say ++ rr) (hn : n + v.parts ≤ 16) (hP : P v.d (S0 ++ [RD z (a + (par v.say).length) (n + v.parts)])) :
    b_Reader_thing_ self [.ob S0.length, .str (sg 119), .int (deep : Int)] (S0 ++ [RD z a n]) P X := by
  unfold b_Reader_thing_
  have z1 : z.drop a = 40 :: (v.say ++ (41 :: rr)) := by rw [hz]; simp [par]
  have z2 := drop_one z1
  have z3 := drop_more z2
  rw [s_w]
  walk_at "F"
  refine ⟨by unfold RD; walk_at "F", ?_⟩
  rw [show ("(" : Str) = ofL [40] by decide +kernel, show (")" : Str) = ofL [41] by decide +kernel]
  refine rd_one z1 (by decide) (by simp) ?_
  walk_at "F"
  refine ⟨by unfold RD; walk_at "F", ih (a + 1) n _ z2 hn ?_⟩
  walk_at "F"
  refine ⟨by unfold RD; walk_at "F", rd_one (a := a + 1 + v.say.length) (n := n + v.parts) z3 (by decide) (by simp) ?_⟩
  walk_at "F"
  rw [show a + (par v.say).length = a + 1 + v.say.length + 1 by simp [par]; omega] at hP
  exact hP
section
variable {a2 x : Sl} {acc r : List D} {nx : Env → Sto → Prop} {rt : D → Sto → Prop} {bk ct : Env → Sto → Prop} {ex : Ex → Sto → Prop} {t : Tg (Pn.mk nx rt bk ct ex)}
/-- a blank, then a thing -/
theorem rw_step {sh : Nat} {d : D} {pc rr : List Nat} {k : Nat} (hz : z.drop a = 32 :: (pc ++ rr)) (hl : acc.length < 1000)
    (th : ∀ {P : D → Sto → Prop}, P d (S0 ++ [RD z (a + 1 + pc.length) (n + k)]) → b_Reader_thing_ self [.ob S0.length, .str (sg sh), .int (deep : Int)] (S0 ++ [RD z (a + 1) n]) P ex)
    (h : ∀ u, forG (mName 4) (rwB self) r [.va (.ob S0.length), .va (.int (deep : Int)), a2, .ow (.lst (acc ++ [d])), u] (S0 ++ [RD z (a + 1 + pc.length) (n + k)]) ⟨nx, rt, bk, ct, ex⟩ t) :
    forG (mName 4) (rwB self) (.str (sg sh) :: r) [.va (.ob S0.length), .va (.int (deep : Int)), a2, .ow (.lst acc), x] (S0 ++ [RD z a n]) ⟨nx, rt, bk, ct, ex⟩ t := by
  refine for_cons ?_
  generalize hN : (fun (ρ2 : Env) (S2 : Sto) => forG (mName 4) (rwB self) r ρ2 S2 ⟨nx, rt, bk, ct, ex⟩ t) = N
  walk_at "F"
  refine ⟨by unfold RD; walk_at "F", ?_⟩
  rw [lit_sp]
  refine rd_one hz (by decide) (by simp) ?_
  walk_at "F"
  refine ⟨by unfold RD; walk_at "F", th ?_⟩
  refine ⟨by rw [sizeLine_eq]; omega, ?_⟩
  rw [← hN]
  exact h _
end
theorem rw_start {fu : Nat} {w : String} {sh : Str} {r : List Nat} (hw : wd w ∈ KS) (hsh : SHT.lookup (w : Str) = some (.str sh)) (hz : z.drop a = wd w ++ r) (hn : n < 16) (hd : deep ≤ 6)
    (h : forG (mName 4) (rwB (m_Reader_wish fu)) (signs sh) [.va (.ob S0.length), .va (.int (deep : Int)), .va (.str w), .ow (.lst []), .un] (S0 ++ [RD z (a + (wd w).length) (n + 1)]) ⟨fun ρ' S' => kFrz 3 (kRet (mOp fAdd (mTup (mCons (mVar 2) mNil)) (mCB fTupleOf (mCons (mVarQ 3) mNil)))) ρ' S' ⟨fun _ S' => P .non S', P, fun _ _ => False, fun _ _ => False, X⟩, P, fun _ _ => False, fun _ _ => False, X⟩ .mk) :
    m_Reader_wish (fu + 1) [.ob S0.length, .int (deep : Int)] (S0 ++ [RD z a n]) P X := by
  rw [e_Reader_wish]
  unfold b_Reader_wish_
  refine ⟨rfl, ?_⟩
  refine ⟨by unfold RD; walk_at "F", ?_⟩
  refine rd_word hw hz hn hd ?_
  rw [← lit_wd]
  refine ⟨by simp [stEnv], by rw [sizeLine_eq]; simp, ?_⟩
  exact ixt (P := fun d S1 => asS (fun es => forD (mName 4) (rwB (m_Reader_wish fu)) es [.va (.ob S0.length), .va (.int (deep : Int)), .va (.str w), .ow (.lst []), .un] S1 ⟨fun ρ' S' => kFrz 3 (kRet (mOp fAdd (mTup (mCons (mVar 2) mNil)) (mCB fTupleOf (mCons (mVarQ 3) mNil)))) ρ' S' ⟨fun _ S' => P .non S', P, fun _ _ => False, fun _ _ => False, X⟩, P, fun _ _ => False, fun _ _ => False, X⟩) d) hsh h
theorem rw_end {a0 a1 x : Sl} {w : Str} {ds : List D} {nx : Env → Sto → Prop} {bk ct : Env → Sto → Prop} (hb : ds.length ≤ 10) (hP : P (.tup (.str w :: ds)) S) : kFrz 3 (kRet (mOp fAdd (mTup (mCons (mVar 2) mNil)) (mCB fTupleOf (mCons (mVarQ 3) mNil)))) [a0, a1, .va (.str w), .ow (.lst ds), x] S ⟨nx, P, bk, ct, X⟩ := by
  walk_at "F"
  refine ⟨by omega, ?_⟩
  exact hP
end
end Nc

namespace Nc
open PySem PySem.Spec PyProof.Rows L2
/-! ## wishes read; the law -/
section
variable {S0 : Sto} {z : List Nat}
theorem rd_wish : ∀ (fu : Nat) (w : Wish) (a n deep : Nat) (r : List Nat) {P : D → Sto → Prop} {X : Ex → Sto → Prop}, w.deep ≤ fu → (∀ c ∈ w.letters, c ∈ LET) → w.nums → z.drop a = w.say ++ r → n + w.parts ≤ 16 → deep + w.deep ≤ 7 →
    P w.d (S0 ++ [RD z (a + w.say.length) (n + w.parts)]) → m_Reader_wish fu [.ob S0.length, .int (deep : Int)] (S0 ++ [RD z a n]) P X := by
  intro fu
  induction fu with
  | zero => intro w a n deep r P X h; have := w.pos; omega
  | succ fu ih =>
    intro w a n deep r P X h hl hnu hz hn hd hP
    have hpos := w.pos
    have hpp := w.ppos
    cases w with
    | all p =>
      simp only [Wish.deep, Wish.parts] at h hn hd
      have z0 : z.drop a = wd "all" ++ (32 :: (p.say ++ r)) := by rw [hz]; simp [Wish.say, glue]
      refine rw_start (w := "all") (sh := "p") (by decide +kernel) (by decide +kernel) z0 (by omega) (by omega) ?_
      have y0 := drop_more z0
      rw [sh_p]
      have x0 := drop_one y0
      refine rw_step (z := z) (a := a + (wd "all").length) (n := n + 1) (pc := p.say) (rr := r) (k := p.parts) (d := p.d) (sh := 112) y0 (by simp) (fun hq => th_p (a := a + (wd "all").length + 1) (n := n + 1) x0 (fun c hc => hl c (by simp [Wish.letters, hc])) (by omega) (by omega) hq) fun _ => ?_
      have y1 := drop_more x0
      refine for_nil (rw_end (by simp) ?_)
      rw [show a + (wd "all").length + 1 + (p.say).length = a + (Wish.all p).say.length by simp [Wish.say, glue, par] <;> omega, show n + 1 + p.parts = n + (Wish.all p).parts by simp [Wish.parts] <;> omega]
      exact hP
    | one p =>
      simp only [Wish.deep, Wish.parts] at h hn hd
      have z0 : z.drop a = wd "one" ++ (32 :: (p.say ++ r)) := by rw [hz]; simp [Wish.say, glue]
      refine rw_start (w := "one") (sh := "p") (by decide +kernel) (by decide +kernel) z0 (by omega) (by omega) ?_
      have y0 := drop_more z0
      rw [sh_p]
      have x0 := drop_one y0
      refine rw_step (z := z) (a := a + (wd "one").length) (n := n + 1) (pc := p.say) (rr := r) (k := p.parts) (d := p.d) (sh := 112) y0 (by simp) (fun hq => th_p (a := a + (wd "one").length + 1) (n := n + 1) x0 (fun c hc => hl c (by simp [Wish.letters, hc])) (by omega) (by omega) hq) fun _ => ?_
      have y1 := drop_more x0
      refine for_nil (rw_end (by simp) ?_)
      rw [show a + (wd "one").length + 1 + (p.say).length = a + (Wish.one p).say.length by simp [Wish.say, glue, par] <;> omega, show n + 1 + p.parts = n + (Wish.one p).parts by simp [Wish.parts] <;> omega]
      exact hP
    | each m p =>
      simp only [Wish.deep, Wish.parts] at h hn hd
      have z0 : z.drop a = wd "each" ++ (32 :: ([dgt m] ++ (32 :: (p.say ++ r)))) := by rw [hz]; simp [Wish.say, glue]
      refine rw_start (w := "each") (sh := "mp") (by decide +kernel) (by decide +kernel) z0 (by omega) (by omega) ?_
      have y0 := drop_more z0
      rw [sh_mp]
      have x0 := drop_one y0
      refine rw_step (z := z) (a := a + (wd "each").length) (n := n + 1) (pc := [dgt m]) (rr := 32 :: (p.say ++ r)) (k := 0) (d := .int (m : Int)) (sh := 109) y0 (by simp) (fun hq => th_m (a := a + (wd "each").length + 1) (n := n + 1) x0 hnu hq) fun _ => ?_
      have y1 := drop_more x0
      have x1 := drop_one y1
      refine rw_step (z := z) (a := a + (wd "each").length + 1 + ([dgt m]).length) (n := n + 1 + 0) (pc := p.say) (rr := r) (k := p.parts) (d := p.d) (sh := 112) y1 (by simp) (fun hq => th_p (a := a + (wd "each").length + 1 + ([dgt m]).length + 1) (n := n + 1 + 0) x1 (fun c hc => hl c (by simp [Wish.letters, hc])) (by omega) (by omega) hq) fun _ => ?_
      have y2 := drop_more x1
      refine for_nil (rw_end (by simp) ?_)
      rw [show a + (wd "each").length + 1 + ([dgt m]).length + 1 + (p.say).length = a + (Wish.each m p).say.length by simp [Wish.say, glue, par] <;> omega, show n + 1 + 0 + p.parts = n + (Wish.each m p).parts by simp [Wish.parts] <;> omega]
      exact hP
    | last k l =>
      simp only [Wish.deep, Wish.parts] at h hn hd
      have z0 : z.drop a = wd "last" ++ (32 :: ([k] ++ (32 :: ([l] ++ r)))) := by rw [hz]; simp [Wish.say, glue]
      refine rw_start (w := "last") (sh := "kk") (by decide +kernel) (by decide +kernel) z0 (by omega) (by omega) ?_
      have y0 := drop_more z0
      rw [sh_kk]
      have x0 := drop_one y0
      refine rw_step (z := z) (a := a + (wd "last").length) (n := n + 1) (pc := [k]) (rr := 32 :: ([l] ++ r)) (k := 0) (d := .str (sg k)) (sh := 107) y0 (by simp) (fun hq => th_k (a := a + (wd "last").length + 1) (n := n + 1) x0 (hl k (by simp [Wish.letters])) hq) fun _ => ?_
      have y1 := drop_more x0
      have x1 := drop_one y1
      refine rw_step (z := z) (a := a + (wd "last").length + 1 + ([k]).length) (n := n + 1 + 0) (pc := [l]) (rr := r) (k := 0) (d := .str (sg l)) (sh := 107) y1 (by simp) (fun hq => th_k (a := a + (wd "last").length + 1 + ([k]).length + 1) (n := n + 1 + 0) x1 (hl l (by simp [Wish.letters])) hq) fun _ => ?_
      have y2 := drop_more x1
      refine for_nil (rw_end (by simp) ?_)
      rw [show a + (wd "last").length + 1 + ([k]).length + 1 + ([l]).length = a + (Wish.last k l).say.length by simp [Wish.say, glue, par] <;> omega, show n + 1 + 0 + 0 = n + (Wish.last k l).parts by simp [Wish.parts] <;> omega]
      exact hP
    | turns k =>
      simp only [Wish.deep, Wish.parts] at h hn hd
      have z0 : z.drop a = wd "turns" ++ (32 :: ([k] ++ r)) := by rw [hz]; simp [Wish.say, glue]
      refine rw_start (w := "turns") (sh := "k") (by decide +kernel) (by decide +kernel) z0 (by omega) (by omega) ?_
      have y0 := drop_more z0
      rw [sh_k]
      have x0 := drop_one y0
      refine rw_step (z := z) (a := a + (wd "turns").length) (n := n + 1) (pc := [k]) (rr := r) (k := 0) (d := .str (sg k)) (sh := 107) y0 (by simp) (fun hq => th_k (a := a + (wd "turns").length + 1) (n := n + 1) x0 (hl k (by simp [Wish.letters])) hq) fun _ => ?_
      have y1 := drop_more x0
      refine for_nil (rw_end (by simp) ?_)
      rw [show a + (wd "turns").length + 1 + ([k]).length = a + (Wish.turns k).say.length by simp [Wish.say, glue, par] <;> omega, show n + 1 + 0 = n + (Wish.turns k).parts by simp [Wish.parts] <;> omega]
      exact hP
    | apart m =>
      simp only [Wish.deep, Wish.parts] at h hn hd
      have z0 : z.drop a = wd "apart" ++ (32 :: ([dgt m] ++ r)) := by rw [hz]; simp [Wish.say, glue]
      refine rw_start (w := "apart") (sh := "n") (by decide +kernel) (by decide +kernel) z0 (by omega) (by omega) ?_
      have y0 := drop_more z0
      rw [sh_n]
      have x0 := drop_one y0
      refine rw_step (z := z) (a := a + (wd "apart").length) (n := n + 1) (pc := [dgt m]) (rr := r) (k := 0) (d := .int (m : Int)) (sh := 110) y0 (by simp) (fun hq => th_n (a := a + (wd "apart").length + 1) (n := n + 1) x0 hnu hq) fun _ => ?_
      have y1 := drop_more x0
      refine for_nil (rw_end (by simp) ?_)
      rw [show a + (wd "apart").length + 1 + ([dgt m]).length = a + (Wish.apart m).say.length by simp [Wish.say, glue, par] <;> omega, show n + 1 + 0 = n + (Wish.apart m).parts by simp [Wish.parts] <;> omega]
      exact hP
    | upon k v w =>
      simp only [Wish.deep, Wish.parts] at h hn hd
      have z0 : z.drop a = wd "upon" ++ (32 :: ([k] ++ (32 :: ((par v.say) ++ (32 :: ((par w.say) ++ r)))))) := by rw [hz]; simp [Wish.say, glue]
      refine rw_start (w := "upon") (sh := "kww") (by decide +kernel) (by decide +kernel) z0 (by omega) (by omega) ?_
      have y0 := drop_more z0
      rw [sh_kww]
      have x0 := drop_one y0
      refine rw_step (z := z) (a := a + (wd "upon").length) (n := n + 1) (pc := [k]) (rr := 32 :: ((par v.say) ++ (32 :: ((par w.say) ++ r)))) (k := 0) (d := .str (sg k)) (sh := 107) y0 (by simp) (fun hq => th_k (a := a + (wd "upon").length + 1) (n := n + 1) x0 (hl k (by simp [Wish.letters])) hq) fun _ => ?_
      have y1 := drop_more x0
      have x1 := drop_one y1
      refine rw_step (z := z) (a := a + (wd "upon").length + 1 + ([k]).length) (n := n + 1 + 0) (pc := (par v.say)) (rr := 32 :: ((par w.say) ++ r)) (k := v.parts) (d := v.d) (sh := 119) y1 (by simp) (fun hq => th_w (a := a + (wd "upon").length + 1 + ([k]).length + 1) (n := n + 1 + 0) (fun a n r q1 q2 q3 => ih v a n (deep + 1) r (by omega) (fun c hc => hl c (by simp [Wish.letters, hc])) hnu.1 q1 q2 (by omega) q3) x1 (by omega) hq) fun _ => ?_
      have y2 := drop_more x1
      have x2 := drop_one y2
      refine rw_step (z := z) (a := a + (wd "upon").length + 1 + ([k]).length + 1 + ((par v.say)).length) (n := n + 1 + 0 + v.parts) (pc := (par w.say)) (rr := r) (k := w.parts) (d := w.d) (sh := 119) y2 (by simp) (fun hq => th_w (a := a + (wd "upon").length + 1 + ([k]).length + 1 + ((par v.say)).length + 1) (n := n + 1 + 0 + v.parts) (fun a n r q1 q2 q3 => ih w a n (deep + 1) r (by omega) (fun c hc => hl c (by simp [Wish.letters, hc])) hnu.2 q1 q2 (by omega) q3) x2 (by omega) hq) fun _ => ?_
      have y3 := drop_more x2
      refine for_nil (rw_end (by simp) ?_)
      rw [show a + (wd "upon").length + 1 + ([k]).length + 1 + ((par v.say)).length + 1 + ((par w.say)).length = a + (Wish.upon k v w).say.length by simp [Wish.say, glue, par] <;> omega, show n + 1 + 0 + v.parts + w.parts = n + (Wish.upon k v w).parts by simp [Wish.parts] <;> omega]
      exact hP
    | cut k v =>
      simp only [Wish.deep, Wish.parts] at h hn hd
      have z0 : z.drop a = wd "cut" ++ (32 :: ([k] ++ (32 :: ((par v.say) ++ r)))) := by rw [hz]; simp [Wish.say, glue]
      refine rw_start (w := "cut") (sh := "kw") (by decide +kernel) (by decide +kernel) z0 (by omega) (by omega) ?_
      have y0 := drop_more z0
      rw [sh_kw]
      have x0 := drop_one y0
      refine rw_step (z := z) (a := a + (wd "cut").length) (n := n + 1) (pc := [k]) (rr := 32 :: ((par v.say) ++ r)) (k := 0) (d := .str (sg k)) (sh := 107) y0 (by simp) (fun hq => th_k (a := a + (wd "cut").length + 1) (n := n + 1) x0 (hl k (by simp [Wish.letters])) hq) fun _ => ?_
      have y1 := drop_more x0
      have x1 := drop_one y1
      refine rw_step (z := z) (a := a + (wd "cut").length + 1 + ([k]).length) (n := n + 1 + 0) (pc := (par v.say)) (rr := r) (k := v.parts) (d := v.d) (sh := 119) y1 (by simp) (fun hq => th_w (a := a + (wd "cut").length + 1 + ([k]).length + 1) (n := n + 1 + 0) (fun a n r q1 q2 q3 => ih v a n (deep + 1) r (by omega) (fun c hc => hl c (by simp [Wish.letters, hc])) hnu q1 q2 (by omega) q3) x1 (by omega) hq) fun _ => ?_
      have y2 := drop_more x1
      refine for_nil (rw_end (by simp) ?_)
      rw [show a + (wd "cut").length + 1 + ([k]).length + 1 + ((par v.say)).length = a + (Wish.cut k v).say.length by simp [Wish.say, glue, par] <;> omega, show n + 1 + 0 + v.parts = n + (Wish.cut k v).parts by simp [Wish.parts] <;> omega]
      exact hP
    | both v w =>
      simp only [Wish.deep, Wish.parts] at h hn hd
      have z0 : z.drop a = wd "both" ++ (32 :: ((par v.say) ++ (32 :: ((par w.say) ++ r)))) := by rw [hz]; simp [Wish.say, glue]
      refine rw_start (w := "both") (sh := "ww") (by decide +kernel) (by decide +kernel) z0 (by omega) (by omega) ?_
      have y0 := drop_more z0
      rw [sh_ww]
      have x0 := drop_one y0
      refine rw_step (z := z) (a := a + (wd "both").length) (n := n + 1) (pc := (par v.say)) (rr := 32 :: ((par w.say) ++ r)) (k := v.parts) (d := v.d) (sh := 119) y0 (by simp) (fun hq => th_w (a := a + (wd "both").length + 1) (n := n + 1) (fun a n r q1 q2 q3 => ih v a n (deep + 1) r (by omega) (fun c hc => hl c (by simp [Wish.letters, hc])) hnu.1 q1 q2 (by omega) q3) x0 (by omega) hq) fun _ => ?_
      have y1 := drop_more x0
      have x1 := drop_one y1
      refine rw_step (z := z) (a := a + (wd "both").length + 1 + ((par v.say)).length) (n := n + 1 + v.parts) (pc := (par w.say)) (rr := r) (k := w.parts) (d := w.d) (sh := 119) y1 (by simp) (fun hq => th_w (a := a + (wd "both").length + 1 + ((par v.say)).length + 1) (n := n + 1 + v.parts) (fun a n r q1 q2 q3 => ih w a n (deep + 1) r (by omega) (fun c hc => hl c (by simp [Wish.letters, hc])) hnu.2 q1 q2 (by omega) q3) x1 (by omega) hq) fun _ => ?_
      have y2 := drop_more x1
      refine for_nil (rw_end (by simp) ?_)
      rw [show a + (wd "both").length + 1 + ((par v.say)).length + 1 + ((par w.say)).length = a + (Wish.both v w).say.length by simp [Wish.say, glue, par] <;> omega, show n + 1 + v.parts + w.parts = n + (Wish.both v w).parts by simp [Wish.parts] <;> omega]
      exact hP
    | either v w =>
      simp only [Wish.deep, Wish.parts] at h hn hd
      have z0 : z.drop a = wd "either" ++ (32 :: ((par v.say) ++ (32 :: ((par w.say) ++ r)))) := by rw [hz]; simp [Wish.say, glue]
      refine rw_start (w := "either") (sh := "ww") (by decide +kernel) (by decide +kernel) z0 (by omega) (by omega) ?_
      have y0 := drop_more z0
      rw [sh_ww]
      have x0 := drop_one y0
      refine rw_step (z := z) (a := a + (wd "either").length) (n := n + 1) (pc := (par v.say)) (rr := 32 :: ((par w.say) ++ r)) (k := v.parts) (d := v.d) (sh := 119) y0 (by simp) (fun hq => th_w (a := a + (wd "either").length + 1) (n := n + 1) (fun a n r q1 q2 q3 => ih v a n (deep + 1) r (by omega) (fun c hc => hl c (by simp [Wish.letters, hc])) hnu.1 q1 q2 (by omega) q3) x0 (by omega) hq) fun _ => ?_
      have y1 := drop_more x0
      have x1 := drop_one y1
      refine rw_step (z := z) (a := a + (wd "either").length + 1 + ((par v.say)).length) (n := n + 1 + v.parts) (pc := (par w.say)) (rr := r) (k := w.parts) (d := w.d) (sh := 119) y1 (by simp) (fun hq => th_w (a := a + (wd "either").length + 1 + ((par v.say)).length + 1) (n := n + 1 + v.parts) (fun a n r q1 q2 q3 => ih w a n (deep + 1) r (by omega) (fun c hc => hl c (by simp [Wish.letters, hc])) hnu.2 q1 q2 (by omega) q3) x1 (by omega) hq) fun _ => ?_
      have y2 := drop_more x1
      refine for_nil (rw_end (by simp) ?_)
      rw [show a + (wd "either").length + 1 + ((par v.say)).length + 1 + ((par w.say)).length = a + (Wish.either v w).say.length by simp [Wish.say, glue, par] <;> omega, show n + 1 + v.parts + w.parts = n + (Wish.either v w).parts by simp [Wish.parts] <;> omega]
      exact hP
    | nt v =>
      simp only [Wish.deep, Wish.parts] at h hn hd
      have z0 : z.drop a = wd "not" ++ (32 :: ((par v.say) ++ r)) := by rw [hz]; simp [Wish.say, glue]
      refine rw_start (w := "not") (sh := "w") (by decide +kernel) (by decide +kernel) z0 (by omega) (by omega) ?_
      have y0 := drop_more z0
      rw [sh_w]
      have x0 := drop_one y0
      refine rw_step (z := z) (a := a + (wd "not").length) (n := n + 1) (pc := (par v.say)) (rr := r) (k := v.parts) (d := v.d) (sh := 119) y0 (by simp) (fun hq => th_w (a := a + (wd "not").length + 1) (n := n + 1) (fun a n r q1 q2 q3 => ih v a n (deep + 1) r (by omega) (fun c hc => hl c (by simp [Wish.letters, hc])) hnu q1 q2 (by omega) q3) x0 (by omega) hq) fun _ => ?_
      have y1 := drop_more x0
      refine for_nil (rw_end (by simp) ?_)
      rw [show a + (wd "not").length + 1 + ((par v.say)).length = a + (Wish.nt v).say.length by simp [Wish.say, glue, par] <;> omega, show n + 1 + v.parts = n + (Wish.nt v).parts by simp [Wish.parts] <;> omega]
      exact hP
end
end Nc

namespace Nc
open PySem PySem.Spec PyProof.Rows L2
/-! ## wishes: sizes, as data -/
theorem pat_tup (p : Pat) : p.d.isTup = true := by cases p <;> rfl
theorem wish_tup (p : Wish) : p.d.isTup = true := by cases p <;> rfl
theorem wish_sizes : ∀ (w : Wish) (n : Nat), w.deep ≤ n → D.parts n w.d = w.parts ∧ D.deepN n w.d = w.deep := by
  intro w
  have st : ∀ z, (D.str z).isTup = false := fun _ => rfl
  have it : ∀ z, (D.int z).isTup = false := fun _ => rfl
  induction w with
  | all p | one p | each _ p =>
    intro n h
    simp only [Wish.deep] at h
    obtain ⟨n, rfl⟩ : ∃ k, n = k + 1 := ⟨n - 1, by omega⟩
    obtain ⟨a1, a2⟩ := pat_sizes p n (by omega)
    unfold D.parts D.deepN D.inner D.tail Wish.d
    simp only [List.filter_cons, pat_tup, st, it, Bool.false_eq_true, if_true, if_false, List.filter_nil, List.map_cons, List.map_nil, List.sum_cons, List.sum_nil, a1, a2, Wish.parts, Wish.deep, mxD, List.foldl_cons, List.foldl_nil]
    omega
  | last _ _ | turns _ | apart _ =>
    intro n h
    simp only [Wish.deep] at h
    obtain ⟨n, rfl⟩ : ∃ k, n = k + 1 := ⟨n - 1, by omega⟩
    exact ⟨rfl, rfl⟩
  | upon _ v w iv iw | both v w iv iw | either v w iv iw =>
    intro n h
    simp only [Wish.deep] at h
    obtain ⟨n, rfl⟩ : ∃ k, n = k + 1 := ⟨n - 1, by omega⟩
    obtain ⟨a1, a2⟩ := iv n (by omega)
    obtain ⟨b1, b2⟩ := iw n (by omega)
    unfold D.parts D.deepN D.inner D.tail Wish.d
    simp only [List.filter_cons, wish_tup, st, it, Bool.false_eq_true, if_true, if_false, List.filter_nil, List.map_cons, List.map_nil, List.sum_cons, List.sum_nil, a1, a2, b1, b2, Wish.parts, Wish.deep, mxD, List.foldl_cons, List.foldl_nil]
    omega
  | cut _ v iv | nt v iv =>
    intro n h
    simp only [Wish.deep] at h
    obtain ⟨n, rfl⟩ : ∃ k, n = k + 1 := ⟨n - 1, by omega⟩
    obtain ⟨a1, a2⟩ := iv n (by omega)
    unfold D.parts D.deepN D.inner D.tail Wish.d
    simp only [List.filter_cons, wish_tup, st, it, Bool.false_eq_true, if_true, if_false, List.filter_nil, List.map_cons, List.map_nil, List.sum_cons, List.sum_nil, a1, a2, Wish.parts, Wish.deep, mxD, List.foldl_cons, List.foldl_nil]
    omega
theorem okd_tupl {n : Nat} {ds : List D} (h : ∀ d ∈ ds, d.okd n) : D.okd (n + 1) (.tup ds) := okd_tup h
theorem pat_okd : ∀ (p : Pat), (∀ c ∈ p.letters, c ∈ LET) → D.okd p.deep p.d := by
  intro p
  induction p with
  | none => exact fun _ => okd_tup (n := 0) fun d hd => by simp at hd; subst hd; exact okd_str (litOk _)
  | kind c =>
    intro hl
    refine okd_tup (n := 0) fun d hd => ?_
    simp at hd
    rcases hd with rfl | rfl
    · exact okd_str (litOk _)
    · exact okd_str (sg_fine (let_lt (hl c (by simp [Pat.letters]))))
  | thn p q ihp ihq | orr p q ihp ihq =>
    intro hl
    have h1 := ihp fun c hc => hl c (by simp [Pat.letters, hc])
    have h2 := ihq fun c hc => hl c (by simp [Pat.letters, hc])
    simp only [Pat.deep, Pat.d, Nat.add_comm 1]
    refine okd_tup fun d hd => ?_
    simp at hd
    rcases hd with rfl | rfl | rfl
    · exact okd_str (litOk _)
    · exact h1.le (by omega)
    · exact h2.le (by omega)
  | again p ihp =>
    intro hl
    have h1 := ihp fun c hc => hl c (by simp [Pat.letters, hc])
    simp only [Pat.deep, Pat.d, Nat.add_comm 1]
    refine okd_tup fun d hd => ?_
    simp at hd
    rcases hd with rfl | rfl
    · exact okd_str (litOk _)
    · exact h1
theorem pat_small : ∀ p : Pat, p.d.small := by
  intro p
  induction p with
  | none | kind c => unfold D.small Pat.d; simp [D.smallB, D.smallBs]
  | thn p q ihp ihq | orr p q ihp ihq =>
    unfold D.small at ihp ihq ⊢
    simp [Pat.d, D.smallB, D.smallBs, ihp, ihq]
  | again p ihp =>
    unfold D.small at ihp ⊢
    simp [Pat.d, D.smallB, D.smallBs, ihp]
theorem wish_okd : ∀ (w : Wish), (∀ c ∈ w.letters, c ∈ LET) → D.okd w.deep w.d := by
  intro w
  have sgk : ∀ {n c}, c ∈ LET → D.okd n (.str (sg c)) := fun h => okd_str (sg_fine (let_lt h))
  induction w with
  | all p | one p | each _ p =>
    intro hl
    have h1 := pat_okd p hl
    simp only [Wish.deep, Wish.d, Nat.add_comm 1]
    refine okd_tup fun d hd => ?_
    simp at hd
    rcases hd with rfl | hd
    · exact okd_str (litOk _)
    · first
        | (subst hd; exact h1)
        | (rcases hd with rfl | rfl
           · exact okd_int
           · exact h1)
  | last k l =>
    intro hl
    refine okd_tup (n := 0) fun d hd => ?_
    simp at hd
    rcases hd with rfl | rfl | rfl
    · exact okd_str (litOk _)
    · exact sgk (hl _ (by simp [Wish.letters]))
    · exact sgk (hl _ (by simp [Wish.letters]))
  | turns k =>
    intro hl
    refine okd_tup (n := 0) fun d hd => ?_
    simp at hd
    rcases hd with rfl | rfl
    · exact okd_str (litOk _)
    · exact sgk (hl _ (by simp [Wish.letters]))
  | apart m =>
    intro hl
    refine okd_tup (n := 0) fun d hd => ?_
    simp at hd
    rcases hd with rfl | rfl
    · exact okd_str (litOk _)
    · exact okd_int
  | upon k v w iv iw =>
    intro hl
    have h1 := iv fun c hc => hl c (by simp [Wish.letters, hc])
    have h2 := iw fun c hc => hl c (by simp [Wish.letters, hc])
    simp only [Wish.deep, Wish.d, Nat.add_comm 1]
    refine okd_tup fun d hd => ?_
    simp at hd
    rcases hd with rfl | rfl | rfl | rfl
    · exact okd_str (litOk _)
    · exact sgk (hl _ (by simp [Wish.letters]))
    · exact h1.le (by omega)
    · exact h2.le (by omega)
  | both v w iv iw | either v w iv iw =>
    intro hl
    have h1 := iv fun c hc => hl c (by simp [Wish.letters, hc])
    have h2 := iw fun c hc => hl c (by simp [Wish.letters, hc])
    simp only [Wish.deep, Wish.d, Nat.add_comm 1]
    refine okd_tup fun d hd => ?_
    simp at hd
    rcases hd with rfl | rfl | rfl
    · exact okd_str (litOk _)
    · exact h1.le (by omega)
    · exact h2.le (by omega)
  | cut k v iv =>
    intro hl
    have h1 := iv fun c hc => hl c (by simp [Wish.letters, hc])
    simp only [Wish.deep, Wish.d, Nat.add_comm 1]
    refine okd_tup fun d hd => ?_
    simp at hd
    rcases hd with rfl | rfl | rfl
    · exact okd_str (litOk _)
    · exact sgk (hl _ (by simp [Wish.letters]))
    · exact h1
  | nt v iv =>
    intro hl
    have h1 := iv fun c hc => hl c (by simp [Wish.letters, hc])
    simp only [Wish.deep, Wish.d, Nat.add_comm 1]
    refine okd_tup fun d hd => ?_
    simp at hd
    rcases hd with rfl | rfl
    · exact okd_str (litOk _)
    · exact h1
theorem wish_small : ∀ w : Wish, w.d.small := by
  intro w
  induction w with
  | all p | one p | each _ p =>
    have := pat_small p
    unfold D.small at this ⊢
    simp [Wish.d, D.smallB, D.smallBs, this]
  | last _ _ | turns _ | apart _ => unfold D.small; simp [Wish.d, D.smallB, D.smallBs]
  | upon _ v w iv iw | both v w iv iw | either v w iv iw =>
    unfold D.small at iv iw ⊢
    simp [Wish.d, D.smallB, D.smallBs, iv, iw]
  | cut _ v iv | nt v iv =>
    unfold D.small at iv ⊢
    simp [Wish.d, D.smallB, D.smallBs, iv]
theorem Pat.say_fine : ∀ p : Pat, (∀ c ∈ p.letters, c ∈ LET) → ∀ c ∈ p.say, c < 0x110000 := by
  intro p
  induction p with
  | none => intro _ c hc; simp [Pat.say] at hc; omega
  | kind k => intro hl c hc; simp [Pat.say] at hc; rw [hc]; exact let_lt (hl k (by simp [Pat.letters]))
  | thn p q ihp ihq | orr p q ihp ihq =>
    intro hl c hc
    simp [Pat.say] at hc
    rcases hc with h | h | h | h | h
    · omega
    · exact ihp (fun c hc => hl c (by simp [Pat.letters, hc])) c h
    · omega
    · exact ihq (fun c hc => hl c (by simp [Pat.letters, hc])) c h
    · omega
  | again p ihp =>
    intro hl c hc
    simp [Pat.say] at hc
    rcases hc with h | h | h
    · omega
    · exact ihp (fun c hc => hl c (by simp [Pat.letters, hc])) c h
    · omega
theorem glue_fine : ∀ ls : List (List Nat), (∀ l ∈ ls, ∀ c ∈ l, c < 0x110000) → ∀ c ∈ glue ls, c < 0x110000
  | [], _, c, h => by simp [glue] at h
  | [x], h, c, hc => h x (by simp) c (by simpa [glue] using hc)
  | x :: y :: r, h, c, hc => by
    have ih := glue_fine (y :: r) fun l hl => h l (List.mem_cons_of_mem _ hl)
    rcases List.mem_append.mp (show c ∈ x ++ 32 :: glue (y :: r) from hc) with q | q
    · exact h x (by simp) c q
    · rcases List.mem_cons.mp q with q | q
      · omega
      · exact ih c q
theorem wd_fine (s : String) : ∀ c ∈ wd s, c < 0x110000 := fun c hc => by
  have := litOk s
  rw [lit_wd] at this
  simp only [ofL, List.all_toArray, List.all_eq_true, decide_eq_true_eq] at this
  exact this c hc
theorem par_fine {l : List Nat} (h : ∀ c ∈ l, c < 0x110000) : ∀ c ∈ par l, c < 0x110000 := fun c hc => by
  simp [par] at hc
  rcases hc with q | q | q
  · omega
  · exact h c q
  · omega
theorem Wish.say_fine : ∀ w : Wish, (∀ c ∈ w.letters, c ∈ LET) → w.nums → ∀ c ∈ w.say, c < 0x110000 := by
  intro w
  have one : ∀ {k}, k ∈ LET → ∀ c ∈ [k], c < 0x110000 := fun hk c hc => by rw [List.mem_singleton.mp hc]; exact let_lt hk
  induction w with
  | all p | one p =>
    intro hl _
    refine glue_fine _ fun l h => ?_
    simp at h
    rcases h with rfl | rfl
    · exact wd_fine _
    · exact p.say_fine hl
  | each m p =>
    intro hl hn
    refine glue_fine _ fun l h => ?_
    simp at h
    rcases h with rfl | rfl | rfl
    · exact wd_fine _
    · intro c hc; rw [List.mem_singleton.mp hc]; simp only [Wish.nums] at hn; unfold dgt; omega
    · exact p.say_fine hl
  | last k l =>
    intro hl _
    refine glue_fine _ fun q h => ?_
    simp at h
    rcases h with rfl | rfl | rfl
    · exact wd_fine _
    · exact one (hl _ (by simp [Wish.letters]))
    · exact one (hl _ (by simp [Wish.letters]))
  | turns k =>
    intro hl _
    refine glue_fine _ fun q h => ?_
    simp at h
    rcases h with rfl | rfl
    · exact wd_fine _
    · exact one (hl _ (by simp [Wish.letters]))
  | apart m =>
    intro hl hn
    refine glue_fine _ fun q h => ?_
    simp at h
    rcases h with rfl | rfl
    · exact wd_fine _
    · intro c hc; rw [List.mem_singleton.mp hc]; simp only [Wish.nums] at hn; unfold dgt; omega
  | upon k v w iv iw =>
    intro hl hn
    refine glue_fine _ fun q h => ?_
    simp at h
    rcases h with rfl | rfl | rfl | rfl
    · exact wd_fine _
    · exact one (hl _ (by simp [Wish.letters]))
    · exact par_fine (iv (fun c hc => hl c (by simp [Wish.letters, hc])) hn.1)
    · exact par_fine (iw (fun c hc => hl c (by simp [Wish.letters, hc])) hn.2)
  | both v w iv iw | either v w iv iw =>
    intro hl hn
    refine glue_fine _ fun q h => ?_
    simp at h
    rcases h with rfl | rfl | rfl
    · exact wd_fine _
    · exact par_fine (iv (fun c hc => hl c (by simp [Wish.letters, hc])) hn.1)
    · exact par_fine (iw (fun c hc => hl c (by simp [Wish.letters, hc])) hn.2)
  | cut k v iv =>
    intro hl hn
    refine glue_fine _ fun q h => ?_
    simp at h
    rcases h with rfl | rfl | rfl
    · exact wd_fine _
    · exact one (hl _ (by simp [Wish.letters]))
    · exact par_fine (iv (fun c hc => hl c (by simp [Wish.letters, hc])) hn)
  | nt v iv =>
    intro hl hn
    refine glue_fine _ fun q h => ?_
    simp at h
    rcases h with rfl | rfl
    · exact wd_fine _
    · exact par_fine (iv (fun c hc => hl c (by simp [Wish.letters, hc])) hn)
theorem ofL_fine {l : List Nat} (h : ∀ c ∈ l, c < 0x110000) : (ofL l).cps.all (· < 0x110000) = true := by
  simp only [ofL, List.all_toArray, List.all_eq_true, decide_eq_true_eq]
  exact h
end Nc

namespace Nc
open PySem PySem.Spec PyProof.Rows L2
/-! ## the law -/
section
variable {P : D → Sto → Prop} {X : Ex → Sto → Prop} {S : Sto}
theorem sizeFlaw_le {w : Wish} (h : sizeFlaw w.d = .non) (hd : w.deep ≤ 70) : w.parts ≤ 16 ∧ w.deep ≤ 6 := by
  obtain ⟨a1, a2⟩ := wish_sizes w 70 hd
  unfold sizeFlaw at h
  rw [a1, a2] at h
  split at h
  · cases h
  · split at h
    · cases h
    · omega
theorem wish_text_ok {w : Wish} (hd : w.deep ≤ 70) (hl : ∀ c ∈ w.letters, c ∈ LET) (hn : w.nums) (hz : sizeFlaw w.d = .non) (hP : P (.str (ofL w.say)) S) : m_wish_text [w.d] S P X := by
  have hs := sizeFlaw_le hz hd
  unfold m_wish_text
  walk_at "F"
  refine need_wish_ok hd hl hn hz ?_
  walk_at "F"
  exact wish_so_ok 70 w hd (Nat.le_refl _) (by omega) hn hP
theorem read_wish_ok {w : Wish} (h : w.deep ≤ 6) (hp : w.parts ≤ 16) (hl : ∀ c ∈ w.letters, c ∈ LET) (hn : w.nums) (hP : ∀ S', P w.d S') : m_read_wish [.str (ofL w.say)] S P X := by
  unfold m_read_wish
  walk_at "F"
  refine rd_init ?_
  walk_at "F"
  refine ⟨by unfold RD; walk_at "F", rd_wish 70 w 0 0 1 [] (by omega) hl hn (by simp) (by omega) (by omega) ?_⟩
  walk_at "F"
  refine ⟨by unfold RD; walk_at "F", rd_end (by simp) ?_⟩
  walk_at "F"
  exact hP _
theorem same2 {s : List Nat} {d : D} (hs : ∀ c ∈ s, c < 0x110000) (hd : d.okd 10) (hsm : d.small) (hP : P (.bl true) S) : m__law_same 70 [.lst [.str (ofL s), d], .lst [.str (ofL s), d]] S P X := by
  have ok : D.okd 11 (.lst [.str (ofL s), d]) := okd_lst fun x hx => by
    simp at hx
    rcases hx with rfl | rfl
    · exact okd_str (ofL_fine hs)
    · exact hd
  refine law_same_ok 70 11 _ ok (by have := ok.2.2; omega) (by omega) ?_ hP
  unfold D.small at hsm ⊢
  simp [D.smallB, D.smallBs, hsm]
end
theorem law_turn {N : Env → Sto → Prop} {rt : D → Sto → Prop} {X : Ex → Sto → Prop} {bk : Env → Sto → Prop} {a b c d e : Sl} {S : Sto} (hN : ∀ b c d e S, N [.un, .va .bag, a, b, c, d, e] S) :
    (kSeq (kAsg (mCall m__law_signs [] (mCons (mVar 1) (mCons (mC (.int 4)) mNil))) (mName 3))
    (kSeq (kAsg (mCall (m__law_cut_deep 70) [] (mCons (mCall (m__law_pattern 70) [] (mCons (mVar 1) (mCons (mVar 3) (mCons (mC (.int 14)) mNil)))) (mCons (mC (.int 6)) mNil))) (mName 4))
    (kSeq (kAsg (mCall (m__law_said_pattern 70) [] (mCons (mVar 4) mNil)) (mName 5))
    (kSeq (kIf (mNot (mB (mCall (m__law_same 70) [] (mCons (mLst (mCons (mCall m_pattern_text [] (mCons (mVar 4) mNil)) (mCons (mCall m_read_pattern [] (mCons (mVar 5) mNil)) mNil))) (mCons (mLst (mCons (mVar 5) (mCons (mVar 4) mNil))) mNil))))) (kRet (mC (.bl false))) kNext)
    (kSeq (kAsg (mCall (m__law_wish 70) [] (mCons (mVar 1) (mCons (mVar 3) (mCons (mC (.int 7)) mNil)))) (mName 6))
    (kIf (mB (mOp (fIs false) (mCall m__law_size_flaw [] (mCons (mVar 6) mNil)) (mC .non))) (kSeq (kAsg (mCall (m__law_said_wish 70) [] (mCons (mVar 6) mNil)) (mName 5))
    (kIf (mNot (mB (mCall (m__law_same 70) [] (mCons (mLst (mCons (mCall m_wish_text [] (mCons (mVar 6) mNil)) (mCons (mCall m_read_wish [] (mCons (mVar 5) mNil)) mNil))) (mCons (mLst (mCons (mVar 5) (mCons (mVar 6) mNil))) mNil))))) (kRet (mC (.bl false))) kNext)) kNext))))))
    [.un, .va .bag, a, b, c, d, e] S ⟨N, rt, bk, N, X⟩ := by
  walk_at "F"
  refine law_signs_ok (cap := 4) (by decide) (by decide) fun cs hcs hlen => ?_
  walk_at "F"
  refine law_pattern_ok hcs.one (by omega) 70 14 (by omega) (by omega) (by omega) fun p hp hpd => ?_
  walk_at "F"
  refine law_cut_ok 70 p 6 (by omega) fun q hq hqd => ?_
  have hql : ∀ c ∈ q.letters, c ∈ LET := fun c hc => hcs.lets c (hp c (hq c hc))
  have hq6 : q.deep ≤ 6 := by have := hqd.2.2 (by omega); omega
  walk_at "F"
  refine said_pattern_ok 70 q (by omega) (by omega) ?_
  walk_at "F"
  refine pattern_text_ok hq6 (by omega) hql ?_
  walk_at "F"
  refine read_pattern_ok hq6 (by omega) hql fun S' => ?_
  walk_at "F"
  refine same2 (q.say_fine hql) ((pat_okd q hql).le (by omega)) (pat_small q) ?_
  walk_at "F"
  refine law_wish_ok hcs.one (by omega) 70 7 (by omega) (by omega) fun w hw hn hd => ?_
  have hl : ∀ c ∈ w.letters, c ∈ LET := fun c hc => hcs.lets c (hw c hc)
  walk_at "F"
  refine law_size_flaw_ok (wish_WT w 70 (by omega) hl) ?_
  rcases sizeFlaw_or w.d with hz | ⟨z, hz⟩
  · rw [hz]
    have hs := sizeFlaw_le hz (by omega)
    walk_at "F"
    refine said_wish_ok 70 w (by omega) (Nat.le_refl _) (by omega) hn ?_
    walk_at "F"
    refine wish_text_ok (by omega) hl hn hz ?_
    walk_at "F"
    refine read_wish_ok hs.2 hs.1 hl hn fun S'' => ?_
    walk_at "F"
    refine same2 (w.say_fine hl hn) ((wish_okd w hl).le (by omega)) (wish_small w) ?_
    walk_at "F"
    exact hN _ _ _ _ _
  · rw [hz]
    walk_at "F"
    exact hN _ _ _ _ _
theorem law_m : m_law ([.un, .va .bag] ++ List.replicate 5 .un) [] okEnds := by
  unfold m_law okEnds
  walk_at "F"
  refine ⟨by decide, by decide, ?_⟩
  refine forD_invI _ (fun _ ρ _ => ∃ a b c d e, ρ = [.un, .va .bag, a, b, c, d, e]) (fun dn x rest ρ S' _ hi N hN => ?_) ⟨_, _, _, _, _, rfl⟩ fun ρ S' hi => ?_
  · obtain ⟨a, b, c, d, e, rfl⟩ := hi
    show (kSeq _ _) [.un, .va .bag, .va x, b, c, d, e] S' _
    refine law_turn (N := N) fun b c d e S => hN _ _ ⟨_, _, _, _, _, rfl⟩
  · obtain ⟨a, b, c, d, e, rfl⟩ := hi
    refine ⟨by decide, by decide, by decide, by decide, by decide, ?_⟩
    rw [show ("c" : Str) = sg 99 from (sg_lit _ _ rfl).symm, show ("a" : Str) = sg 97 from (sg_lit _ _ rfl).symm]
    refine wish_text_ok (w := .upon 99 (.turns 97) (.all (.again (.kind 97)))) (by decide) (by decide +kernel) (by simp [Wish.nums]) (by rfl) ?_
    rw [show ofL (Wish.upon 99 (.turns 97) (.all (.again (.kind 97)))).say = ("upon c (turns a) (all <a>)" : Str) by decide +kernel]
    walk_at "F"
end Nc

namespace Nc
open PySem PySem.Spec PyProof.Rows L2
def top (i : Nat) : Stmt := PySem.Challenge.pw_namecote_k14_patterns_and_wishes_written.main.body.getD i (.Pass ⟨0, 0, 0, 0⟩)
abbrev s_is_number : Stmt := top 7
abbrev s_is_letter : Stmt := top 8
abbrev s_pattern_formed : Stmt := top 13
abbrev s_parts_within : Stmt := top 14
abbrev s_parts_of : Stmt := top 15
abbrev s_deep_of : Stmt := top 16
abbrev s_size_flaw : Stmt := top 17
abbrev s_flaw_of : Stmt := top 18
abbrev s_need_pattern : Stmt := top 19
abbrev s_between : Stmt := top 23
abbrev s_wish_formed : Stmt := top 24
abbrev s_wish_flaw : Stmt := top 25
abbrev s_need_wish : Stmt := top 26
abbrev s_pattern_so : Stmt := top 33
abbrev s_wish_so : Stmt := top 34
abbrev s_pattern_text : Stmt := top 35
abbrev s_wish_text : Stmt := top 36
abbrev s_Reader___init__ : Stmt := inClass (top 37) 0
abbrev s_Reader_sign : Stmt := inClass (top 37) 1
abbrev s_Reader_one_of : Stmt := inClass (top 37) 2
abbrev s_Reader_begin : Stmt := inClass (top 37) 3
abbrev s_Reader_pattern : Stmt := inClass (top 37) 4
abbrev s_Reader_read_word : Stmt := inClass (top 37) 5
abbrev s_Reader_thing : Stmt := inClass (top 37) 6
abbrev s_Reader_wish : Stmt := inClass (top 37) 7
abbrev s_Reader_end : Stmt := inClass (top 37) 8
abbrev s_read_pattern : Stmt := top 38
abbrev s_read_wish : Stmt := top 39
abbrev s__law_bag : Stmt := top 41
abbrev s__law_pick : Stmt := top 42
abbrev s__law_of : Stmt := top 43
abbrev s__law_shuffled : Stmt := top 44
abbrev s__law_same : Stmt := top 45
abbrev s__law_signs : Stmt := top 46
abbrev s__law_pattern : Stmt := top 47
abbrev s__law_inner : Stmt := top 48
abbrev s__law_parts : Stmt := top 49
abbrev s__law_deep : Stmt := top 50
abbrev s__law_cut_deep : Stmt := top 51
abbrev s__law_size_flaw : Stmt := top 52
abbrev s__law_wish : Stmt := top 53
abbrev s__law_plain_wish : Stmt := top 54
abbrev s__law_said_pattern : Stmt := top 55
abbrev s__law_said_wish : Stmt := top 56
abbrev s__law_is_pattern : Stmt := top 57
abbrev s_law : Stmt := top 58
def d_is_number : He.DefD := ⟨("is_number", none), "is_number", "is_number", defArgs s_is_number, defBody s_is_number, defScope s_is_number, [], []⟩
def d_is_letter : He.DefD := ⟨("is_letter", none), "is_letter", "is_letter", defArgs s_is_letter, defBody s_is_letter, defScope s_is_letter, [.str "abcdefghijklmnopqrstuvwxyz"], []⟩
def d_pattern_formed : He.DefD := ⟨("pattern_formed", none), "pattern_formed", "pattern_formed", defArgs s_pattern_formed, defBody s_pattern_formed, defScope s_pattern_formed, [], []⟩
def d_parts_within : He.DefD := ⟨("parts_within", none), "parts_within", "parts_within", defArgs s_parts_within, defBody s_parts_within, defScope s_parts_within, [], []⟩
def d_parts_of : He.DefD := ⟨("parts_of", none), "parts_of", "parts_of", defArgs s_parts_of, defBody s_parts_of, defScope s_parts_of, [], []⟩
def d_deep_of : He.DefD := ⟨("deep_of", none), "deep_of", "deep_of", defArgs s_deep_of, defBody s_deep_of, defScope s_deep_of, [], []⟩
def d_size_flaw : He.DefD := ⟨("size_flaw", none), "size_flaw", "size_flaw", defArgs s_size_flaw, defBody s_size_flaw, defScope s_size_flaw, [], []⟩
def d_flaw_of : He.DefD := ⟨("flaw_of", none), "flaw_of", "flaw_of", defArgs s_flaw_of, defBody s_flaw_of, defScope s_flaw_of, [], []⟩
def d_need_pattern : He.DefD := ⟨("need_pattern", none), "need_pattern", "need_pattern", defArgs s_need_pattern, defBody s_need_pattern, defScope s_need_pattern, [], []⟩
def d_between : He.DefD := ⟨("between", none), "between", "between", defArgs s_between, defBody s_between, defScope s_between, [], []⟩
def d_wish_formed : He.DefD := ⟨("wish_formed", none), "wish_formed", "wish_formed", defArgs s_wish_formed, defBody s_wish_formed, defScope s_wish_formed, [], []⟩
def d_wish_flaw : He.DefD := ⟨("wish_flaw", none), "wish_flaw", "wish_flaw", defArgs s_wish_flaw, defBody s_wish_flaw, defScope s_wish_flaw, [], []⟩
def d_need_wish : He.DefD := ⟨("need_wish", none), "need_wish", "need_wish", defArgs s_need_wish, defBody s_need_wish, defScope s_need_wish, [], []⟩
def d_pattern_so : He.DefD := ⟨("pattern_so", none), "pattern_so", "pattern_so", defArgs s_pattern_so, defBody s_pattern_so, defScope s_pattern_so, [], []⟩
def d_wish_so : He.DefD := ⟨("wish_so", none), "wish_so", "wish_so", defArgs s_wish_so, defBody s_wish_so, defScope s_wish_so, [], []⟩
def d_pattern_text : He.DefD := ⟨("pattern_text", none), "pattern_text", "pattern_text", defArgs s_pattern_text, defBody s_pattern_text, defScope s_pattern_text, [], []⟩
def d_wish_text : He.DefD := ⟨("wish_text", none), "wish_text", "wish_text", defArgs s_wish_text, defBody s_wish_text, defScope s_wish_text, [], []⟩
def d_Reader___init__ : He.DefD := ⟨("Reader", some "__init__"), "__init__", "Reader.__init__", defArgs s_Reader___init__, defBody s_Reader___init__, defScope s_Reader___init__, [], []⟩
def d_Reader_sign : He.DefD := ⟨("Reader", some "sign"), "sign", "Reader.sign", defArgs s_Reader_sign, defBody s_Reader_sign, defScope s_Reader_sign, [], []⟩
def d_Reader_one_of : He.DefD := ⟨("Reader", some "one_of"), "one_of", "Reader.one_of", defArgs s_Reader_one_of, defBody s_Reader_one_of, defScope s_Reader_one_of, [], []⟩
def d_Reader_begin : He.DefD := ⟨("Reader", some "begin"), "begin", "Reader.begin", defArgs s_Reader_begin, defBody s_Reader_begin, defScope s_Reader_begin, [], []⟩
def d_Reader_pattern : He.DefD := ⟨("Reader", some "pattern"), "pattern", "Reader.pattern", defArgs s_Reader_pattern, defBody s_Reader_pattern, defScope s_Reader_pattern, [], []⟩
def d_Reader_read_word : He.DefD := ⟨("Reader", some "read_word"), "read_word", "Reader.read_word", defArgs s_Reader_read_word, defBody s_Reader_read_word, defScope s_Reader_read_word, [], []⟩
def d_Reader_thing : He.DefD := ⟨("Reader", some "thing"), "thing", "Reader.thing", defArgs s_Reader_thing, defBody s_Reader_thing, defScope s_Reader_thing, [], []⟩
def d_Reader_wish : He.DefD := ⟨("Reader", some "wish"), "wish", "Reader.wish", defArgs s_Reader_wish, defBody s_Reader_wish, defScope s_Reader_wish, [], []⟩
def d_Reader_end : He.DefD := ⟨("Reader", some "end"), "end", "Reader.end", defArgs s_Reader_end, defBody s_Reader_end, defScope s_Reader_end, [], []⟩
def d_read_pattern : He.DefD := ⟨("read_pattern", none), "read_pattern", "read_pattern", defArgs s_read_pattern, defBody s_read_pattern, defScope s_read_pattern, [], []⟩
def d_read_wish : He.DefD := ⟨("read_wish", none), "read_wish", "read_wish", defArgs s_read_wish, defBody s_read_wish, defScope s_read_wish, [], []⟩
def d__law_bag : He.DefD := ⟨("_law_bag", none), "_law_bag", "_law_bag", defArgs s__law_bag, defBody s__law_bag, defScope s__law_bag, [], []⟩
def d__law_pick : He.DefD := ⟨("_law_pick", none), "_law_pick", "_law_pick", defArgs s__law_pick, defBody s__law_pick, defScope s__law_pick, [], []⟩
def d__law_of : He.DefD := ⟨("_law_of", none), "_law_of", "_law_of", defArgs s__law_of, defBody s__law_of, defScope s__law_of, [], []⟩
def d__law_shuffled : He.DefD := ⟨("_law_shuffled", none), "_law_shuffled", "_law_shuffled", defArgs s__law_shuffled, defBody s__law_shuffled, defScope s__law_shuffled, [], []⟩
def d__law_same : He.DefD := ⟨("_law_same", none), "_law_same", "_law_same", defArgs s__law_same, defBody s__law_same, defScope s__law_same, [], []⟩
def d__law_signs : He.DefD := ⟨("_law_signs", none), "_law_signs", "_law_signs", defArgs s__law_signs, defBody s__law_signs, defScope s__law_signs, [], []⟩
def d__law_pattern : He.DefD := ⟨("_law_pattern", none), "_law_pattern", "_law_pattern", defArgs s__law_pattern, defBody s__law_pattern, defScope s__law_pattern, [], []⟩
def d__law_inner : He.DefD := ⟨("_law_inner", none), "_law_inner", "_law_inner", defArgs s__law_inner, defBody s__law_inner, defScope s__law_inner, [], []⟩
def d__law_parts : He.DefD := ⟨("_law_parts", none), "_law_parts", "_law_parts", defArgs s__law_parts, defBody s__law_parts, defScope s__law_parts, [], []⟩
def d__law_deep : He.DefD := ⟨("_law_deep", none), "_law_deep", "_law_deep", defArgs s__law_deep, defBody s__law_deep, defScope s__law_deep, [], []⟩
def d__law_cut_deep : He.DefD := ⟨("_law_cut_deep", none), "_law_cut_deep", "_law_cut_deep", defArgs s__law_cut_deep, defBody s__law_cut_deep, defScope s__law_cut_deep, [], []⟩
def d__law_size_flaw : He.DefD := ⟨("_law_size_flaw", none), "_law_size_flaw", "_law_size_flaw", defArgs s__law_size_flaw, defBody s__law_size_flaw, defScope s__law_size_flaw, [], []⟩
def d__law_wish : He.DefD := ⟨("_law_wish", none), "_law_wish", "_law_wish", defArgs s__law_wish, defBody s__law_wish, defScope s__law_wish, [], []⟩
def d__law_plain_wish : He.DefD := ⟨("_law_plain_wish", none), "_law_plain_wish", "_law_plain_wish", defArgs s__law_plain_wish, defBody s__law_plain_wish, defScope s__law_plain_wish, [], []⟩
def d__law_said_pattern : He.DefD := ⟨("_law_said_pattern", none), "_law_said_pattern", "_law_said_pattern", defArgs s__law_said_pattern, defBody s__law_said_pattern, defScope s__law_said_pattern, [], []⟩
def d__law_said_wish : He.DefD := ⟨("_law_said_wish", none), "_law_said_wish", "_law_said_wish", defArgs s__law_said_wish, defBody s__law_said_wish, defScope s__law_said_wish, [], []⟩
def d__law_is_pattern : He.DefD := ⟨("_law_is_pattern", none), "_law_is_pattern", "_law_is_pattern", defArgs s__law_is_pattern, defBody s__law_is_pattern, defScope s__law_is_pattern, [], []⟩
def d_law : He.DefD := ⟨("law", none), "law", "law", defArgs s_law, defBody s_law, defScope s_law, [], []⟩
def exB (K : PySem.W.Frag) : Bool := allB [tblIs K (He.ga K "CLOSING") [(("then" : Str), V.str "]"), (("or" : Str), V.str "}"), (("again" : Str), V.str ">")], tblIs K (He.ga K "FIGURES") [(("m" : Str), V.str "123"), (("n" : Str), V.str "234"), (("k" : Str), V.str "abcdefghijklmnopqrstuvwxyz")], tblIs K (He.ga K "NESTED") [(("then" : Str), V.int 2), (("or" : Str), V.int 2), (("again" : Str), V.int 1)], tblIs K (He.ga K "OPENING") [(("then" : Str), V.str "["), (("or" : Str), V.str "{"), (("again" : Str), V.str "<")], tblIs K (He.ga K "PATTERN_SIGNS") [(("[" : Str), V.str "then"), (("{" : Str), V.str "or"), (("<" : Str), V.str "again")], tblIs K (He.ga K "SHAPES") [(("all" : Str), V.str "p"), (("one" : Str), V.str "p"), (("each" : Str), V.str "mp"), (("last" : Str), V.str "kk"), (("turns" : Str), V.str "k"), (("apart" : Str), V.str "n"), (("upon" : Str), V.str "kww"), (("cut" : Str), V.str "kw"), (("both" : Str), V.str "ww"), (("either" : Str), V.str "ww"), (("not" : Str), V.str "w")]]
def fn : List He.DefD := [d_is_number, d_is_letter, d_pattern_formed, d_parts_within, d_parts_of, d_deep_of, d_size_flaw, d_flaw_of, d_need_pattern, d_between, d_wish_formed, d_wish_flaw, d_need_wish, d_pattern_so, d_wish_so, d_pattern_text, d_wish_text, d_Reader___init__, d_Reader_sign, d_Reader_one_of, d_Reader_begin, d_Reader_pattern, d_Reader_read_word, d_Reader_thing, d_Reader_wish, d_Reader_end, d_read_pattern, d_read_wish, d__law_bag, d__law_pick, d__law_of, d__law_shuffled, d__law_same, d__law_signs, d__law_pattern, d__law_inner, d__law_parts, d__law_deep, d__law_cut_deep, d__law_size_flaw, d__law_wish, d__law_plain_wish, d__law_said_pattern, d__law_said_wish, d__law_is_pattern, d_law]
def fa : List He.Fa := [.glo "Reader", .glo "_law_bag", .glo "_law_cut_deep", .glo "_law_deep", .glo "_law_inner", .glo "_law_is_pattern", .glo "_law_of", .glo "_law_parts", .glo "_law_pattern", .glo "_law_pick", .glo "_law_plain_wish", .glo "_law_said_pattern", .glo "_law_said_wish", .glo "_law_same", .glo "_law_shuffled", .glo "_law_signs", .glo "_law_size_flaw", .glo "_law_wish", .glo "between", .glo "deep_of", .glo "flaw_of", .glo "is_letter", .glo "is_number", .glo "law", .glo "need_pattern", .glo "need_wish", .glo "parts_of", .glo "parts_within", .glo "pattern_formed", .glo "pattern_so", .glo "pattern_text", .glo "read_pattern", .glo "read_wish", .glo "size_flaw", .glo "wish_flaw", .glo "wish_formed", .glo "wish_so", .glo "wish_text", .free "all", .free "bool", .free "int", .free "isinstance", .free "len", .free "list", .free "max", .free "min", .free "range", .free "sorted", .free "str", .free "sum", .free "tuple", .free "zip", .str "LETTERS" "abcdefghijklmnopqrstuvwxyz", .int "LONGEST_APART" 4, .int "MOST_DEEP" 6, .int "MOST_PARTS" 16, .int "WIDEST" 3, .mkr "Reader", .cls "Reader", .meth "Reader" "pattern", .meth "Reader" "end", .noat "Reader" "signs_left", .noat "Reader" "at", .noat "Reader" "parts", .meth "Reader" "one_of", .meth "Reader" "begin", .meth "Reader" "sign", .meth "Reader" "wish", .meth "Reader" "read_word", .meth "Reader" "thing", .glo "CLOSING", .glo "FIGURES", .glo "NESTED", .glo "OPENING", .glo "PATTERN_SIGNS", .glo "SHAPES"]
def tbs : List (Str × List Str) := [("CLOSING", ["then", "or", "again"]), ("FIGURES", ["m", "n", "k"]), ("NESTED", ["then", "or", "again"]), ("OPENING", ["then", "or", "again"]), ("PATTERN_SIGNS", ["[", "{", "<"]), ("SHAPES", ["all", "one", "each", "last", "turns", "apart", "upon", "cut", "both", "either", "not"])]
structure Txt (w : World) (K : PySem.W.Frag) (mg : Str → Option Value) : Prop where
  c : He.SaysD fa fn K
  ex : ∃ h : Heap, K.In h ∧ h.Ns mainGlobals mg
  x : exB K = true
  s : SaysX fa fn exB tbs w K
section
variable {P : Program} {w : World} {K : PySem.W.Frag} {mg : Str → Option Value} {base : Heap}
theorem g_Reader (T : Txt w K mg) : mg "Reader" = some (.ref (He.fAd K ("Reader", none))) := let ⟨_, X, G⟩ := T.ex; He.glo_ok X G (T.c.fact 0 (f := .glo "Reader") rfl)
theorem g__law_bag (T : Txt w K mg) : mg "_law_bag" = some (.ref (He.fAd K ("_law_bag", none))) := let ⟨_, X, G⟩ := T.ex; He.glo_ok X G (T.c.fact 1 (f := .glo "_law_bag") rfl)
theorem g__law_cut_deep (T : Txt w K mg) : mg "_law_cut_deep" = some (.ref (He.fAd K ("_law_cut_deep", none))) := let ⟨_, X, G⟩ := T.ex; He.glo_ok X G (T.c.fact 2 (f := .glo "_law_cut_deep") rfl)
theorem g__law_deep (T : Txt w K mg) : mg "_law_deep" = some (.ref (He.fAd K ("_law_deep", none))) := let ⟨_, X, G⟩ := T.ex; He.glo_ok X G (T.c.fact 3 (f := .glo "_law_deep") rfl)
theorem g__law_inner (T : Txt w K mg) : mg "_law_inner" = some (.ref (He.fAd K ("_law_inner", none))) := let ⟨_, X, G⟩ := T.ex; He.glo_ok X G (T.c.fact 4 (f := .glo "_law_inner") rfl)
theorem g__law_is_pattern (T : Txt w K mg) : mg "_law_is_pattern" = some (.ref (He.fAd K ("_law_is_pattern", none))) := let ⟨_, X, G⟩ := T.ex; He.glo_ok X G (T.c.fact 5 (f := .glo "_law_is_pattern") rfl)
theorem g__law_of (T : Txt w K mg) : mg "_law_of" = some (.ref (He.fAd K ("_law_of", none))) := let ⟨_, X, G⟩ := T.ex; He.glo_ok X G (T.c.fact 6 (f := .glo "_law_of") rfl)
theorem g__law_parts (T : Txt w K mg) : mg "_law_parts" = some (.ref (He.fAd K ("_law_parts", none))) := let ⟨_, X, G⟩ := T.ex; He.glo_ok X G (T.c.fact 7 (f := .glo "_law_parts") rfl)
theorem g__law_pattern (T : Txt w K mg) : mg "_law_pattern" = some (.ref (He.fAd K ("_law_pattern", none))) := let ⟨_, X, G⟩ := T.ex; He.glo_ok X G (T.c.fact 8 (f := .glo "_law_pattern") rfl)
theorem g__law_pick (T : Txt w K mg) : mg "_law_pick" = some (.ref (He.fAd K ("_law_pick", none))) := let ⟨_, X, G⟩ := T.ex; He.glo_ok X G (T.c.fact 9 (f := .glo "_law_pick") rfl)
theorem g__law_plain_wish (T : Txt w K mg) : mg "_law_plain_wish" = some (.ref (He.fAd K ("_law_plain_wish", none))) := let ⟨_, X, G⟩ := T.ex; He.glo_ok X G (T.c.fact 10 (f := .glo "_law_plain_wish") rfl)
theorem g__law_said_pattern (T : Txt w K mg) : mg "_law_said_pattern" = some (.ref (He.fAd K ("_law_said_pattern", none))) := let ⟨_, X, G⟩ := T.ex; He.glo_ok X G (T.c.fact 11 (f := .glo "_law_said_pattern") rfl)
theorem g__law_said_wish (T : Txt w K mg) : mg "_law_said_wish" = some (.ref (He.fAd K ("_law_said_wish", none))) := let ⟨_, X, G⟩ := T.ex; He.glo_ok X G (T.c.fact 12 (f := .glo "_law_said_wish") rfl)
theorem g__law_same (T : Txt w K mg) : mg "_law_same" = some (.ref (He.fAd K ("_law_same", none))) := let ⟨_, X, G⟩ := T.ex; He.glo_ok X G (T.c.fact 13 (f := .glo "_law_same") rfl)
theorem g__law_shuffled (T : Txt w K mg) : mg "_law_shuffled" = some (.ref (He.fAd K ("_law_shuffled", none))) := let ⟨_, X, G⟩ := T.ex; He.glo_ok X G (T.c.fact 14 (f := .glo "_law_shuffled") rfl)
theorem g__law_signs (T : Txt w K mg) : mg "_law_signs" = some (.ref (He.fAd K ("_law_signs", none))) := let ⟨_, X, G⟩ := T.ex; He.glo_ok X G (T.c.fact 15 (f := .glo "_law_signs") rfl)
theorem g__law_size_flaw (T : Txt w K mg) : mg "_law_size_flaw" = some (.ref (He.fAd K ("_law_size_flaw", none))) := let ⟨_, X, G⟩ := T.ex; He.glo_ok X G (T.c.fact 16 (f := .glo "_law_size_flaw") rfl)
theorem g__law_wish (T : Txt w K mg) : mg "_law_wish" = some (.ref (He.fAd K ("_law_wish", none))) := let ⟨_, X, G⟩ := T.ex; He.glo_ok X G (T.c.fact 17 (f := .glo "_law_wish") rfl)
theorem g_between (T : Txt w K mg) : mg "between" = some (.ref (He.fAd K ("between", none))) := let ⟨_, X, G⟩ := T.ex; He.glo_ok X G (T.c.fact 18 (f := .glo "between") rfl)
theorem g_deep_of (T : Txt w K mg) : mg "deep_of" = some (.ref (He.fAd K ("deep_of", none))) := let ⟨_, X, G⟩ := T.ex; He.glo_ok X G (T.c.fact 19 (f := .glo "deep_of") rfl)
theorem g_flaw_of (T : Txt w K mg) : mg "flaw_of" = some (.ref (He.fAd K ("flaw_of", none))) := let ⟨_, X, G⟩ := T.ex; He.glo_ok X G (T.c.fact 20 (f := .glo "flaw_of") rfl)
theorem g_is_letter (T : Txt w K mg) : mg "is_letter" = some (.ref (He.fAd K ("is_letter", none))) := let ⟨_, X, G⟩ := T.ex; He.glo_ok X G (T.c.fact 21 (f := .glo "is_letter") rfl)
theorem g_is_number (T : Txt w K mg) : mg "is_number" = some (.ref (He.fAd K ("is_number", none))) := let ⟨_, X, G⟩ := T.ex; He.glo_ok X G (T.c.fact 22 (f := .glo "is_number") rfl)
theorem g_law (T : Txt w K mg) : mg "law" = some (.ref (He.fAd K ("law", none))) := let ⟨_, X, G⟩ := T.ex; He.glo_ok X G (T.c.fact 23 (f := .glo "law") rfl)
theorem g_need_pattern (T : Txt w K mg) : mg "need_pattern" = some (.ref (He.fAd K ("need_pattern", none))) := let ⟨_, X, G⟩ := T.ex; He.glo_ok X G (T.c.fact 24 (f := .glo "need_pattern") rfl)
theorem g_need_wish (T : Txt w K mg) : mg "need_wish" = some (.ref (He.fAd K ("need_wish", none))) := let ⟨_, X, G⟩ := T.ex; He.glo_ok X G (T.c.fact 25 (f := .glo "need_wish") rfl)
theorem g_parts_of (T : Txt w K mg) : mg "parts_of" = some (.ref (He.fAd K ("parts_of", none))) := let ⟨_, X, G⟩ := T.ex; He.glo_ok X G (T.c.fact 26 (f := .glo "parts_of") rfl)
theorem g_parts_within (T : Txt w K mg) : mg "parts_within" = some (.ref (He.fAd K ("parts_within", none))) := let ⟨_, X, G⟩ := T.ex; He.glo_ok X G (T.c.fact 27 (f := .glo "parts_within") rfl)
theorem g_pattern_formed (T : Txt w K mg) : mg "pattern_formed" = some (.ref (He.fAd K ("pattern_formed", none))) := let ⟨_, X, G⟩ := T.ex; He.glo_ok X G (T.c.fact 28 (f := .glo "pattern_formed") rfl)
theorem g_pattern_so (T : Txt w K mg) : mg "pattern_so" = some (.ref (He.fAd K ("pattern_so", none))) := let ⟨_, X, G⟩ := T.ex; He.glo_ok X G (T.c.fact 29 (f := .glo "pattern_so") rfl)
theorem g_pattern_text (T : Txt w K mg) : mg "pattern_text" = some (.ref (He.fAd K ("pattern_text", none))) := let ⟨_, X, G⟩ := T.ex; He.glo_ok X G (T.c.fact 30 (f := .glo "pattern_text") rfl)
theorem g_read_pattern (T : Txt w K mg) : mg "read_pattern" = some (.ref (He.fAd K ("read_pattern", none))) := let ⟨_, X, G⟩ := T.ex; He.glo_ok X G (T.c.fact 31 (f := .glo "read_pattern") rfl)
theorem g_read_wish (T : Txt w K mg) : mg "read_wish" = some (.ref (He.fAd K ("read_wish", none))) := let ⟨_, X, G⟩ := T.ex; He.glo_ok X G (T.c.fact 32 (f := .glo "read_wish") rfl)
theorem g_size_flaw (T : Txt w K mg) : mg "size_flaw" = some (.ref (He.fAd K ("size_flaw", none))) := let ⟨_, X, G⟩ := T.ex; He.glo_ok X G (T.c.fact 33 (f := .glo "size_flaw") rfl)
theorem g_wish_flaw (T : Txt w K mg) : mg "wish_flaw" = some (.ref (He.fAd K ("wish_flaw", none))) := let ⟨_, X, G⟩ := T.ex; He.glo_ok X G (T.c.fact 34 (f := .glo "wish_flaw") rfl)
theorem g_wish_formed (T : Txt w K mg) : mg "wish_formed" = some (.ref (He.fAd K ("wish_formed", none))) := let ⟨_, X, G⟩ := T.ex; He.glo_ok X G (T.c.fact 35 (f := .glo "wish_formed") rfl)
theorem g_wish_so (T : Txt w K mg) : mg "wish_so" = some (.ref (He.fAd K ("wish_so", none))) := let ⟨_, X, G⟩ := T.ex; He.glo_ok X G (T.c.fact 36 (f := .glo "wish_so") rfl)
theorem g_wish_text (T : Txt w K mg) : mg "wish_text" = some (.ref (He.fAd K ("wish_text", none))) := let ⟨_, X, G⟩ := T.ex; He.glo_ok X G (T.c.fact 37 (f := .glo "wish_text") rfl)
theorem fr_all (T : Txt w K mg) : mg "all" = none := let ⟨_, X, G⟩ := T.ex; He.free_ok X G (T.c.fact 38 (f := .free "all") rfl)
theorem fr_bool (T : Txt w K mg) : mg "bool" = none := let ⟨_, X, G⟩ := T.ex; He.free_ok X G (T.c.fact 39 (f := .free "bool") rfl)
theorem fr_int (T : Txt w K mg) : mg "int" = none := let ⟨_, X, G⟩ := T.ex; He.free_ok X G (T.c.fact 40 (f := .free "int") rfl)
theorem fr_isinstance (T : Txt w K mg) : mg "isinstance" = none := let ⟨_, X, G⟩ := T.ex; He.free_ok X G (T.c.fact 41 (f := .free "isinstance") rfl)
theorem fr_len (T : Txt w K mg) : mg "len" = none := let ⟨_, X, G⟩ := T.ex; He.free_ok X G (T.c.fact 42 (f := .free "len") rfl)
theorem fr_list (T : Txt w K mg) : mg "list" = none := let ⟨_, X, G⟩ := T.ex; He.free_ok X G (T.c.fact 43 (f := .free "list") rfl)
theorem fr_max (T : Txt w K mg) : mg "max" = none := let ⟨_, X, G⟩ := T.ex; He.free_ok X G (T.c.fact 44 (f := .free "max") rfl)
theorem fr_min (T : Txt w K mg) : mg "min" = none := let ⟨_, X, G⟩ := T.ex; He.free_ok X G (T.c.fact 45 (f := .free "min") rfl)
theorem fr_range (T : Txt w K mg) : mg "range" = none := let ⟨_, X, G⟩ := T.ex; He.free_ok X G (T.c.fact 46 (f := .free "range") rfl)
theorem fr_sorted (T : Txt w K mg) : mg "sorted" = none := let ⟨_, X, G⟩ := T.ex; He.free_ok X G (T.c.fact 47 (f := .free "sorted") rfl)
theorem fr_str (T : Txt w K mg) : mg "str" = none := let ⟨_, X, G⟩ := T.ex; He.free_ok X G (T.c.fact 48 (f := .free "str") rfl)
theorem fr_sum (T : Txt w K mg) : mg "sum" = none := let ⟨_, X, G⟩ := T.ex; He.free_ok X G (T.c.fact 49 (f := .free "sum") rfl)
theorem fr_tuple (T : Txt w K mg) : mg "tuple" = none := let ⟨_, X, G⟩ := T.ex; He.free_ok X G (T.c.fact 50 (f := .free "tuple") rfl)
theorem fr_zip (T : Txt w K mg) : mg "zip" = none := let ⟨_, X, G⟩ := T.ex; He.free_ok X G (T.c.fact 51 (f := .free "zip") rfl)
theorem gv_LETTERS (T : Txt w K mg) : ∃ u, mg "LETTERS" = some u ∧ RelV (V.str "abcdefghijklmnopqrstuvwxyz") u := let ⟨_, X, G⟩ := T.ex; let ⟨t, e⟩ := He.str_ok X G (T.c.fact 52 (f := .str "LETTERS" "abcdefghijklmnopqrstuvwxyz") rfl); ⟨_, e, t, rfl⟩
theorem gv_LONGEST_APART (T : Txt w K mg) : ∃ u, mg "LONGEST_APART" = some u ∧ RelV (V.int 4) u := let ⟨_, X, G⟩ := T.ex; let ⟨t, e⟩ := He.int_ok X G (T.c.fact 53 (f := .int "LONGEST_APART" 4) rfl); ⟨_, e, t, rfl⟩
theorem gv_MOST_DEEP (T : Txt w K mg) : ∃ u, mg "MOST_DEEP" = some u ∧ RelV (V.int 6) u := let ⟨_, X, G⟩ := T.ex; let ⟨t, e⟩ := He.int_ok X G (T.c.fact 54 (f := .int "MOST_DEEP" 6) rfl); ⟨_, e, t, rfl⟩
theorem gv_MOST_PARTS (T : Txt w K mg) : ∃ u, mg "MOST_PARTS" = some u ∧ RelV (V.int 16) u := let ⟨_, X, G⟩ := T.ex; let ⟨t, e⟩ := He.int_ok X G (T.c.fact 55 (f := .int "MOST_PARTS" 16) rfl); ⟨_, e, t, rfl⟩
theorem gv_WIDEST (T : Txt w K mg) : ∃ u, mg "WIDEST" = some u ∧ RelV (V.int 3) u := let ⟨_, X, G⟩ := T.ex; let ⟨t, e⟩ := He.int_ok X G (T.c.fact 56 (f := .int "WIDEST" 3) rfl); ⟨_, e, t, rfl⟩
theorem F_is_number (T : Txt w K mg) : FunD K "is_number" "is_number" (defArgs s_is_number) (defBody s_is_number) (defScope s_is_number) (d_is_number.dvs K) [] (He.fAd K ("is_number", none)) (fdF K ("is_number", none)) := funD_fd (T.c.def_ 0 (d := d_is_number) rfl)
theorem kp_is_number (T : Txt w K mg) : PySem.W.keepIn K (.ref (He.fAd K ("is_number", none))) = true := (F_is_number T).kp
theorem sc_is_number : FnScope ["thing"] ["thing"] (defScope s_is_number) := ⟨rfl, rfl, rfl, by decide +kernel, rfl, by decide +kernel, by decide +kernel⟩
theorem b_is_number (T : Txt w K mg) : Binds K (fdF K ("is_number", none)) ["thing"] [] := FunD.bindsN (F_is_number T) fun _ _ _ _ _ _ us hl => match us, hl with | [_], _ => rfl
theorem F_is_letter (T : Txt w K mg) : FunD K "is_letter" "is_letter" (defArgs s_is_letter) (defBody s_is_letter) (defScope s_is_letter) (d_is_letter.dvs K) [] (He.fAd K ("is_letter", none)) (fdF K ("is_letter", none)) := funD_fd (T.c.def_ 1 (d := d_is_letter) rfl)
theorem kp_is_letter (T : Txt w K mg) : PySem.W.keepIn K (.ref (He.fAd K ("is_letter", none))) = true := (F_is_letter T).kp
theorem sc_is_letter : FnScope ["thing", "some"] ["thing", "some"] (defScope s_is_letter) := ⟨rfl, rfl, rfl, by decide +kernel, rfl, by decide +kernel, by decide +kernel⟩
theorem b_is_letter_1 (T : Txt w K mg) : ∃ ds, Vals [V.str "abcdefghijklmnopqrstuvwxyz"] ds ∧ Binds K (fdF K ("is_letter", none)) ["thing", "some"] ds := FunD.binds1 (F_is_letter T) 1 0 (by simp [d_is_letter, He.DefD.dvs]) rfl fun _ _ _ _ _ _ _ us its h1 h2 => match us, its, h1, h2 with | [_], [_], _, _ => ⟨_, rfl, rfl⟩
theorem b_is_letter (T : Txt w K mg) : Binds K (fdF K ("is_letter", none)) ["thing", "some"] [] := funD_bindsD (F_is_letter T) (by simp [d_is_letter, He.DefD.dvs]) fun _ _ _ _ _ _ _ us hl => match us, hl with | [_, _], _ => ⟨_, rfl, fun its hl => match its, hl with | [_], _ => rfl⟩
theorem F_pattern_formed (T : Txt w K mg) : FunD K "pattern_formed" "pattern_formed" (defArgs s_pattern_formed) (defBody s_pattern_formed) (defScope s_pattern_formed) (d_pattern_formed.dvs K) [] (He.fAd K ("pattern_formed", none)) (fdF K ("pattern_formed", none)) := funD_fd (T.c.def_ 2 (d := d_pattern_formed) rfl)
theorem kp_pattern_formed (T : Txt w K mg) : PySem.W.keepIn K (.ref (He.fAd K ("pattern_formed", none))) = true := (F_pattern_formed T).kp
theorem sc_pattern_formed : FnScope ["thing", "word", "rest", "part"] ["thing"] (defScope s_pattern_formed) := ⟨rfl, rfl, rfl, by decide +kernel, rfl, by decide +kernel, by decide +kernel⟩
theorem b_pattern_formed (T : Txt w K mg) : Binds K (fdF K ("pattern_formed", none)) ["thing"] [] := FunD.bindsN (F_pattern_formed T) fun _ _ _ _ _ _ us hl => match us, hl with | [_], _ => rfl
theorem F_parts_within (T : Txt w K mg) : FunD K "parts_within" "parts_within" (defArgs s_parts_within) (defBody s_parts_within) (defScope s_parts_within) (d_parts_within.dvs K) [] (He.fAd K ("parts_within", none)) (fdF K ("parts_within", none)) := funD_fd (T.c.def_ 3 (d := d_parts_within) rfl)
theorem kp_parts_within (T : Txt w K mg) : PySem.W.keepIn K (.ref (He.fAd K ("parts_within", none))) = true := (F_parts_within T).kp
theorem sc_parts_within : FnScope ["thing", "part"] ["thing"] (defScope s_parts_within) := ⟨rfl, rfl, rfl, by decide +kernel, rfl, by decide +kernel, by decide +kernel⟩
theorem b_parts_within (T : Txt w K mg) : Binds K (fdF K ("parts_within", none)) ["thing"] [] := FunD.bindsN (F_parts_within T) fun _ _ _ _ _ _ us hl => match us, hl with | [_], _ => rfl
theorem F_parts_of (T : Txt w K mg) : FunD K "parts_of" "parts_of" (defArgs s_parts_of) (defBody s_parts_of) (defScope s_parts_of) (d_parts_of.dvs K) [] (He.fAd K ("parts_of", none)) (fdF K ("parts_of", none)) := funD_fd (T.c.def_ 4 (d := d_parts_of) rfl)
theorem kp_parts_of (T : Txt w K mg) : PySem.W.keepIn K (.ref (He.fAd K ("parts_of", none))) = true := (F_parts_of T).kp
theorem sc_parts_of : FnScope ["thing", "part"] ["thing"] (defScope s_parts_of) := ⟨rfl, rfl, rfl, by decide +kernel, rfl, by decide +kernel, by decide +kernel⟩
theorem b_parts_of (T : Txt w K mg) : Binds K (fdF K ("parts_of", none)) ["thing"] [] := FunD.bindsN (F_parts_of T) fun _ _ _ _ _ _ us hl => match us, hl with | [_], _ => rfl
theorem F_deep_of (T : Txt w K mg) : FunD K "deep_of" "deep_of" (defArgs s_deep_of) (defBody s_deep_of) (defScope s_deep_of) (d_deep_of.dvs K) [] (He.fAd K ("deep_of", none)) (fdF K ("deep_of", none)) := funD_fd (T.c.def_ 5 (d := d_deep_of) rfl)
theorem kp_deep_of (T : Txt w K mg) : PySem.W.keepIn K (.ref (He.fAd K ("deep_of", none))) = true := (F_deep_of T).kp
theorem sc_deep_of : FnScope ["thing", "part"] ["thing"] (defScope s_deep_of) := ⟨rfl, rfl, rfl, by decide +kernel, rfl, by decide +kernel, by decide +kernel⟩
theorem b_deep_of (T : Txt w K mg) : Binds K (fdF K ("deep_of", none)) ["thing"] [] := FunD.bindsN (F_deep_of T) fun _ _ _ _ _ _ us hl => match us, hl with | [_], _ => rfl
theorem F_size_flaw (T : Txt w K mg) : FunD K "size_flaw" "size_flaw" (defArgs s_size_flaw) (defBody s_size_flaw) (defScope s_size_flaw) (d_size_flaw.dvs K) [] (He.fAd K ("size_flaw", none)) (fdF K ("size_flaw", none)) := funD_fd (T.c.def_ 6 (d := d_size_flaw) rfl)
theorem kp_size_flaw (T : Txt w K mg) : PySem.W.keepIn K (.ref (He.fAd K ("size_flaw", none))) = true := (F_size_flaw T).kp
theorem sc_size_flaw : FnScope ["thing"] ["thing"] (defScope s_size_flaw) := ⟨rfl, rfl, rfl, by decide +kernel, rfl, by decide +kernel, by decide +kernel⟩
theorem b_size_flaw (T : Txt w K mg) : Binds K (fdF K ("size_flaw", none)) ["thing"] [] := FunD.bindsN (F_size_flaw T) fun _ _ _ _ _ _ us hl => match us, hl with | [_], _ => rfl
theorem F_flaw_of (T : Txt w K mg) : FunD K "flaw_of" "flaw_of" (defArgs s_flaw_of) (defBody s_flaw_of) (defScope s_flaw_of) (d_flaw_of.dvs K) [] (He.fAd K ("flaw_of", none)) (fdF K ("flaw_of", none)) := funD_fd (T.c.def_ 7 (d := d_flaw_of) rfl)
theorem kp_flaw_of (T : Txt w K mg) : PySem.W.keepIn K (.ref (He.fAd K ("flaw_of", none))) = true := (F_flaw_of T).kp
theorem sc_flaw_of : FnScope ["thing"] ["thing"] (defScope s_flaw_of) := ⟨rfl, rfl, rfl, by decide +kernel, rfl, by decide +kernel, by decide +kernel⟩
theorem b_flaw_of (T : Txt w K mg) : Binds K (fdF K ("flaw_of", none)) ["thing"] [] := FunD.bindsN (F_flaw_of T) fun _ _ _ _ _ _ us hl => match us, hl with | [_], _ => rfl
theorem F_need_pattern (T : Txt w K mg) : FunD K "need_pattern" "need_pattern" (defArgs s_need_pattern) (defBody s_need_pattern) (defScope s_need_pattern) (d_need_pattern.dvs K) [] (He.fAd K ("need_pattern", none)) (fdF K ("need_pattern", none)) := funD_fd (T.c.def_ 8 (d := d_need_pattern) rfl)
theorem kp_need_pattern (T : Txt w K mg) : PySem.W.keepIn K (.ref (He.fAd K ("need_pattern", none))) = true := (F_need_pattern T).kp
theorem sc_need_pattern : FnScope ["thing", "flaw"] ["thing"] (defScope s_need_pattern) := ⟨rfl, rfl, rfl, by decide +kernel, rfl, by decide +kernel, by decide +kernel⟩
theorem b_need_pattern (T : Txt w K mg) : Binds K (fdF K ("need_pattern", none)) ["thing"] [] := FunD.bindsN (F_need_pattern T) fun _ _ _ _ _ _ us hl => match us, hl with | [_], _ => rfl
theorem F_between (T : Txt w K mg) : FunD K "between" "between" (defArgs s_between) (defBody s_between) (defScope s_between) (d_between.dvs K) [] (He.fAd K ("between", none)) (fdF K ("between", none)) := funD_fd (T.c.def_ 9 (d := d_between) rfl)
theorem kp_between (T : Txt w K mg) : PySem.W.keepIn K (.ref (He.fAd K ("between", none))) = true := (F_between T).kp
theorem sc_between : FnScope ["thing", "low", "high"] ["thing", "low", "high"] (defScope s_between) := ⟨rfl, rfl, rfl, by decide +kernel, rfl, by decide +kernel, by decide +kernel⟩
theorem b_between (T : Txt w K mg) : Binds K (fdF K ("between", none)) ["thing", "low", "high"] [] := FunD.bindsN (F_between T) fun _ _ _ _ _ _ us hl => match us, hl with | [_, _, _], _ => rfl
theorem F_wish_formed (T : Txt w K mg) : FunD K "wish_formed" "wish_formed" (defArgs s_wish_formed) (defBody s_wish_formed) (defScope s_wish_formed) (d_wish_formed.dvs K) [] (He.fAd K ("wish_formed", none)) (fdF K ("wish_formed", none)) := funD_fd (T.c.def_ 10 (d := d_wish_formed) rfl)
theorem kp_wish_formed (T : Txt w K mg) : PySem.W.keepIn K (.ref (He.fAd K ("wish_formed", none))) = true := (F_wish_formed T).kp
theorem sc_wish_formed : FnScope ["thing", "word", "rest", "many", "part"] ["thing"] (defScope s_wish_formed) := ⟨rfl, rfl, rfl, by decide +kernel, rfl, by decide +kernel, by decide +kernel⟩
theorem b_wish_formed (T : Txt w K mg) : Binds K (fdF K ("wish_formed", none)) ["thing"] [] := FunD.bindsN (F_wish_formed T) fun _ _ _ _ _ _ us hl => match us, hl with | [_], _ => rfl
theorem F_wish_flaw (T : Txt w K mg) : FunD K "wish_flaw" "wish_flaw" (defArgs s_wish_flaw) (defBody s_wish_flaw) (defScope s_wish_flaw) (d_wish_flaw.dvs K) [] (He.fAd K ("wish_flaw", none)) (fdF K ("wish_flaw", none)) := funD_fd (T.c.def_ 11 (d := d_wish_flaw) rfl)
theorem kp_wish_flaw (T : Txt w K mg) : PySem.W.keepIn K (.ref (He.fAd K ("wish_flaw", none))) = true := (F_wish_flaw T).kp
theorem sc_wish_flaw : FnScope ["thing"] ["thing"] (defScope s_wish_flaw) := ⟨rfl, rfl, rfl, by decide +kernel, rfl, by decide +kernel, by decide +kernel⟩
theorem b_wish_flaw (T : Txt w K mg) : Binds K (fdF K ("wish_flaw", none)) ["thing"] [] := FunD.bindsN (F_wish_flaw T) fun _ _ _ _ _ _ us hl => match us, hl with | [_], _ => rfl
theorem F_need_wish (T : Txt w K mg) : FunD K "need_wish" "need_wish" (defArgs s_need_wish) (defBody s_need_wish) (defScope s_need_wish) (d_need_wish.dvs K) [] (He.fAd K ("need_wish", none)) (fdF K ("need_wish", none)) := funD_fd (T.c.def_ 12 (d := d_need_wish) rfl)
theorem kp_need_wish (T : Txt w K mg) : PySem.W.keepIn K (.ref (He.fAd K ("need_wish", none))) = true := (F_need_wish T).kp
theorem sc_need_wish : FnScope ["thing", "flaw"] ["thing"] (defScope s_need_wish) := ⟨rfl, rfl, rfl, by decide +kernel, rfl, by decide +kernel, by decide +kernel⟩
theorem b_need_wish (T : Txt w K mg) : Binds K (fdF K ("need_wish", none)) ["thing"] [] := FunD.bindsN (F_need_wish T) fun _ _ _ _ _ _ us hl => match us, hl with | [_], _ => rfl
theorem F_pattern_so (T : Txt w K mg) : FunD K "pattern_so" "pattern_so" (defArgs s_pattern_so) (defBody s_pattern_so) (defScope s_pattern_so) (d_pattern_so.dvs K) [] (He.fAd K ("pattern_so", none)) (fdF K ("pattern_so", none)) := funD_fd (T.c.def_ 13 (d := d_pattern_so) rfl)
theorem kp_pattern_so (T : Txt w K mg) : PySem.W.keepIn K (.ref (He.fAd K ("pattern_so", none))) = true := (F_pattern_so T).kp
theorem sc_pattern_so : FnScope ["pattern", "word", "rest", "part"] ["pattern"] (defScope s_pattern_so) := ⟨rfl, rfl, rfl, by decide +kernel, rfl, by decide +kernel, by decide +kernel⟩
theorem b_pattern_so (T : Txt w K mg) : Binds K (fdF K ("pattern_so", none)) ["pattern"] [] := FunD.bindsN (F_pattern_so T) fun _ _ _ _ _ _ us hl => match us, hl with | [_], _ => rfl
theorem F_wish_so (T : Txt w K mg) : FunD K "wish_so" "wish_so" (defArgs s_wish_so) (defBody s_wish_so) (defScope s_wish_so) (d_wish_so.dvs K) [] (He.fAd K ("wish_so", none)) (fdF K ("wish_so", none)) := funD_fd (T.c.def_ 14 (d := d_wish_so) rfl)
theorem kp_wish_so (T : Txt w K mg) : PySem.W.keepIn K (.ref (He.fAd K ("wish_so", none))) = true := (F_wish_so T).kp
theorem sc_wish_so : FnScope ["wish", "word", "rest", "found", "shape", "thing"] ["wish"] (defScope s_wish_so) := ⟨rfl, rfl, rfl, by decide +kernel, rfl, by decide +kernel, by decide +kernel⟩
theorem b_wish_so (T : Txt w K mg) : Binds K (fdF K ("wish_so", none)) ["wish"] [] := FunD.bindsN (F_wish_so T) fun _ _ _ _ _ _ us hl => match us, hl with | [_], _ => rfl
theorem F_pattern_text (T : Txt w K mg) : FunD K "pattern_text" "pattern_text" (defArgs s_pattern_text) (defBody s_pattern_text) (defScope s_pattern_text) (d_pattern_text.dvs K) [] (He.fAd K ("pattern_text", none)) (fdF K ("pattern_text", none)) := funD_fd (T.c.def_ 15 (d := d_pattern_text) rfl)
theorem kp_pattern_text (T : Txt w K mg) : PySem.W.keepIn K (.ref (He.fAd K ("pattern_text", none))) = true := (F_pattern_text T).kp
theorem sc_pattern_text : FnScope ["pattern"] ["pattern"] (defScope s_pattern_text) := ⟨rfl, rfl, rfl, by decide +kernel, rfl, by decide +kernel, by decide +kernel⟩
theorem b_pattern_text (T : Txt w K mg) : Binds K (fdF K ("pattern_text", none)) ["pattern"] [] := FunD.bindsN (F_pattern_text T) fun _ _ _ _ _ _ us hl => match us, hl with | [_], _ => rfl
theorem F_wish_text (T : Txt w K mg) : FunD K "wish_text" "wish_text" (defArgs s_wish_text) (defBody s_wish_text) (defScope s_wish_text) (d_wish_text.dvs K) [] (He.fAd K ("wish_text", none)) (fdF K ("wish_text", none)) := funD_fd (T.c.def_ 16 (d := d_wish_text) rfl)
theorem kp_wish_text (T : Txt w K mg) : PySem.W.keepIn K (.ref (He.fAd K ("wish_text", none))) = true := (F_wish_text T).kp
theorem sc_wish_text : FnScope ["wish"] ["wish"] (defScope s_wish_text) := ⟨rfl, rfl, rfl, by decide +kernel, rfl, by decide +kernel, by decide +kernel⟩
theorem b_wish_text (T : Txt w K mg) : Binds K (fdF K ("wish_text", none)) ["wish"] [] := FunD.bindsN (F_wish_text T) fun _ _ _ _ _ _ us hl => match us, hl with | [_], _ => rfl
theorem F_Reader___init__ (T : Txt w K mg) : FunD K "__init__" "Reader.__init__" (defArgs s_Reader___init__) (defBody s_Reader___init__) (defScope s_Reader___init__) (d_Reader___init__.dvs K) [] (He.fAd K ("Reader", some "__init__")) (fdF K ("Reader", some "__init__")) := funD_fd (T.c.def_ 17 (d := d_Reader___init__) rfl)
theorem kp_Reader___init__ (T : Txt w K mg) : PySem.W.keepIn K (.ref (He.fAd K ("Reader", some "__init__"))) = true := (F_Reader___init__ T).kp
theorem sc_Reader___init__ : FnScope ["self", "text"] ["self", "text"] (defScope s_Reader___init__) := ⟨rfl, rfl, rfl, by decide +kernel, rfl, by decide +kernel, by decide +kernel⟩
theorem b_Reader___init__ (T : Txt w K mg) : Binds K (fdF K ("Reader", some "__init__")) ["self", "text"] [] := FunD.bindsN (F_Reader___init__ T) fun _ _ _ _ _ _ us hl => match us, hl with | [_, _], _ => rfl
theorem F_Reader_sign (T : Txt w K mg) : FunD K "sign" "Reader.sign" (defArgs s_Reader_sign) (defBody s_Reader_sign) (defScope s_Reader_sign) (d_Reader_sign.dvs K) [] (He.fAd K ("Reader", some "sign")) (fdF K ("Reader", some "sign")) := funD_fd (T.c.def_ 18 (d := d_Reader_sign) rfl)
theorem kp_Reader_sign (T : Txt w K mg) : PySem.W.keepIn K (.ref (He.fAd K ("Reader", some "sign"))) = true := (F_Reader_sign T).kp
theorem sc_Reader_sign : FnScope ["self"] ["self"] (defScope s_Reader_sign) := ⟨rfl, rfl, rfl, by decide +kernel, rfl, by decide +kernel, by decide +kernel⟩
theorem b_Reader_sign (T : Txt w K mg) : Binds K (fdF K ("Reader", some "sign")) ["self"] [] := FunD.bindsN (F_Reader_sign T) fun _ _ _ _ _ _ us hl => match us, hl with | [_], _ => rfl
theorem F_Reader_one_of (T : Txt w K mg) : FunD K "one_of" "Reader.one_of" (defArgs s_Reader_one_of) (defBody s_Reader_one_of) (defScope s_Reader_one_of) (d_Reader_one_of.dvs K) [] (He.fAd K ("Reader", some "one_of")) (fdF K ("Reader", some "one_of")) := funD_fd (T.c.def_ 19 (d := d_Reader_one_of) rfl)
theorem kp_Reader_one_of (T : Txt w K mg) : PySem.W.keepIn K (.ref (He.fAd K ("Reader", some "one_of"))) = true := (F_Reader_one_of T).kp
theorem sc_Reader_one_of : FnScope ["self", "signs", "found"] ["self", "signs"] (defScope s_Reader_one_of) := ⟨rfl, rfl, rfl, by decide +kernel, rfl, by decide +kernel, by decide +kernel⟩
theorem b_Reader_one_of (T : Txt w K mg) : Binds K (fdF K ("Reader", some "one_of")) ["self", "signs"] [] := FunD.bindsN (F_Reader_one_of T) fun _ _ _ _ _ _ us hl => match us, hl with | [_, _], _ => rfl
theorem F_Reader_begin (T : Txt w K mg) : FunD K "begin" "Reader.begin" (defArgs s_Reader_begin) (defBody s_Reader_begin) (defScope s_Reader_begin) (d_Reader_begin.dvs K) [] (He.fAd K ("Reader", some "begin")) (fdF K ("Reader", some "begin")) := funD_fd (T.c.def_ 20 (d := d_Reader_begin) rfl)
theorem kp_Reader_begin (T : Txt w K mg) : PySem.W.keepIn K (.ref (He.fAd K ("Reader", some "begin"))) = true := (F_Reader_begin T).kp
theorem sc_Reader_begin : FnScope ["self", "deep"] ["self", "deep"] (defScope s_Reader_begin) := ⟨rfl, rfl, rfl, by decide +kernel, rfl, by decide +kernel, by decide +kernel⟩
theorem b_Reader_begin (T : Txt w K mg) : Binds K (fdF K ("Reader", some "begin")) ["self", "deep"] [] := FunD.bindsN (F_Reader_begin T) fun _ _ _ _ _ _ us hl => match us, hl with | [_, _], _ => rfl
theorem F_Reader_pattern (T : Txt w K mg) : FunD K "pattern" "Reader.pattern" (defArgs s_Reader_pattern) (defBody s_Reader_pattern) (defScope s_Reader_pattern) (d_Reader_pattern.dvs K) [] (He.fAd K ("Reader", some "pattern")) (fdF K ("Reader", some "pattern")) := funD_fd (T.c.def_ 21 (d := d_Reader_pattern) rfl)
theorem kp_Reader_pattern (T : Txt w K mg) : PySem.W.keepIn K (.ref (He.fAd K ("Reader", some "pattern"))) = true := (F_Reader_pattern T).kp
theorem sc_Reader_pattern : FnScope ["self", "deep", "begun", "found", "word", "parts"] ["self", "deep"] (defScope s_Reader_pattern) := ⟨rfl, rfl, rfl, by decide +kernel, rfl, by decide +kernel, by decide +kernel⟩
theorem b_Reader_pattern (T : Txt w K mg) : Binds K (fdF K ("Reader", some "pattern")) ["self", "deep"] [] := FunD.bindsN (F_Reader_pattern T) fun _ _ _ _ _ _ us hl => match us, hl with | [_, _], _ => rfl
theorem F_Reader_read_word (T : Txt w K mg) : FunD K "read_word" "Reader.read_word" (defArgs s_Reader_read_word) (defBody s_Reader_read_word) (defScope s_Reader_read_word) (d_Reader_read_word.dvs K) [] (He.fAd K ("Reader", some "read_word")) (fdF K ("Reader", some "read_word")) := funD_fd (T.c.def_ 22 (d := d_Reader_read_word) rfl)
theorem kp_Reader_read_word (T : Txt w K mg) : PySem.W.keepIn K (.ref (He.fAd K ("Reader", some "read_word"))) = true := (F_Reader_read_word T).kp
theorem sc_Reader_read_word : FnScope ["self", "deep", "found", "word"] ["self", "deep"] (defScope s_Reader_read_word) := ⟨rfl, rfl, rfl, by decide +kernel, rfl, by decide +kernel, by decide +kernel⟩
theorem b_Reader_read_word (T : Txt w K mg) : Binds K (fdF K ("Reader", some "read_word")) ["self", "deep"] [] := FunD.bindsN (F_Reader_read_word T) fun _ _ _ _ _ _ us hl => match us, hl with | [_, _], _ => rfl
theorem F_Reader_thing (T : Txt w K mg) : FunD K "thing" "Reader.thing" (defArgs s_Reader_thing) (defBody s_Reader_thing) (defScope s_Reader_thing) (d_Reader_thing.dvs K) [] (He.fAd K ("Reader", some "thing")) (fdF K ("Reader", some "thing")) := funD_fd (T.c.def_ 23 (d := d_Reader_thing) rfl)
theorem kp_Reader_thing (T : Txt w K mg) : PySem.W.keepIn K (.ref (He.fAd K ("Reader", some "thing"))) = true := (F_Reader_thing T).kp
theorem sc_Reader_thing : FnScope ["self", "shape", "deep", "found"] ["self", "shape", "deep"] (defScope s_Reader_thing) := ⟨rfl, rfl, rfl, by decide +kernel, rfl, by decide +kernel, by decide +kernel⟩
theorem b_Reader_thing (T : Txt w K mg) : Binds K (fdF K ("Reader", some "thing")) ["self", "shape", "deep"] [] := FunD.bindsN (F_Reader_thing T) fun _ _ _ _ _ _ us hl => match us, hl with | [_, _, _], _ => rfl
theorem F_Reader_wish (T : Txt w K mg) : FunD K "wish" "Reader.wish" (defArgs s_Reader_wish) (defBody s_Reader_wish) (defScope s_Reader_wish) (d_Reader_wish.dvs K) [] (He.fAd K ("Reader", some "wish")) (fdF K ("Reader", some "wish")) := funD_fd (T.c.def_ 24 (d := d_Reader_wish) rfl)
theorem kp_Reader_wish (T : Txt w K mg) : PySem.W.keepIn K (.ref (He.fAd K ("Reader", some "wish"))) = true := (F_Reader_wish T).kp
theorem sc_Reader_wish : FnScope ["self", "deep", "word", "things", "shape"] ["self", "deep"] (defScope s_Reader_wish) := ⟨rfl, rfl, rfl, by decide +kernel, rfl, by decide +kernel, by decide +kernel⟩
theorem b_Reader_wish (T : Txt w K mg) : Binds K (fdF K ("Reader", some "wish")) ["self", "deep"] [] := FunD.bindsN (F_Reader_wish T) fun _ _ _ _ _ _ us hl => match us, hl with | [_, _], _ => rfl
theorem F_Reader_end (T : Txt w K mg) : FunD K "end" "Reader.end" (defArgs s_Reader_end) (defBody s_Reader_end) (defScope s_Reader_end) (d_Reader_end.dvs K) [] (He.fAd K ("Reader", some "end")) (fdF K ("Reader", some "end")) := funD_fd (T.c.def_ 25 (d := d_Reader_end) rfl)
theorem kp_Reader_end (T : Txt w K mg) : PySem.W.keepIn K (.ref (He.fAd K ("Reader", some "end"))) = true := (F_Reader_end T).kp
theorem sc_Reader_end : FnScope ["self"] ["self"] (defScope s_Reader_end) := ⟨rfl, rfl, rfl, by decide +kernel, rfl, by decide +kernel, by decide +kernel⟩
theorem b_Reader_end (T : Txt w K mg) : Binds K (fdF K ("Reader", some "end")) ["self"] [] := FunD.bindsN (F_Reader_end T) fun _ _ _ _ _ _ us hl => match us, hl with | [_], _ => rfl
theorem F_read_pattern (T : Txt w K mg) : FunD K "read_pattern" "read_pattern" (defArgs s_read_pattern) (defBody s_read_pattern) (defScope s_read_pattern) (d_read_pattern.dvs K) [] (He.fAd K ("read_pattern", none)) (fdF K ("read_pattern", none)) := funD_fd (T.c.def_ 26 (d := d_read_pattern) rfl)
theorem kp_read_pattern (T : Txt w K mg) : PySem.W.keepIn K (.ref (He.fAd K ("read_pattern", none))) = true := (F_read_pattern T).kp
theorem sc_read_pattern : FnScope ["text", "reader", "found"] ["text"] (defScope s_read_pattern) := ⟨rfl, rfl, rfl, by decide +kernel, rfl, by decide +kernel, by decide +kernel⟩
theorem b_read_pattern (T : Txt w K mg) : Binds K (fdF K ("read_pattern", none)) ["text"] [] := FunD.bindsN (F_read_pattern T) fun _ _ _ _ _ _ us hl => match us, hl with | [_], _ => rfl
theorem F_read_wish (T : Txt w K mg) : FunD K "read_wish" "read_wish" (defArgs s_read_wish) (defBody s_read_wish) (defScope s_read_wish) (d_read_wish.dvs K) [] (He.fAd K ("read_wish", none)) (fdF K ("read_wish", none)) := funD_fd (T.c.def_ 27 (d := d_read_wish) rfl)
theorem kp_read_wish (T : Txt w K mg) : PySem.W.keepIn K (.ref (He.fAd K ("read_wish", none))) = true := (F_read_wish T).kp
theorem sc_read_wish : FnScope ["text", "reader", "found"] ["text"] (defScope s_read_wish) := ⟨rfl, rfl, rfl, by decide +kernel, rfl, by decide +kernel, by decide +kernel⟩
theorem b_read_wish (T : Txt w K mg) : Binds K (fdF K ("read_wish", none)) ["text"] [] := FunD.bindsN (F_read_wish T) fun _ _ _ _ _ _ us hl => match us, hl with | [_], _ => rfl
theorem F__law_bag (T : Txt w K mg) : FunD K "_law_bag" "_law_bag" (defArgs s__law_bag) (defBody s__law_bag) (defScope s__law_bag) (d__law_bag.dvs K) [] (He.fAd K ("_law_bag", none)) (fdF K ("_law_bag", none)) := funD_fd (T.c.def_ 28 (d := d__law_bag) rfl)
theorem kp__law_bag (T : Txt w K mg) : PySem.W.keepIn K (.ref (He.fAd K ("_law_bag", none))) = true := (F__law_bag T).kp
theorem sc__law_bag : FnScope ["_law_script"] ["_law_script"] (defScope s__law_bag) := ⟨rfl, rfl, rfl, by decide +kernel, rfl, by decide +kernel, by decide +kernel⟩
theorem b__law_bag (T : Txt w K mg) : Binds K (fdF K ("_law_bag", none)) ["_law_script"] [] := FunD.bindsN (F__law_bag T) fun _ _ _ _ _ _ us hl => match us, hl with | [_], _ => rfl
theorem F__law_pick (T : Txt w K mg) : FunD K "_law_pick" "_law_pick" (defArgs s__law_pick) (defBody s__law_pick) (defScope s__law_pick) (d__law_pick.dvs K) [] (He.fAd K ("_law_pick", none)) (fdF K ("_law_pick", none)) := funD_fd (T.c.def_ 29 (d := d__law_pick) rfl)
theorem kp__law_pick (T : Txt w K mg) : PySem.W.keepIn K (.ref (He.fAd K ("_law_pick", none))) = true := (F__law_pick T).kp
theorem sc__law_pick : FnScope ["_law_bag_here", "_law_top", "_law_cell", "_law_digit"] ["_law_bag_here", "_law_top"] (defScope s__law_pick) := ⟨rfl, rfl, rfl, by decide +kernel, rfl, by decide +kernel, by decide +kernel⟩
theorem b__law_pick (T : Txt w K mg) : Binds K (fdF K ("_law_pick", none)) ["_law_bag_here", "_law_top"] [] := FunD.bindsN (F__law_pick T) fun _ _ _ _ _ _ us hl => match us, hl with | [_, _], _ => rfl
theorem F__law_of (T : Txt w K mg) : FunD K "_law_of" "_law_of" (defArgs s__law_of) (defBody s__law_of) (defScope s__law_of) (d__law_of.dvs K) [] (He.fAd K ("_law_of", none)) (fdF K ("_law_of", none)) := funD_fd (T.c.def_ 30 (d := d__law_of) rfl)
theorem kp__law_of (T : Txt w K mg) : PySem.W.keepIn K (.ref (He.fAd K ("_law_of", none))) = true := (F__law_of T).kp
theorem sc__law_of : FnScope ["_law_bag_here", "_law_some"] ["_law_bag_here", "_law_some"] (defScope s__law_of) := ⟨rfl, rfl, rfl, by decide +kernel, rfl, by decide +kernel, by decide +kernel⟩
theorem b__law_of (T : Txt w K mg) : Binds K (fdF K ("_law_of", none)) ["_law_bag_here", "_law_some"] [] := FunD.bindsN (F__law_of T) fun _ _ _ _ _ _ us hl => match us, hl with | [_, _], _ => rfl
theorem F__law_shuffled (T : Txt w K mg) : FunD K "_law_shuffled" "_law_shuffled" (defArgs s__law_shuffled) (defBody s__law_shuffled) (defScope s__law_shuffled) (d__law_shuffled.dvs K) [] (He.fAd K ("_law_shuffled", none)) (fdF K ("_law_shuffled", none)) := funD_fd (T.c.def_ 31 (d := d__law_shuffled) rfl)
theorem kp__law_shuffled (T : Txt w K mg) : PySem.W.keepIn K (.ref (He.fAd K ("_law_shuffled", none))) = true := (F__law_shuffled T).kp
theorem sc__law_shuffled : FnScope ["_law_bag_here", "_law_some", "_law_left", "_law_found", "_law_step"] ["_law_bag_here", "_law_some"] (defScope s__law_shuffled) := ⟨rfl, rfl, rfl, by decide +kernel, rfl, by decide +kernel, by decide +kernel⟩
theorem b__law_shuffled (T : Txt w K mg) : Binds K (fdF K ("_law_shuffled", none)) ["_law_bag_here", "_law_some"] [] := FunD.bindsN (F__law_shuffled T) fun _ _ _ _ _ _ us hl => match us, hl with | [_, _], _ => rfl
theorem F__law_same (T : Txt w K mg) : FunD K "_law_same" "_law_same" (defArgs s__law_same) (defBody s__law_same) (defScope s__law_same) (d__law_same.dvs K) [] (He.fAd K ("_law_same", none)) (fdF K ("_law_same", none)) := funD_fd (T.c.def_ 32 (d := d__law_same) rfl)
theorem kp__law_same (T : Txt w K mg) : PySem.W.keepIn K (.ref (He.fAd K ("_law_same", none))) = true := (F__law_same T).kp
theorem sc__law_same : FnScope ["_law_found", "_law_due", "_law_spot"] ["_law_found", "_law_due"] (defScope s__law_same) := ⟨rfl, rfl, rfl, by decide +kernel, rfl, by decide +kernel, by decide +kernel⟩
theorem b__law_same (T : Txt w K mg) : Binds K (fdF K ("_law_same", none)) ["_law_found", "_law_due"] [] := FunD.bindsN (F__law_same T) fun _ _ _ _ _ _ us hl => match us, hl with | [_, _], _ => rfl
theorem F__law_signs (T : Txt w K mg) : FunD K "_law_signs" "_law_signs" (defArgs s__law_signs) (defBody s__law_signs) (defScope s__law_signs) (d__law_signs.dvs K) [] (He.fAd K ("_law_signs", none)) (fdF K ("_law_signs", none)) := funD_fd (T.c.def_ 33 (d := d__law_signs) rfl)
theorem kp__law_signs (T : Txt w K mg) : PySem.W.keepIn K (.ref (He.fAd K ("_law_signs", none))) = true := (F__law_signs T).kp
theorem sc__law_signs : FnScope ["_law_bag_here", "_law_cap", "_law_left"] ["_law_bag_here", "_law_cap"] (defScope s__law_signs) := ⟨rfl, rfl, rfl, by decide +kernel, rfl, by decide +kernel, by decide +kernel⟩
theorem b__law_signs (T : Txt w K mg) : Binds K (fdF K ("_law_signs", none)) ["_law_bag_here", "_law_cap"] [] := FunD.bindsN (F__law_signs T) fun _ _ _ _ _ _ us hl => match us, hl with | [_, _], _ => rfl
theorem F__law_pattern (T : Txt w K mg) : FunD K "_law_pattern" "_law_pattern" (defArgs s__law_pattern) (defBody s__law_pattern) (defScope s__law_pattern) (d__law_pattern.dvs K) [] (He.fAd K ("_law_pattern", none)) (fdF K ("_law_pattern", none)) := funD_fd (T.c.def_ 34 (d := d__law_pattern) rfl)
theorem kp__law_pattern (T : Txt w K mg) : PySem.W.keepIn K (.ref (He.fAd K ("_law_pattern", none))) = true := (F__law_pattern T).kp
theorem sc__law_pattern : FnScope ["_law_bag_here", "_law_kinds", "_law_room", "_law_way", "_law_half", "_law_first"] ["_law_bag_here", "_law_kinds", "_law_room"] (defScope s__law_pattern) := ⟨rfl, rfl, rfl, by decide +kernel, rfl, by decide +kernel, by decide +kernel⟩
theorem b__law_pattern (T : Txt w K mg) : Binds K (fdF K ("_law_pattern", none)) ["_law_bag_here", "_law_kinds", "_law_room"] [] := FunD.bindsN (F__law_pattern T) fun _ _ _ _ _ _ us hl => match us, hl with | [_, _, _], _ => rfl
theorem F__law_inner (T : Txt w K mg) : FunD K "_law_inner" "_law_inner" (defArgs s__law_inner) (defBody s__law_inner) (defScope s__law_inner) (d__law_inner.dvs K) [] (He.fAd K ("_law_inner", none)) (fdF K ("_law_inner", none)) := funD_fd (T.c.def_ 35 (d := d__law_inner) rfl)
theorem kp__law_inner (T : Txt w K mg) : PySem.W.keepIn K (.ref (He.fAd K ("_law_inner", none))) = true := (F__law_inner T).kp
theorem sc__law_inner : FnScope ["_law_thing", "_law_part"] ["_law_thing"] (defScope s__law_inner) := ⟨rfl, rfl, rfl, by decide +kernel, rfl, by decide +kernel, by decide +kernel⟩
theorem b__law_inner (T : Txt w K mg) : Binds K (fdF K ("_law_inner", none)) ["_law_thing"] [] := FunD.bindsN (F__law_inner T) fun _ _ _ _ _ _ us hl => match us, hl with | [_], _ => rfl
theorem F__law_parts (T : Txt w K mg) : FunD K "_law_parts" "_law_parts" (defArgs s__law_parts) (defBody s__law_parts) (defScope s__law_parts) (d__law_parts.dvs K) [] (He.fAd K ("_law_parts", none)) (fdF K ("_law_parts", none)) := funD_fd (T.c.def_ 36 (d := d__law_parts) rfl)
theorem kp__law_parts (T : Txt w K mg) : PySem.W.keepIn K (.ref (He.fAd K ("_law_parts", none))) = true := (F__law_parts T).kp
theorem sc__law_parts : FnScope ["_law_thing", "_law_part"] ["_law_thing"] (defScope s__law_parts) := ⟨rfl, rfl, rfl, by decide +kernel, rfl, by decide +kernel, by decide +kernel⟩
theorem b__law_parts (T : Txt w K mg) : Binds K (fdF K ("_law_parts", none)) ["_law_thing"] [] := FunD.bindsN (F__law_parts T) fun _ _ _ _ _ _ us hl => match us, hl with | [_], _ => rfl
theorem F__law_deep (T : Txt w K mg) : FunD K "_law_deep" "_law_deep" (defArgs s__law_deep) (defBody s__law_deep) (defScope s__law_deep) (d__law_deep.dvs K) [] (He.fAd K ("_law_deep", none)) (fdF K ("_law_deep", none)) := funD_fd (T.c.def_ 37 (d := d__law_deep) rfl)
theorem kp__law_deep (T : Txt w K mg) : PySem.W.keepIn K (.ref (He.fAd K ("_law_deep", none))) = true := (F__law_deep T).kp
theorem sc__law_deep : FnScope ["_law_thing", "_law_part"] ["_law_thing"] (defScope s__law_deep) := ⟨rfl, rfl, rfl, by decide +kernel, rfl, by decide +kernel, by decide +kernel⟩
theorem b__law_deep (T : Txt w K mg) : Binds K (fdF K ("_law_deep", none)) ["_law_thing"] [] := FunD.bindsN (F__law_deep T) fun _ _ _ _ _ _ us hl => match us, hl with | [_], _ => rfl
theorem F__law_cut_deep (T : Txt w K mg) : FunD K "_law_cut_deep" "_law_cut_deep" (defArgs s__law_cut_deep) (defBody s__law_cut_deep) (defScope s__law_cut_deep) (d__law_cut_deep.dvs K) [] (He.fAd K ("_law_cut_deep", none)) (fdF K ("_law_cut_deep", none)) := funD_fd (T.c.def_ 38 (d := d__law_cut_deep) rfl)
theorem kp__law_cut_deep (T : Txt w K mg) : PySem.W.keepIn K (.ref (He.fAd K ("_law_cut_deep", none))) = true := (F__law_cut_deep T).kp
theorem sc__law_cut_deep : FnScope ["_law_pattern_here", "_law_deep_here", "_law_part"] ["_law_pattern_here", "_law_deep_here"] (defScope s__law_cut_deep) := ⟨rfl, rfl, rfl, by decide +kernel, rfl, by decide +kernel, by decide +kernel⟩
theorem b__law_cut_deep (T : Txt w K mg) : Binds K (fdF K ("_law_cut_deep", none)) ["_law_pattern_here", "_law_deep_here"] [] := FunD.bindsN (F__law_cut_deep T) fun _ _ _ _ _ _ us hl => match us, hl with | [_, _], _ => rfl
theorem F__law_size_flaw (T : Txt w K mg) : FunD K "_law_size_flaw" "_law_size_flaw" (defArgs s__law_size_flaw) (defBody s__law_size_flaw) (defScope s__law_size_flaw) (d__law_size_flaw.dvs K) [] (He.fAd K ("_law_size_flaw", none)) (fdF K ("_law_size_flaw", none)) := funD_fd (T.c.def_ 39 (d := d__law_size_flaw) rfl)
theorem kp__law_size_flaw (T : Txt w K mg) : PySem.W.keepIn K (.ref (He.fAd K ("_law_size_flaw", none))) = true := (F__law_size_flaw T).kp
theorem sc__law_size_flaw : FnScope ["_law_thing"] ["_law_thing"] (defScope s__law_size_flaw) := ⟨rfl, rfl, rfl, by decide +kernel, rfl, by decide +kernel, by decide +kernel⟩
theorem b__law_size_flaw (T : Txt w K mg) : Binds K (fdF K ("_law_size_flaw", none)) ["_law_thing"] [] := FunD.bindsN (F__law_size_flaw T) fun _ _ _ _ _ _ us hl => match us, hl with | [_], _ => rfl
theorem F__law_wish (T : Txt w K mg) : FunD K "_law_wish" "_law_wish" (defArgs s__law_wish) (defBody s__law_wish) (defScope s__law_wish) (d__law_wish.dvs K) [] (He.fAd K ("_law_wish", none)) (fdF K ("_law_wish", none)) := funD_fd (T.c.def_ 40 (d := d__law_wish) rfl)
theorem kp__law_wish (T : Txt w K mg) : PySem.W.keepIn K (.ref (He.fAd K ("_law_wish", none))) = true := (F__law_wish T).kp
theorem sc__law_wish : FnScope ["_law_bag_here", "_law_kinds", "_law_room", "_law_way", "_law_inner_here", "_law_k"] ["_law_bag_here", "_law_kinds", "_law_room"] (defScope s__law_wish) := ⟨rfl, rfl, rfl, by decide +kernel, rfl, by decide +kernel, by decide +kernel⟩
theorem b__law_wish (T : Txt w K mg) : Binds K (fdF K ("_law_wish", none)) ["_law_bag_here", "_law_kinds", "_law_room"] [] := FunD.bindsN (F__law_wish T) fun _ _ _ _ _ _ us hl => match us, hl with | [_, _, _], _ => rfl
theorem F__law_plain_wish (T : Txt w K mg) : FunD K "_law_plain_wish" "_law_plain_wish" (defArgs s__law_plain_wish) (defBody s__law_plain_wish) (defScope s__law_plain_wish) (d__law_plain_wish.dvs K) [] (He.fAd K ("_law_plain_wish", none)) (fdF K ("_law_plain_wish", none)) := funD_fd (T.c.def_ 41 (d := d__law_plain_wish) rfl)
theorem kp__law_plain_wish (T : Txt w K mg) : PySem.W.keepIn K (.ref (He.fAd K ("_law_plain_wish", none))) = true := (F__law_plain_wish T).kp
theorem sc__law_plain_wish : FnScope ["_law_bag_here", "_law_kinds", "_law_room", "_law_way", "_law_pattern_here"] ["_law_bag_here", "_law_kinds", "_law_room"] (defScope s__law_plain_wish) := ⟨rfl, rfl, rfl, by decide +kernel, rfl, by decide +kernel, by decide +kernel⟩
theorem b__law_plain_wish (T : Txt w K mg) : Binds K (fdF K ("_law_plain_wish", none)) ["_law_bag_here", "_law_kinds", "_law_room"] [] := FunD.bindsN (F__law_plain_wish T) fun _ _ _ _ _ _ us hl => match us, hl with | [_, _, _], _ => rfl
theorem F__law_said_pattern (T : Txt w K mg) : FunD K "_law_said_pattern" "_law_said_pattern" (defArgs s__law_said_pattern) (defBody s__law_said_pattern) (defScope s__law_said_pattern) (d__law_said_pattern.dvs K) [] (He.fAd K ("_law_said_pattern", none)) (fdF K ("_law_said_pattern", none)) := funD_fd (T.c.def_ 42 (d := d__law_said_pattern) rfl)
theorem kp__law_said_pattern (T : Txt w K mg) : PySem.W.keepIn K (.ref (He.fAd K ("_law_said_pattern", none))) = true := (F__law_said_pattern T).kp
theorem sc__law_said_pattern : FnScope ["_law_pattern_here", "_law_parts_here", "_law_one"] ["_law_pattern_here"] (defScope s__law_said_pattern) := ⟨rfl, rfl, rfl, by decide +kernel, rfl, by decide +kernel, by decide +kernel⟩
theorem b__law_said_pattern (T : Txt w K mg) : Binds K (fdF K ("_law_said_pattern", none)) ["_law_pattern_here"] [] := FunD.bindsN (F__law_said_pattern T) fun _ _ _ _ _ _ us hl => match us, hl with | [_], _ => rfl
theorem F__law_said_wish (T : Txt w K mg) : FunD K "_law_said_wish" "_law_said_wish" (defArgs s__law_said_wish) (defBody s__law_said_wish) (defScope s__law_said_wish) (d__law_said_wish.dvs K) [] (He.fAd K ("_law_said_wish", none)) (fdF K ("_law_said_wish", none)) := funD_fd (T.c.def_ 43 (d := d__law_said_wish) rfl)
theorem kp__law_said_wish (T : Txt w K mg) : PySem.W.keepIn K (.ref (He.fAd K ("_law_said_wish", none))) = true := (F__law_said_wish T).kp
theorem sc__law_said_wish : FnScope ["_law_wish_here", "_law_found", "_law_part"] ["_law_wish_here"] (defScope s__law_said_wish) := ⟨rfl, rfl, rfl, by decide +kernel, rfl, by decide +kernel, by decide +kernel⟩
theorem b__law_said_wish (T : Txt w K mg) : Binds K (fdF K ("_law_said_wish", none)) ["_law_wish_here"] [] := FunD.bindsN (F__law_said_wish T) fun _ _ _ _ _ _ us hl => match us, hl with | [_], _ => rfl
theorem F__law_is_pattern (T : Txt w K mg) : FunD K "_law_is_pattern" "_law_is_pattern" (defArgs s__law_is_pattern) (defBody s__law_is_pattern) (defScope s__law_is_pattern) (d__law_is_pattern.dvs K) [] (He.fAd K ("_law_is_pattern", none)) (fdF K ("_law_is_pattern", none)) := funD_fd (T.c.def_ 44 (d := d__law_is_pattern) rfl)
theorem kp__law_is_pattern (T : Txt w K mg) : PySem.W.keepIn K (.ref (He.fAd K ("_law_is_pattern", none))) = true := (F__law_is_pattern T).kp
theorem sc__law_is_pattern : FnScope ["_law_thing"] ["_law_thing"] (defScope s__law_is_pattern) := ⟨rfl, rfl, rfl, by decide +kernel, rfl, by decide +kernel, by decide +kernel⟩
theorem b__law_is_pattern (T : Txt w K mg) : Binds K (fdF K ("_law_is_pattern", none)) ["_law_thing"] [] := FunD.bindsN (F__law_is_pattern T) fun _ _ _ _ _ _ us hl => match us, hl with | [_], _ => rfl
theorem F_law (T : Txt w K mg) : FunD K "law" "law" (defArgs s_law) (defBody s_law) (defScope s_law) (d_law.dvs K) [] (He.fAd K ("law", none)) (fdF K ("law", none)) := funD_fd (T.c.def_ 45 (d := d_law) rfl)
theorem kp_law (T : Txt w K mg) : PySem.W.keepIn K (.ref (He.fAd K ("law", none))) = true := (F_law T).kp
theorem sc_law : FnScope ["_law_script", "_law_bag_here", "_law_turn", "_law_kinds", "_law_pattern_here", "_law_text", "_law_wish_here"] ["_law_script"] (defScope s_law) := ⟨rfl, rfl, rfl, by decide +kernel, rfl, by decide +kernel, by decide +kernel⟩
theorem b_law (T : Txt w K mg) : Binds K (fdF K ("law", none)) ["_law_script"] [] := FunD.bindsN (F_law T) fun _ _ _ _ _ _ us hl => match us, hl with | [_], _ => rfl
theorem ti_CLOSING (T : Txt w K mg) : tblIs K (He.ga K "CLOSING") [(("then" : Str), V.str "]"), (("or" : Str), V.str "}"), (("again" : Str), V.str ">")] = true := allB_at (i := 0) T.x rfl
theorem td_CLOSING (T : Txt w K mg) : ∃ es n, KDict K w (He.ga K "CLOSING") es n := T.s.tab 0 (t := ("CLOSING", ["then", "or", "again"]))
theorem g_CLOSING (T : Txt w K mg) : mg "CLOSING" = some (.ref (He.ga K "CLOSING")) := let ⟨_, X, G⟩ := T.ex; He.glo_ok X G (T.c.fact 70 (f := .glo "CLOSING") rfl)
theorem ti_FIGURES (T : Txt w K mg) : tblIs K (He.ga K "FIGURES") [(("m" : Str), V.str "123"), (("n" : Str), V.str "234"), (("k" : Str), V.str "abcdefghijklmnopqrstuvwxyz")] = true := allB_at (i := 1) T.x rfl
theorem td_FIGURES (T : Txt w K mg) : ∃ es n, KDict K w (He.ga K "FIGURES") es n := T.s.tab 1 (t := ("FIGURES", ["m", "n", "k"]))
theorem g_FIGURES (T : Txt w K mg) : mg "FIGURES" = some (.ref (He.ga K "FIGURES")) := let ⟨_, X, G⟩ := T.ex; He.glo_ok X G (T.c.fact 71 (f := .glo "FIGURES") rfl)
theorem ti_NESTED (T : Txt w K mg) : tblIs K (He.ga K "NESTED") [(("then" : Str), V.int 2), (("or" : Str), V.int 2), (("again" : Str), V.int 1)] = true := allB_at (i := 2) T.x rfl
theorem td_NESTED (T : Txt w K mg) : ∃ es n, KDict K w (He.ga K "NESTED") es n := T.s.tab 2 (t := ("NESTED", ["then", "or", "again"]))
theorem g_NESTED (T : Txt w K mg) : mg "NESTED" = some (.ref (He.ga K "NESTED")) := let ⟨_, X, G⟩ := T.ex; He.glo_ok X G (T.c.fact 72 (f := .glo "NESTED") rfl)
theorem ti_OPENING (T : Txt w K mg) : tblIs K (He.ga K "OPENING") [(("then" : Str), V.str "["), (("or" : Str), V.str "{"), (("again" : Str), V.str "<")] = true := allB_at (i := 3) T.x rfl
theorem td_OPENING (T : Txt w K mg) : ∃ es n, KDict K w (He.ga K "OPENING") es n := T.s.tab 3 (t := ("OPENING", ["then", "or", "again"]))
theorem g_OPENING (T : Txt w K mg) : mg "OPENING" = some (.ref (He.ga K "OPENING")) := let ⟨_, X, G⟩ := T.ex; He.glo_ok X G (T.c.fact 73 (f := .glo "OPENING") rfl)
theorem ti_PATTERN_SIGNS (T : Txt w K mg) : tblIs K (He.ga K "PATTERN_SIGNS") [(("[" : Str), V.str "then"), (("{" : Str), V.str "or"), (("<" : Str), V.str "again")] = true := allB_at (i := 4) T.x rfl
theorem td_PATTERN_SIGNS (T : Txt w K mg) : ∃ es n, KDict K w (He.ga K "PATTERN_SIGNS") es n := T.s.tab 4 (t := ("PATTERN_SIGNS", ["[", "{", "<"]))
theorem g_PATTERN_SIGNS (T : Txt w K mg) : mg "PATTERN_SIGNS" = some (.ref (He.ga K "PATTERN_SIGNS")) := let ⟨_, X, G⟩ := T.ex; He.glo_ok X G (T.c.fact 74 (f := .glo "PATTERN_SIGNS") rfl)
theorem ti_SHAPES (T : Txt w K mg) : tblIs K (He.ga K "SHAPES") [(("all" : Str), V.str "p"), (("one" : Str), V.str "p"), (("each" : Str), V.str "mp"), (("last" : Str), V.str "kk"), (("turns" : Str), V.str "k"), (("apart" : Str), V.str "n"), (("upon" : Str), V.str "kww"), (("cut" : Str), V.str "kw"), (("both" : Str), V.str "ww"), (("either" : Str), V.str "ww"), (("not" : Str), V.str "w")] = true := allB_at (i := 5) T.x rfl
theorem td_SHAPES (T : Txt w K mg) : ∃ es n, KDict K w (He.ga K "SHAPES") es n := T.s.tab 5 (t := ("SHAPES", ["all", "one", "each", "last", "turns", "apart", "upon", "cut", "both", "either", "not"]))
theorem g_SHAPES (T : Txt w K mg) : mg "SHAPES" = some (.ref (He.ga K "SHAPES")) := let ⟨_, X, G⟩ := T.ex; He.glo_ok X G (T.c.fact 75 (f := .glo "SHAPES") rfl)
theorem mk_Reader (T : Txt w K mg) : Mk K (He.ga K "Reader") (He.fAd K ("Reader", some "__init__")) := He.mkr_ok (T.c.fact 57 (f := .mkr "Reader") rfl)
theorem cl_Reader (T : Txt w K mg) : Cls K (He.ga K "Reader") := He.cls_ok (T.c.fact 58 (f := .cls "Reader") rfl)
theorem me_Reader_pattern (T : Txt w K mg) : Meth K (He.ga K "Reader") "pattern" (He.fAd K ("Reader", some "pattern")) := He.meth_ok (T.c.fact 59 (f := .meth "Reader" "pattern") rfl)
theorem me_Reader_end (T : Txt w K mg) : Meth K (He.ga K "Reader") "end" (He.fAd K ("Reader", some "end")) := He.meth_ok (T.c.fact 60 (f := .meth "Reader" "end") rfl)
theorem na_Reader_signs_left (T : Txt w K mg) : fldOk K (He.ga K "Reader") "signs_left" := He.noat_ok (T.c.fact 61 (f := .noat "Reader" "signs_left") rfl)
theorem na_Reader_at (T : Txt w K mg) : fldOk K (He.ga K "Reader") "at" := He.noat_ok (T.c.fact 62 (f := .noat "Reader" "at") rfl)
theorem na_Reader_parts (T : Txt w K mg) : fldOk K (He.ga K "Reader") "parts" := He.noat_ok (T.c.fact 63 (f := .noat "Reader" "parts") rfl)
theorem me_Reader_one_of (T : Txt w K mg) : Meth K (He.ga K "Reader") "one_of" (He.fAd K ("Reader", some "one_of")) := He.meth_ok (T.c.fact 64 (f := .meth "Reader" "one_of") rfl)
theorem me_Reader_begin (T : Txt w K mg) : Meth K (He.ga K "Reader") "begin" (He.fAd K ("Reader", some "begin")) := He.meth_ok (T.c.fact 65 (f := .meth "Reader" "begin") rfl)
theorem me_Reader_sign (T : Txt w K mg) : Meth K (He.ga K "Reader") "sign" (He.fAd K ("Reader", some "sign")) := He.meth_ok (T.c.fact 66 (f := .meth "Reader" "sign") rfl)
theorem me_Reader_wish (T : Txt w K mg) : Meth K (He.ga K "Reader") "wish" (He.fAd K ("Reader", some "wish")) := He.meth_ok (T.c.fact 67 (f := .meth "Reader" "wish") rfl)
theorem me_Reader_read_word (T : Txt w K mg) : Meth K (He.ga K "Reader") "read_word" (He.fAd K ("Reader", some "read_word")) := He.meth_ok (T.c.fact 68 (f := .meth "Reader" "read_word") rfl)
theorem me_Reader_thing (T : Txt w K mg) : Meth K (He.ga K "Reader") "thing" (He.fAd K ("Reader", some "thing")) := He.meth_ok (T.c.fact 69 (f := .meth "Reader" "thing") rfl)
/-! ### is_number -/
theorem ok_is_number (T : Txt w K mg) : FnOk P w K mg base (L2.CX P w) 1 (He.fAd K ("is_number", none)) (fdF K ("is_number", none)) ["thing"] (spD K mg m_is_number) := by
  refine (F_is_number T).ok (k := 0) sc_is_number (fun vs H Q E h => spD_len h) (fun cdv A outer s H vs Q E hr h => ?_)
  refine ⟨_, (pss_one (ps_ret (pe_and (pe_callB call_isi (by rfl) (fr_isinstance T) (by decide +kernel) (pa_cons (pv 0) (pa_cons (pe_bty (n := "int") (by rfl) (fr_int T) (by decide +kernel)) pa_nil))) (pe_one (pe_not (pe_callB call_isi (by rfl) (fr_isinstance T) (by decide +kernel) (pa_cons (pv 0) (pa_cons (pe_bty (n := "bool") (by rfl) (fr_bool T) (by decide +kernel)) pa_nil)))))))), ?_⟩
  exact spD_run (K := K) (mg := mg) (E := E) (np := 1) (n := 0) rfl (ds_ret (de_and (DE.q (de_CB cd_isi (db_cons dq_var (db_cons (DE.q de_raw) db_nil)))) (de_not (DE.q (de_CB cd_isi (db_cons dq_var (db_cons (DE.q de_raw) db_nil))))))) h
/-! ### is_letter -/
theorem ok_is_letter (T : Txt w K mg) : FnOk P w K mg base (L2.CX P w) 1 (He.fAd K ("is_letter", none)) (fdF K ("is_letter", none)) ["thing", "some"] (spD K mg m_is_letter) := by
  refine (F_is_letter T).ok (k := 0) sc_is_letter (fun vs H Q E h => spD_len h) (fun cdv A outer s H vs Q E hr h => ?_)
  refine ⟨_, (pss_one (ps_ret (pe_and (pe_callB call_isi (by rfl) (fr_isinstance T) (by decide +kernel) (pa_cons (pv 0) (pa_cons (pe_bty (n := "str") (by rfl) (fr_str T) (by decide +kernel)) pa_nil))) (pe_and (pe_cmpR (op_eqD hr.units) (pe_callB call_lenA (by rfl) (fr_len T) (by decide +kernel) (pa_cons (pv 0) pa_nil)) pe_int (nomark _)) (pe_one (pe_cmpR op_inX (pv 0) (pv 1) (by rfl))))))), ?_⟩
  exact spD_run (K := K) (mg := mg) (E := E) (np := 2) (n := 0) rfl (ds_ret (de_and (DE.q (de_CB cd_isi (db_cons dq_var (db_cons (DE.q de_raw) db_nil)))) (de_and (DE.q (de_op od_eq (DE.q (de_CB cd_len (db_cons dq_var db_nil))) (DE.q de_int))) (de_op od_in dq_var dq_var)))) h
/-! ### pattern_formed -/
theorem ok_pattern_formed (T : Txt w K mg) : ∀ n, FnOk P w K mg base (L2.CX P w) (1 + n) (He.fAd K ("pattern_formed", none)) (fdF K ("pattern_formed", none)) ["thing"] (spD K mg (m_pattern_formed n))
  | 0 => ⟨fun vs H Q E h => by obtain ⟨_, _, _, _, _, _, _, _, hm, _⟩ := h; exact hm.elim, fun _ _ _ _ _ _ _ _ _ _ _ _ _ h => by obtain ⟨_, _, _, _, _, _, _, _, hm, _⟩ := h; exact hm.elim⟩
  | n + 1 => by
    have ih : FnOk P w K mg base (L2.CX P w) (1 + n) (He.fAd K ("pattern_formed", none)) (fdF K ("pattern_formed", none)) ["thing"] (spD K mg (m_pattern_formed n)) := ok_pattern_formed T n
    refine (F_pattern_formed T).ok (k := 1 + n) sc_pattern_formed (fun vs H Q E h => spD_len h) (fun cdv A outer s H vs Q E hr h => ?_)
    obtain ⟨ds_is_letter_1, vd_is_letter_1, bd_is_letter_1⟩ := b_is_letter_1 T
    refine ⟨_, (pss_cons (ps_if (PW.pt (pw_or (pt_not (pt_val (pe_callB call_isi (by rfl) (fr_isinstance T) (by decide +kernel) (pa_cons (pv 0) (pa_cons (pe_bty (n := "tuple") (by rfl) (fr_tuple T) (by decide +kernel)) pa_nil))))) (pw_or (pt_cmpR (op_eqD hr.units) (pe_callB call_lenA (by rfl) (fr_len T) (by decide +kernel) (pa_cons (pv 0) pa_nil)) pe_int (nomark _)) (pw_or1 (pt_not (pt_val (pe_callB call_isi (by rfl) (fr_isinstance T) (by decide +kernel) (pa_cons (pe_ix ix_seq (pv 0) pe_int (fun _ _ => rfl)) (pa_cons (pe_bty (n := "str") (by rfl) (fr_str T) (by decide +kernel)) pa_nil))))))))) (pss_one (ps_ret pe_bl)) pss_nil)
    (pss_cons (ps_asg (pv 0) (pg_tupStar (by rfl) (pgs_cons (pg_name (i := 1) sc_pattern_formed.nd rfl (by first | exact Or.inl rfl | exact Or.inr rfl)) (pgs_consStar (pg_name (i := 2) sc_pattern_formed.nd rfl (by first | exact Or.inl rfl | exact Or.inr rfl)) pgs_nil))))
    (pss_cons (ps_if (pt_cmpR (op_eqD hr.units) (pv 1) pe_str (nomark _)) (pss_one (ps_ret (pe_cmpR (op_eqD hr.units) (pv 2) (pe_lst pa_nil) (nomark _)))) pss_nil)
    (pss_cons (ps_if (pt_cmpR (op_eqD hr.units) (pv 1) pe_str (nomark _)) (pss_one (ps_ret (pe_and (pe_cmpR (op_eqD hr.units) (pe_callB call_lenA (by rfl) (fr_len T) (by decide +kernel) (pa_cons (pv 2) pa_nil)) pe_int (nomark _)) (pe_one (pe_call (ok_is_letter T) (hr.mono (by first | decide | omega)) (by rfl) (g_is_letter T) (kp_is_letter T) bd_is_letter_1 vd_is_letter_1 (passes_call (takes_of rfl rfl rfl rfl) (fun _ _ _ _ h => h)) (pa_cons (pe_ix ix_seq (pv 2) pe_int (fun _ _ => rfl)) pa_nil)))))) pss_nil)
    (pss_one (ps_ret (pe_and (pe_cmpR (op_inTbl (td_NESTED T)) (pv 1) (pe_gdef (g_NESTED T) rfl) (by rfl)) (pe_and (pe_cmpR (op_eqD hr.units) (pe_callB call_lenA (by rfl) (fr_len T) (by decide +kernel) (pa_cons (pv 2) pa_nil)) (pe_ix (show IxR _ (rIxD K w) from ix_kdict) (pe_gdef (g_NESTED T) rfl) (pv 1) (fun _ _ => rfl)) (nomark _)) (pe_one (pe_callB (cr_all (by rfl)) (by rfl) (fr_all T) (by decide +kernel) (pa_cons (pe_lc (own := [("part", 3)]) (g := (gName 3)) (tt := tYes)  (by rfl) sc_pattern_formed.nd (pi_list (pv 2)) (blkOk_by (own := [("part", 3)]) (N := ["thing", "word", "rest", "part"]) (sc := defScope s_pattern_formed) (by decide +kernel)) (fun _ _ _ _ _ => (pg_name (i := 3) sc_pattern_formed.nd rfl (by first | exact Or.inl rfl | exact Or.inr rfl))) (fun _ _ _ _ _ => pts_nil) (fun _ _ _ _ _ => (pe_call ih (hr.mono (by first | decide | omega)) (by rfl) (g_pattern_formed T) (kp_pattern_formed T) (b_pattern_formed T) .nil passL (pa_cons (pv 3) pa_nil)))) pa_nil))))))))))), ?_⟩
    exact spD_run (K := K) (mg := mg) (E := E) (np := 1) (n := 3) rfl (ds_seq (ds_if (dt_or (dt_not (dt_b (DE.q (de_CB cd_isi (db_cons dq_var (db_cons (DE.q de_raw) db_nil)))))) (dt_or (dt_test (DE.q (de_op od_eq (DE.q (de_CB cd_len (db_cons dq_var db_nil))) (DE.q de_int)))) (dt_not (dt_b (DE.q (de_CB cd_isi (db_cons (DE.q (de_op od_ix dq_var (DE.q de_int))) (db_cons (DE.q de_raw) db_nil)))))))) (ds_ret de_bl) ds_next)
    (ds_seq (ds_asgS (n := 1) de_var (dgs_cons dg_name (dgs_cons dg_name dgs_nil)))
    (ds_seq (ds_if (dt_test (DE.q (de_op od_eq dq_var (DE.q (de_str (by decide +kernel)))))) (ds_ret (de_op od_eq dq_var (DE.q (de_lst da_nil)))) ds_next)
    (ds_seq (ds_if (dt_test (DE.q (de_op od_eq dq_var (DE.q (de_str (by decide +kernel)))))) (ds_ret (de_and (DE.q (de_op od_eq (DE.q (de_CB cd_len (db_cons dq_var db_nil))) (DE.q de_int))) (de_call (fun _ _ _ _ => (.cons (.str (by decide +kernel)) .nil)) (da_cons (de_op od_ix dq_var (DE.q de_int)) da_nil)))) ds_next)
    (ds_ret (de_and (DE.q (de_inTbl (ti_NESTED T) dq_var)) (de_and (DE.q (de_op od_eq (DE.q (de_CB cd_len (db_cons dq_var db_nil))) (DE.q (de_ixTbl (td_NESTED T) (ti_NESTED T) (by decide +kernel) dq_var)))) (de_CB cd_all (db_cons (DE.q (de_lc (E' := E0) (vs := [3]) (di_list de_var) dg_name (by decide) dt_yes (de_call (fun _ _ _ _ => .nil) (da_cons de_var da_nil)))) db_nil))))))))) h
/-! ### parts_within -/
theorem ok_parts_within (T : Txt w K mg) : FnOk P w K mg base (L2.CX P w) 1 (He.fAd K ("parts_within", none)) (fdF K ("parts_within", none)) ["thing"] (spD K mg m_parts_within) := by
  refine (F_parts_within T).ok (k := 0) sc_parts_within (fun vs H Q E h => spD_len h) (fun cdv A outer s H vs Q E hr h => ?_)
  refine ⟨_, (pss_one (ps_ret (pe_lc (own := [("part", 1)]) (g := (gName 1))  (by rfl) sc_parts_within.nd (pi_tup (pe_slice sl_tupA (pv 0) (po_some pe_int) po_none)) (blkOk_by (own := [("part", 1)]) (N := ["thing", "part"]) (sc := defScope s_parts_within) (by decide +kernel)) (fun _ _ _ _ _ => (pg_name (i := 1) sc_parts_within.nd rfl (by first | exact Or.inl rfl | exact Or.inr rfl))) (fun _ _ _ _ _ => (pts_one (pt_val (pe_callB (show CallR _ (.builtin "isinstance") (rIsi K) from call_isi) (by rfl) (fr_isinstance T) (by decide +kernel) (pa_cons (pv 1) (pa_cons (pe_bty (n := "tuple") (by rfl) (fr_tuple T) (by decide +kernel)) pa_nil)))))) (fun _ _ _ _ _ => (pv 1))))), ?_⟩
  exact spD_run (K := K) (mg := mg) (E := E) (np := 1) (n := 1) rfl (ds_ret (de_lc (E' := E0) (vs := [1]) (di_tup (de_sl sd_tup dq_var (do_some (DE.q de_int)) do_no)) dg_name (by decide) (dt_b (DE.q (de_CB cd_isi (db_cons dq_var (db_cons (DE.q de_raw) db_nil))))) de_var)) h
/-! ### parts_of -/
theorem ok_parts_of (T : Txt w K mg) : ∀ n, FnOk P w K mg base (L2.CX P w) (1 + n) (He.fAd K ("parts_of", none)) (fdF K ("parts_of", none)) ["thing"] (spD K mg (m_parts_of n))
  | 0 => ⟨fun vs H Q E h => by obtain ⟨_, _, _, _, _, _, _, _, hm, _⟩ := h; exact hm.elim, fun _ _ _ _ _ _ _ _ _ _ _ _ _ h => by obtain ⟨_, _, _, _, _, _, _, _, hm, _⟩ := h; exact hm.elim⟩
  | n + 1 => by
    have ih : FnOk P w K mg base (L2.CX P w) (1 + n) (He.fAd K ("parts_of", none)) (fdF K ("parts_of", none)) ["thing"] (spD K mg (m_parts_of n)) := ok_parts_of T n
    refine (F_parts_of T).ok (k := 1 + n) sc_parts_of (fun vs H Q E h => spD_len h) (fun cdv A outer s H vs Q E hr h => ?_)
    refine ⟨_, (pss_one (ps_ret (pe_op op_addX pe_int (pe_callB (cr_sum (by rfl)) (by rfl) (fr_sum T) (by decide +kernel) (pa_cons (pe_lc (own := [("part", 1)]) (g := (gName 1)) (tt := tYes)  (by rfl) sc_parts_of.nd (pi_list (pe_call (ok_parts_within T) (hr.mono (by first | decide | omega)) (by rfl) (g_parts_within T) (kp_parts_within T) (b_parts_within T) .nil (passes_call (takes_of rfl rfl rfl rfl) (fun _ _ _ _ h => h)) (pa_cons (pv 0) pa_nil))) (blkOk_by (own := [("part", 1)]) (N := ["thing", "part"]) (sc := defScope s_parts_of) (by decide +kernel)) (fun _ _ _ _ _ => (pg_name (i := 1) sc_parts_of.nd rfl (by first | exact Or.inl rfl | exact Or.inr rfl))) (fun _ _ _ _ _ => pts_nil) (fun _ _ _ _ _ => (pe_call ih (hr.mono (by first | decide | omega)) (by rfl) (g_parts_of T) (kp_parts_of T) (b_parts_of T) .nil passL (pa_cons (pv 1) pa_nil)))) pa_nil))))), ?_⟩
    exact spD_run (K := K) (mg := mg) (E := E) (np := 1) (n := 1) rfl (ds_ret (de_op od_add (DE.q de_int) (DE.q (de_CB cd_sum (db_cons (DE.q (de_lc (E' := E0) (vs := [1]) (di_list (de_call (fun _ _ _ _ => .nil) (da_cons de_var da_nil))) dg_name (by decide) dt_yes (de_call (fun _ _ _ _ => .nil) (da_cons de_var da_nil)))) db_nil))))) h
/-! ### deep_of -/
theorem ok_deep_of (T : Txt w K mg) : ∀ n, FnOk P w K mg base (L2.CX P w) (1 + n) (He.fAd K ("deep_of", none)) (fdF K ("deep_of", none)) ["thing"] (spD K mg (m_deep_of n))
  | 0 => ⟨fun vs H Q E h => by obtain ⟨_, _, _, _, _, _, _, _, hm, _⟩ := h; exact hm.elim, fun _ _ _ _ _ _ _ _ _ _ _ _ _ h => by obtain ⟨_, _, _, _, _, _, _, _, hm, _⟩ := h; exact hm.elim⟩
  | n + 1 => by
    have ih : FnOk P w K mg base (L2.CX P w) (1 + n) (He.fAd K ("deep_of", none)) (fdF K ("deep_of", none)) ["thing"] (spD K mg (m_deep_of n)) := ok_deep_of T n
    refine (F_deep_of T).ok (k := 1 + n) sc_deep_of (fun vs H Q E h => spD_len h) (fun cdv A outer s H vs Q E hr h => ?_)
    refine ⟨_, (pss_one (ps_ret (pe_op op_addX pe_int (pe_callBK (cr_maxDef (by rfl) hr.units) (by rfl) (fr_max T) (by decide +kernel) (pa_cons (pe_lc (own := [("part", 1)]) (g := (gName 1)) (tt := tYes)  (by rfl) sc_deep_of.nd (pi_list (pe_call (ok_parts_within T) (hr.mono (by first | decide | omega)) (by rfl) (g_parts_within T) (kp_parts_within T) (b_parts_within T) .nil (passes_call (takes_of rfl rfl rfl rfl) (fun _ _ _ _ h => h)) (pa_cons (pv 0) pa_nil))) (blkOk_by (own := [("part", 1)]) (N := ["thing", "part"]) (sc := defScope s_deep_of) (by decide +kernel)) (fun _ _ _ _ _ => (pg_name (i := 1) sc_deep_of.nd rfl (by first | exact Or.inl rfl | exact Or.inr rfl))) (fun _ _ _ _ _ => pts_nil) (fun _ _ _ _ _ => (pe_call ih (hr.mono (by first | decide | omega)) (by rfl) (g_deep_of T) (kp_deep_of T) (b_deep_of T) .nil passL (pa_cons (pv 1) pa_nil)))) pa_nil) (pk_cons pe_int pk_nil))))), ?_⟩
    exact spD_run (K := K) (mg := mg) (E := E) (np := 1) (n := 1) rfl (ds_ret (de_op od_add (DE.q de_int) (DE.q (de_maxDef (db_cons (DE.q (de_lc (E' := E0) (vs := [1]) (di_list (de_call (fun _ _ _ _ => .nil) (da_cons de_var da_nil))) dg_name (by decide) dt_yes (de_call (fun _ _ _ _ => .nil) (da_cons de_var da_nil)))) db_nil))))) h
/-! ### size_flaw -/
theorem ok_size_flaw (T : Txt w K mg) : FnOk P w K mg base (L2.CX P w) 72 (He.fAd K ("size_flaw", none)) (fdF K ("size_flaw", none)) ["thing"] (spD K mg m_size_flaw) := by
  refine (F_size_flaw T).ok (k := 71) sc_size_flaw (fun vs H Q E h => spD_len h) (fun cdv A outer s H vs Q E hr h => ?_)
  refine ⟨_, (pss_cons (ps_if (pt_cmpR op_gt (pe_call (ok_parts_of T 70) (hr.mono (by first | decide | omega)) (by rfl) (g_parts_of T) (kp_parts_of T) (b_parts_of T) .nil (passes_call (takes_of rfl rfl rfl rfl) (fun _ _ _ _ h => h)) (pa_cons (pv 0) pa_nil)) (pe_gv (gv_MOST_PARTS T) rfl) (nomark _)) (pss_one (ps_ret pe_str)) pss_nil)
    (pss_one (ps_ret (pe_ifExp (pt_cmpR op_gt (pe_call (ok_deep_of T 70) (hr.mono (by first | decide | omega)) (by rfl) (g_deep_of T) (kp_deep_of T) (b_deep_of T) .nil (passes_call (takes_of rfl rfl rfl rfl) (fun _ _ _ _ h => h)) (pa_cons (pv 0) pa_nil)) (pe_gv (gv_MOST_DEEP T) rfl) (nomark _)) pe_str pe_non)))), ?_⟩
  exact spD_run (K := K) (mg := mg) (E := E) (np := 1) (n := 0) rfl (ds_seq (ds_if (dt_test (DE.q (de_op (od_I0 fun _ _ _ _ _ _ => .bl _) (DE.q (de_call (fun _ _ _ _ => .nil) (da_cons de_var da_nil))) (DE.q de_int)))) (ds_ret (de_str (by decide +kernel))) ds_next)
    (ds_ret (de_if (dt_test (DE.q (de_op (od_I0 fun _ _ _ _ _ _ => .bl _) (DE.q (de_call (fun _ _ _ _ => .nil) (da_cons de_var da_nil))) (DE.q de_int)))) (de_str (by decide +kernel)) de_non))) h
/-! ### flaw_of -/
theorem ok_flaw_of (T : Txt w K mg) : FnOk P w K mg base (L2.CX P w) 73 (He.fAd K ("flaw_of", none)) (fdF K ("flaw_of", none)) ["thing"] (spD K mg m_flaw_of) := by
  refine (F_flaw_of T).ok (k := 72) sc_flaw_of (fun vs H Q E h => spD_len h) (fun cdv A outer s H vs Q E hr h => ?_)
  refine ⟨_, (pss_one (ps_ret (pe_ifExp (pt_val (pe_call (ok_pattern_formed T 70) (hr.mono (by first | decide | omega)) (by rfl) (g_pattern_formed T) (kp_pattern_formed T) (b_pattern_formed T) .nil (passes_call (takes_of rfl rfl rfl rfl) (fun _ _ _ _ h => h)) (pa_cons (pv 0) pa_nil))) (pe_call (ok_size_flaw T) (hr.mono (by first | decide | omega)) (by rfl) (g_size_flaw T) (kp_size_flaw T) (b_size_flaw T) .nil (passes_call (takes_of rfl rfl rfl rfl) (fun _ _ _ _ h => h)) (pa_cons (pv 0) pa_nil)) pe_str))), ?_⟩
  exact spD_run (K := K) (mg := mg) (E := E) (np := 1) (n := 0) rfl (ds_ret (de_if (dt_b (DE.q (de_call (fun _ _ _ _ => .nil) (da_cons de_var da_nil)))) (de_call (fun _ _ _ _ => .nil) (da_cons de_var da_nil)) (de_str (by decide +kernel)))) h
/-! ### need_pattern -/
theorem ok_need_pattern (T : Txt w K mg) : FnOk P w K mg base (L2.CX P w) 74 (He.fAd K ("need_pattern", none)) (fdF K ("need_pattern", none)) ["thing"] (spD K mg m_need_pattern) := by
  refine (F_need_pattern T).ok (k := 73) sc_need_pattern (fun vs H Q E h => spD_len h) (fun cdv A outer s H vs Q E hr h => ?_)
  refine ⟨_, (pss_cons (ps_set (i := 1) sc_need_pattern.nd rfl (by first | exact Or.inl rfl | exact Or.inr rfl) (pe_call (ok_flaw_of T) (hr.mono (by first | decide | omega)) (by rfl) (g_flaw_of T) (kp_flaw_of T) (b_flaw_of T) .nil (passes_call (takes_of rfl rfl rfl rfl) (fun _ _ _ _ h => h)) (pa_cons (pv 0) pa_nil)))
    (pss_one (ps_if (pt_cmpR op_notN0 (pv 1) pe_non (nomark _)) (pss_one ps_never) pss_nil))), ?_⟩
  exact spD_run (K := K) (mg := mg) (E := E) (np := 1) (n := 1) rfl (ds_seq (ds_asg (de_call (fun _ _ _ _ => .nil) (da_cons de_var da_nil)) dg_name)
    (ds_if (dt_test (DE.q (de_op od_isNot dq_var (DE.q de_non)))) ds_never ds_next)) h
/-! ### between -/
theorem ok_between (T : Txt w K mg) : FnOk P w K mg base (L2.CX P w) 2 (He.fAd K ("between", none)) (fdF K ("between", none)) ["thing", "low", "high"] (spD K mg m_between) := by
  refine (F_between T).ok (k := 1) sc_between (fun vs H Q E h => spD_len h) (fun cdv A outer s H vs Q E hr h => ?_)
  refine ⟨_, (pss_one (ps_ret (pe_and (pe_call (ok_is_number T) (hr.mono (by first | decide | omega)) (by rfl) (g_is_number T) (kp_is_number T) (b_is_number T) .nil (passes_call (takes_of rfl rfl rfl rfl) (fun _ _ _ _ h => h)) (pa_cons (pv 0) pa_nil)) (pe_one (pe_chain op_le op_le (pv 1) (pv 0) (pv 2)))))), ?_⟩
  exact spD_run (K := K) (mg := mg) (E := E) (np := 3) (n := 0) rfl (ds_ret (de_and (DE.q (de_call (fun _ _ _ _ => .nil) (da_cons de_var da_nil))) (de_chain (od_I0 fun _ _ _ _ _ _ => .bl _) (od_I0 fun _ _ _ _ _ _ => .bl _) dq_var dq_var dq_var))) h
/-! ### wish_formed -/
theorem ok_wish_formed (T : Txt w K mg) : ∀ n, FnOk P w K mg base (L2.CX P w) (71 + n) (He.fAd K ("wish_formed", none)) (fdF K ("wish_formed", none)) ["thing"] (spD K mg (m_wish_formed n))
  | 0 => ⟨fun vs H Q E h => by obtain ⟨_, _, _, _, _, _, _, _, hm, _⟩ := h; exact hm.elim, fun _ _ _ _ _ _ _ _ _ _ _ _ _ h => by obtain ⟨_, _, _, _, _, _, _, _, hm, _⟩ := h; exact hm.elim⟩
  | n + 1 => by
    have ih : FnOk P w K mg base (L2.CX P w) (71 + n) (He.fAd K ("wish_formed", none)) (fdF K ("wish_formed", none)) ["thing"] (spD K mg (m_wish_formed n)) := ok_wish_formed T n
    refine (F_wish_formed T).ok (k := 71 + n) sc_wish_formed (fun vs H Q E h => spD_len h) (fun cdv A outer s H vs Q E hr h => ?_)
    obtain ⟨ds_is_letter_1, vd_is_letter_1, bd_is_letter_1⟩ := b_is_letter_1 T
    refine ⟨_, (pss_cons (ps_if (PW.pt (pw_or (pt_not (pt_val (pe_callB call_isi (by rfl) (fr_isinstance T) (by decide +kernel) (pa_cons (pv 0) (pa_cons (pe_bty (n := "tuple") (by rfl) (fr_tuple T) (by decide +kernel)) pa_nil))))) (pw_or (pt_cmpR (op_eqD hr.units) (pe_callB call_lenA (by rfl) (fr_len T) (by decide +kernel) (pa_cons (pv 0) pa_nil)) pe_int (nomark _)) (pw_or1 (pt_not (pt_val (pe_callB call_isi (by rfl) (fr_isinstance T) (by decide +kernel) (pa_cons (pe_ix ix_seq (pv 0) pe_int (fun _ _ => rfl)) (pa_cons (pe_bty (n := "str") (by rfl) (fr_str T) (by decide +kernel)) pa_nil))))))))) (pss_one (ps_ret pe_bl)) pss_nil)
    (pss_cons (ps_asg (pv 0) (pg_tupStar (by rfl) (pgs_cons (pg_name (i := 1) sc_wish_formed.nd rfl (by first | exact Or.inl rfl | exact Or.inr rfl)) (pgs_consStar (pg_name (i := 2) sc_wish_formed.nd rfl (by first | exact Or.inl rfl | exact Or.inr rfl)) pgs_nil))))
    (pss_cons (ps_if (pt_cmpR op_inX (pv 1) (pe_tup (pa_cons pe_str (pa_cons pe_str pa_nil))) (by rfl)) (pss_one (ps_ret (pe_and (pe_cmpR (op_eqD hr.units) (pe_callB call_lenA (by rfl) (fr_len T) (by decide +kernel) (pa_cons (pv 2) pa_nil)) pe_int (nomark _)) (pe_one (pe_call (ok_pattern_formed T 70) (hr.mono (by first | decide | omega)) (by rfl) (g_pattern_formed T) (kp_pattern_formed T) (b_pattern_formed T) .nil (passes_call (takes_of rfl rfl rfl rfl) (fun _ _ _ _ h => h)) (pa_cons (pe_ix ix_seq (pv 2) pe_int (fun _ _ => rfl)) pa_nil)))))) pss_nil)
    (pss_cons (ps_if (pt_cmpR (op_eqD hr.units) (pv 1) pe_str (nomark _)) (pss_one (ps_ret (pe_and (pe_cmpR (op_eqD hr.units) (pe_callB call_lenA (by rfl) (fr_len T) (by decide +kernel) (pa_cons (pv 2) pa_nil)) pe_int (nomark _)) (pe_and (pe_call (ok_between T) (hr.mono (by first | decide | omega)) (by rfl) (g_between T) (kp_between T) (b_between T) .nil (passes_call (takes_of rfl rfl rfl rfl) (fun _ _ _ _ h => h)) (pa_cons (pe_ix ix_seq (pv 2) pe_int (fun _ _ => rfl)) (pa_cons pe_int (pa_cons (pe_gv (gv_WIDEST T) rfl) pa_nil)))) (pe_one (pe_call (ok_pattern_formed T 70) (hr.mono (by first | decide | omega)) (by rfl) (g_pattern_formed T) (kp_pattern_formed T) (b_pattern_formed T) .nil (passes_call (takes_of rfl rfl rfl rfl) (fun _ _ _ _ h => h)) (pa_cons (pe_ix ix_seq (pv 2) pe_int (fun _ _ => rfl)) pa_nil))))))) pss_nil)
    (pss_cons (ps_if (pt_cmpR (op_eqD hr.units) (pv 1) pe_str (nomark _)) (pss_one (ps_ret (pe_and (pe_cmpR (op_eqD hr.units) (pe_callB call_lenA (by rfl) (fr_len T) (by decide +kernel) (pa_cons (pv 2) pa_nil)) pe_int (nomark _)) (pe_and (pe_call (ok_is_letter T) (hr.mono (by first | decide | omega)) (by rfl) (g_is_letter T) (kp_is_letter T) bd_is_letter_1 vd_is_letter_1 (passes_call (takes_of rfl rfl rfl rfl) (fun _ _ _ _ h => h)) (pa_cons (pe_ix ix_seq (pv 2) pe_int (fun _ _ => rfl)) pa_nil)) (pe_one (pe_call (ok_is_letter T) (hr.mono (by first | decide | omega)) (by rfl) (g_is_letter T) (kp_is_letter T) bd_is_letter_1 vd_is_letter_1 (passes_call (takes_of rfl rfl rfl rfl) (fun _ _ _ _ h => h)) (pa_cons (pe_ix ix_seq (pv 2) pe_int (fun _ _ => rfl)) pa_nil))))))) pss_nil)
    (pss_cons (ps_if (pt_cmpR (op_eqD hr.units) (pv 1) pe_str (nomark _)) (pss_one (ps_ret (pe_and (pe_cmpR (op_eqD hr.units) (pe_callB call_lenA (by rfl) (fr_len T) (by decide +kernel) (pa_cons (pv 2) pa_nil)) pe_int (nomark _)) (pe_one (pe_call (ok_is_letter T) (hr.mono (by first | decide | omega)) (by rfl) (g_is_letter T) (kp_is_letter T) bd_is_letter_1 vd_is_letter_1 (passes_call (takes_of rfl rfl rfl rfl) (fun _ _ _ _ h => h)) (pa_cons (pe_ix ix_seq (pv 2) pe_int (fun _ _ => rfl)) pa_nil)))))) pss_nil)
    (pss_cons (ps_if (pt_cmpR (op_eqD hr.units) (pv 1) pe_str (nomark _)) (pss_one (ps_ret (pe_and (pe_cmpR (op_eqD hr.units) (pe_callB call_lenA (by rfl) (fr_len T) (by decide +kernel) (pa_cons (pv 2) pa_nil)) pe_int (nomark _)) (pe_one (pe_call (ok_between T) (hr.mono (by first | decide | omega)) (by rfl) (g_between T) (kp_between T) (b_between T) .nil (passes_call (takes_of rfl rfl rfl rfl) (fun _ _ _ _ h => h)) (pa_cons (pe_ix ix_seq (pv 2) pe_int (fun _ _ => rfl)) (pa_cons pe_int (pa_cons (pe_gv (gv_LONGEST_APART T) rfl) pa_nil)))))))) pss_nil)
    (pss_cons (ps_if (pt_cmpR op_inX (pv 1) (pe_tup (pa_cons pe_str (pa_cons pe_str pa_nil))) (by rfl)) (pss_cons (ps_set (i := 3) sc_wish_formed.nd rfl (by first | exact Or.inl rfl | exact Or.inr rfl) (pe_ifExp (pt_cmpR (op_eqD hr.units) (pv 1) pe_str (nomark _)) pe_int pe_int))
    (pss_one (ps_ret (pe_and (pe_cmpR (op_eqD hr.units) (pe_callB call_lenA (by rfl) (fr_len T) (by decide +kernel) (pa_cons (pv 2) pa_nil)) (pv 3) (nomark _)) (pe_and (pe_call (ok_is_letter T) (hr.mono (by first | decide | omega)) (by rfl) (g_is_letter T) (kp_is_letter T) bd_is_letter_1 vd_is_letter_1 (passes_call (takes_of rfl rfl rfl rfl) (fun _ _ _ _ h => h)) (pa_cons (pe_ix ix_seq (pv 2) pe_int (fun _ _ => rfl)) pa_nil)) (pe_one (pe_callB (cr_all (by rfl)) (by rfl) (fr_all T) (by decide +kernel) (pa_cons (pe_lc (own := [("part", 4)]) (g := (gName 4)) (tt := tYes)  (by rfl) sc_wish_formed.nd (pi_list (pe_slice sl_list (pv 2) (po_some pe_int) po_none)) (blkOk_by (own := [("part", 4)]) (N := ["thing", "word", "rest", "many", "part"]) (sc := defScope s_wish_formed) (by decide +kernel)) (fun _ _ _ _ _ => (pg_name (i := 4) sc_wish_formed.nd rfl (by first | exact Or.inl rfl | exact Or.inr rfl))) (fun _ _ _ _ _ => pts_nil) (fun _ _ _ _ _ => (pe_call ih (hr.mono (by first | decide | omega)) (by rfl) (g_wish_formed T) (kp_wish_formed T) (b_wish_formed T) .nil passL (pa_cons (pv 4) pa_nil)))) pa_nil)))))))) pss_nil)
    (pss_cons (ps_set (i := 3) sc_wish_formed.nd rfl (by first | exact Or.inl rfl | exact Or.inr rfl) (pe_dget2 (hu_of hr) (pe_disp (pps_cons pe_str pe_int (pps_cons pe_str pe_int (pps_cons pe_str pe_int pps_nil))) (by rfl) (by rfl) (fun z => by cases z) (by decide)) (pv 1) (pe_un un_neg pe_int) (by constructor <;> rfl)))
    (pss_one (ps_ret (pe_and (pe_cmpR (op_eqD hr.units) (pe_callB call_lenA (by rfl) (fr_len T) (by decide +kernel) (pa_cons (pv 2) pa_nil)) (pv 3) (nomark _)) (pe_one (pe_callB (cr_all (by rfl)) (by rfl) (fr_all T) (by decide +kernel) (pa_cons (pe_lc (own := [("part", 4)]) (g := (gName 4)) (tt := tYes)  (by rfl) sc_wish_formed.nd (pi_list (pv 2)) (blkOk_by (own := [("part", 4)]) (N := ["thing", "word", "rest", "many", "part"]) (sc := defScope s_wish_formed) (by decide +kernel)) (fun _ _ _ _ _ => (pg_name (i := 4) sc_wish_formed.nd rfl (by first | exact Or.inl rfl | exact Or.inr rfl))) (fun _ _ _ _ _ => pts_nil) (fun _ _ _ _ _ => (pe_call ih (hr.mono (by first | decide | omega)) (by rfl) (g_wish_formed T) (kp_wish_formed T) (b_wish_formed T) .nil passL (pa_cons (pv 4) pa_nil)))) pa_nil))))))))))))))), ?_⟩
    exact spD_run (K := K) (mg := mg) (E := E) (np := 1) (n := 4) rfl (ds_seq (ds_if (dt_or (dt_not (dt_b (DE.q (de_CB cd_isi (db_cons dq_var (db_cons (DE.q de_raw) db_nil)))))) (dt_or (dt_test (DE.q (de_op od_eq (DE.q (de_CB cd_len (db_cons dq_var db_nil))) (DE.q de_int)))) (dt_not (dt_b (DE.q (de_CB cd_isi (db_cons (DE.q (de_op od_ix dq_var (DE.q de_int))) (db_cons (DE.q de_raw) db_nil)))))))) (ds_ret de_bl) ds_next)
    (ds_seq (ds_asgS (n := 1) de_var (dgs_cons dg_name (dgs_cons dg_name dgs_nil)))
    (ds_seq (ds_if (dt_test (DE.q (de_op od_in dq_var (DE.q (de_tup (da_cons (de_str (by decide +kernel)) (da_cons (de_str (by decide +kernel)) da_nil))))))) (ds_ret (de_and (DE.q (de_op od_eq (DE.q (de_CB cd_len (db_cons dq_var db_nil))) (DE.q de_int))) (de_call (fun _ _ _ _ => .nil) (da_cons (de_op od_ix dq_var (DE.q de_int)) da_nil)))) ds_next)
    (ds_seq (ds_if (dt_test (DE.q (de_op od_eq dq_var (DE.q (de_str (by decide +kernel)))))) (ds_ret (de_and (DE.q (de_op od_eq (DE.q (de_CB cd_len (db_cons dq_var db_nil))) (DE.q de_int))) (de_and (DE.q (de_call (fun _ _ _ _ => .nil) (da_cons (de_op od_ix dq_var (DE.q de_int)) (da_cons de_int (da_cons de_int da_nil))))) (de_call (fun _ _ _ _ => .nil) (da_cons (de_op od_ix dq_var (DE.q de_int)) da_nil))))) ds_next)
    (ds_seq (ds_if (dt_test (DE.q (de_op od_eq dq_var (DE.q (de_str (by decide +kernel)))))) (ds_ret (de_and (DE.q (de_op od_eq (DE.q (de_CB cd_len (db_cons dq_var db_nil))) (DE.q de_int))) (de_and (DE.q (de_call (fun _ _ _ _ => (.cons (.str (by decide +kernel)) .nil)) (da_cons (de_op od_ix dq_var (DE.q de_int)) da_nil))) (de_call (fun _ _ _ _ => (.cons (.str (by decide +kernel)) .nil)) (da_cons (de_op od_ix dq_var (DE.q de_int)) da_nil))))) ds_next)
    (ds_seq (ds_if (dt_test (DE.q (de_op od_eq dq_var (DE.q (de_str (by decide +kernel)))))) (ds_ret (de_and (DE.q (de_op od_eq (DE.q (de_CB cd_len (db_cons dq_var db_nil))) (DE.q de_int))) (de_call (fun _ _ _ _ => (.cons (.str (by decide +kernel)) .nil)) (da_cons (de_op od_ix dq_var (DE.q de_int)) da_nil)))) ds_next)
    (ds_seq (ds_if (dt_test (DE.q (de_op od_eq dq_var (DE.q (de_str (by decide +kernel)))))) (ds_ret (de_and (DE.q (de_op od_eq (DE.q (de_CB cd_len (db_cons dq_var db_nil))) (DE.q de_int))) (de_call (fun _ _ _ _ => .nil) (da_cons (de_op od_ix dq_var (DE.q de_int)) (da_cons de_int (da_cons de_int da_nil)))))) ds_next)
    (ds_seq (ds_if (dt_test (DE.q (de_op od_in dq_var (DE.q (de_tup (da_cons (de_str (by decide +kernel)) (da_cons (de_str (by decide +kernel)) da_nil))))))) (ds_seq (ds_asg (de_if (dt_test (DE.q (de_op od_eq dq_var (DE.q (de_str (by decide +kernel)))))) de_int de_int) dg_name)
    (ds_ret (de_and (DE.q (de_op od_eq (DE.q (de_CB cd_len (db_cons dq_var db_nil))) dq_var)) (de_and (DE.q (de_call (fun _ _ _ _ => (.cons (.str (by decide +kernel)) .nil)) (da_cons (de_op od_ix dq_var (DE.q de_int)) da_nil))) (de_CB cd_all (db_cons (DE.q (de_lc (E' := E0) (vs := [4]) (di_list (de_sl sd_list dq_var (do_some (DE.q de_int)) do_no)) dg_name (by decide) dt_yes (de_call (fun _ _ _ _ => .nil) (da_cons de_var da_nil)))) db_nil)))))) ds_next)
    (ds_seq (ds_asg (de_dispGet (kvs := [(("both" : Str), V.int 2), (("either" : Str), V.int 2), (("not" : Str), V.int 1)]) (v0 := V.int (-1)) (fun _ _ _ q => ⟨_, rfl, q⟩) (by decide) (by decide +kernel) (by decide +kernel) (valV_inrs (by decide +kernel)) dq_var) dg_name)
    (ds_ret (de_and (DE.q (de_op od_eq (DE.q (de_CB cd_len (db_cons dq_var db_nil))) dq_var)) (de_CB cd_all (db_cons (DE.q (de_lc (E' := E0) (vs := [4]) (di_list de_var) dg_name (by decide) dt_yes (de_call (fun _ _ _ _ => .nil) (da_cons de_var da_nil)))) db_nil))))))))))))) h
/-! ### wish_flaw -/
theorem ok_wish_flaw (T : Txt w K mg) : FnOk P w K mg base (L2.CX P w) 142 (He.fAd K ("wish_flaw", none)) (fdF K ("wish_flaw", none)) ["thing"] (spD K mg m_wish_flaw) := by
  refine (F_wish_flaw T).ok (k := 141) sc_wish_flaw (fun vs H Q E h => spD_len h) (fun cdv A outer s H vs Q E hr h => ?_)
  refine ⟨_, (pss_one (ps_ret (pe_ifExp (pt_val (pe_call (ok_wish_formed T 70) (hr.mono (by first | decide | omega)) (by rfl) (g_wish_formed T) (kp_wish_formed T) (b_wish_formed T) .nil (passes_call (takes_of rfl rfl rfl rfl) (fun _ _ _ _ h => h)) (pa_cons (pv 0) pa_nil))) (pe_call (ok_size_flaw T) (hr.mono (by first | decide | omega)) (by rfl) (g_size_flaw T) (kp_size_flaw T) (b_size_flaw T) .nil (passes_call (takes_of rfl rfl rfl rfl) (fun _ _ _ _ h => h)) (pa_cons (pv 0) pa_nil)) pe_str))), ?_⟩
  exact spD_run (K := K) (mg := mg) (E := E) (np := 1) (n := 0) rfl (ds_ret (de_if (dt_b (DE.q (de_call (fun _ _ _ _ => .nil) (da_cons de_var da_nil)))) (de_call (fun _ _ _ _ => .nil) (da_cons de_var da_nil)) (de_str (by decide +kernel)))) h
/-! ### need_wish -/
theorem ok_need_wish (T : Txt w K mg) : FnOk P w K mg base (L2.CX P w) 143 (He.fAd K ("need_wish", none)) (fdF K ("need_wish", none)) ["thing"] (spD K mg m_need_wish) := by
  refine (F_need_wish T).ok (k := 142) sc_need_wish (fun vs H Q E h => spD_len h) (fun cdv A outer s H vs Q E hr h => ?_)
  refine ⟨_, (pss_cons (ps_set (i := 1) sc_need_wish.nd rfl (by first | exact Or.inl rfl | exact Or.inr rfl) (pe_call (ok_wish_flaw T) (hr.mono (by first | decide | omega)) (by rfl) (g_wish_flaw T) (kp_wish_flaw T) (b_wish_flaw T) .nil (passes_call (takes_of rfl rfl rfl rfl) (fun _ _ _ _ h => h)) (pa_cons (pv 0) pa_nil)))
    (pss_one (ps_if (pt_cmpR op_notN0 (pv 1) pe_non (nomark _)) (pss_one ps_never) pss_nil))), ?_⟩
  exact spD_run (K := K) (mg := mg) (E := E) (np := 1) (n := 1) rfl (ds_seq (ds_asg (de_call (fun _ _ _ _ => .nil) (da_cons de_var da_nil)) dg_name)
    (ds_if (dt_test (DE.q (de_op od_isNot dq_var (DE.q de_non)))) ds_never ds_next)) h
/-! ### pattern_so -/
theorem ok_pattern_so (T : Txt w K mg) : ∀ n, FnOk P w K mg base (L2.CX P w) (0 + n) (He.fAd K ("pattern_so", none)) (fdF K ("pattern_so", none)) ["pattern"] (spD K mg (m_pattern_so n))
  | 0 => ⟨fun vs H Q E h => by obtain ⟨_, _, _, _, _, _, _, _, hm, _⟩ := h; exact hm.elim, fun _ _ _ _ _ _ _ _ _ _ _ _ _ h => by obtain ⟨_, _, _, _, _, _, _, _, hm, _⟩ := h; exact hm.elim⟩
  | n + 1 => by
    have ih : FnOk P w K mg base (L2.CX P w) (0 + n) (He.fAd K ("pattern_so", none)) (fdF K ("pattern_so", none)) ["pattern"] (spD K mg (m_pattern_so n)) := ok_pattern_so T n
    refine (F_pattern_so T).ok (k := 0 + n) sc_pattern_so (fun vs H Q E h => spD_len h) (fun cdv A outer s H vs Q E hr h => ?_)
    refine ⟨_, (pss_cons (ps_asg (pv 0) (pg_tupStar (by rfl) (pgs_cons (pg_name (i := 1) sc_pattern_so.nd rfl (by first | exact Or.inl rfl | exact Or.inr rfl)) (pgs_consStar (pg_name (i := 2) sc_pattern_so.nd rfl (by first | exact Or.inl rfl | exact Or.inr rfl)) pgs_nil))))
    (pss_cons (ps_if (pt_cmpR (op_eqD hr.units) (pv 1) pe_str (nomark _)) (pss_one (ps_ret pe_str)) pss_nil)
    (pss_cons (ps_if (pt_cmpR (op_eqD hr.units) (pv 1) pe_str (nomark _)) (pss_one (ps_ret (pe_ix ix_seq (pv 2) pe_int (fun _ _ => rfl)))) pss_nil)
    (pss_one (ps_ret (pe_op op_addX (pe_op op_addX (pe_ix (show IxR _ (rIxD K w) from ix_kdict) (pe_gdef (g_OPENING T) rfl) (pv 1) (fun _ _ => rfl)) (pe_joinN pe_str (pe_lc (own := [("part", 3)]) (g := (gName 3)) (tt := tYes)  (by rfl) sc_pattern_so.nd (pi_list (pv 2)) (blkOk_by (own := [("part", 3)]) (N := ["pattern", "word", "rest", "part"]) (sc := defScope s_pattern_so) (by decide +kernel)) (fun _ _ _ _ _ => (pg_name (i := 3) sc_pattern_so.nd rfl (by first | exact Or.inl rfl | exact Or.inr rfl))) (fun _ _ _ _ _ => pts_nil) (fun _ _ _ _ _ => (pe_call ih (hr.mono (by first | decide | omega)) (by rfl) (g_pattern_so T) (kp_pattern_so T) (b_pattern_so T) .nil passL (pa_cons (pv 3) pa_nil)))))) (pe_ix (show IxR _ (rIxD K w) from ix_kdict) (pe_gdef (g_CLOSING T) rfl) (pv 1) (fun _ _ => rfl)))))))), ?_⟩
    exact spD_run (K := K) (mg := mg) (E := E) (np := 1) (n := 3) rfl (ds_seq (ds_asgS (n := 1) de_var (dgs_cons dg_name (dgs_cons dg_name dgs_nil)))
    (ds_seq (ds_if (dt_test (DE.q (de_op od_eq dq_var (DE.q (de_str (by decide +kernel)))))) (ds_ret (de_str (by decide +kernel))) ds_next)
    (ds_seq (ds_if (dt_test (DE.q (de_op od_eq dq_var (DE.q (de_str (by decide +kernel)))))) (ds_ret (de_op od_ix dq_var (DE.q de_int))) ds_next)
    (ds_ret (de_op od_add (DE.q (de_op od_add (DE.q (de_ixTbl (td_OPENING T) (ti_OPENING T) (by decide +kernel) dq_var)) (DE.q (de_join (DE.q (de_str (by decide +kernel))) (DE.q (de_lc (E' := E0) (vs := [3]) (di_list de_var) dg_name (by decide) dt_yes (de_call (fun _ _ _ _ => .nil) (da_cons de_var da_nil)))))))) (DE.q (de_ixTbl (td_CLOSING T) (ti_CLOSING T) (by decide +kernel) dq_var))))))) h
/-! ### wish_so -/
theorem ok_wish_so (T : Txt w K mg) : ∀ n, FnOk P w K mg base (L2.CX P w) (70 + n) (He.fAd K ("wish_so", none)) (fdF K ("wish_so", none)) ["wish"] (spD K mg (m_wish_so n))
  | 0 => ⟨fun vs H Q E h => by obtain ⟨_, _, _, _, _, _, _, _, hm, _⟩ := h; exact hm.elim, fun _ _ _ _ _ _ _ _ _ _ _ _ _ h => by obtain ⟨_, _, _, _, _, _, _, _, hm, _⟩ := h; exact hm.elim⟩
  | n + 1 => by
    have ih : FnOk P w K mg base (L2.CX P w) (70 + n) (He.fAd K ("wish_so", none)) (fdF K ("wish_so", none)) ["wish"] (spD K mg (m_wish_so n)) := ok_wish_so T n
    refine (F_wish_so T).ok (k := 70 + n) sc_wish_so (fun vs H Q E h => spD_len h) (fun cdv A outer s H vs Q E hr h => ?_)
    refine ⟨_, (pss_cons (ps_asg (pv 0) (pg_tupStar (by rfl) (pgs_cons (pg_name (i := 1) sc_wish_so.nd rfl (by first | exact Or.inl rfl | exact Or.inr rfl)) (pgs_consStar (pg_name (i := 2) sc_wish_so.nd rfl (by first | exact Or.inl rfl | exact Or.inr rfl)) pgs_nil))))
    (pss_cons (ps_set (i := 3) sc_wish_so.nd rfl (by first | exact Or.inl rfl | exact Or.inr rfl) (pe_lst (pa_cons (pv 1) pa_nil)))
    (pss_cons (ps_for (passes_of rfl) (by rfl) (pi_zipZ (by rfl) (fr_zip T) (pa_cons (pe_ix (show IxR _ (rIxD K w) from ix_kdict) (pe_gdef (g_SHAPES T) rfl) (pv 1) (fun _ _ => rfl)) (pa_cons (pv 2) pa_nil))) (pg_tup (by rfl) (pgs_cons (pg_name (i := 4) sc_wish_so.nd rfl (by first | exact Or.inl rfl | exact Or.inr rfl)) (pgs_cons (pg_name (i := 5) sc_wish_so.nd rfl (by first | exact Or.inl rfl | exact Or.inr rfl)) pgs_nil))) (pss_one (ps_if (pt_cmpR (op_eqD hr.units) (pv 4) pe_str (nomark _)) (pss_one (ps_expr (pe_bm PySem.F.plainAttrs_list PySem.F.slot_list_append PySem.F.type_list_append mt_append (pv 3) (pa_cons (pe_call (ok_pattern_so T 70) (hr.mono (by first | decide | omega)) (by rfl) (g_pattern_so T) (kp_pattern_so T) (b_pattern_so T) .nil (passes_call (takes_of rfl rfl rfl rfl) (fun _ _ _ _ h => h)) (pa_cons (pv 5) pa_nil)) pa_nil)))) (pss_one (ps_if (pt_cmpR (op_eqD hr.units) (pv 4) pe_str (nomark _)) (pss_one (ps_expr (pe_bm PySem.F.plainAttrs_list PySem.F.slot_list_append PySem.F.type_list_append mt_append (pv 3) (pa_cons (pe_joined (PJ.cons pe_str (PJ.cons (pe_fmt (pe_call ih (hr.mono (by first | decide | omega)) (by rfl) (g_wish_so T) (kp_wish_so T) (b_wish_so T) .nil (passes_call (takes_of rfl rfl rfl rfl) (fun _ _ _ _ h => h)) (pa_cons (pv 5) pa_nil))) (PJ.cons pe_str PJ.nil)))) pa_nil)))) (pss_one (ps_expr (pe_bm PySem.F.plainAttrs_list PySem.F.slot_list_append PySem.F.type_list_append mt_append (pv 3) (pa_cons (pe_callTy call_strA (by rfl) (fr_str T) (by decide +kernel) (pa_cons (pv 5) pa_nil)) pa_nil)))))))))
    (pss_one (ps_ret (pe_joinN pe_str (pv 3))))))), ?_⟩
    exact spD_run (K := K) (mg := mg) (E := E) (np := 1) (n := 5) rfl (ds_seq (ds_asgS (n := 1) de_var (dgs_cons dg_name (dgs_cons dg_name dgs_nil)))
    (ds_seq (ds_own (i := 3) (df_lst (da_cons de_var da_nil)))
    (ds_seq (ds_for (di_zipZ (da_cons (de_ixTbl (td_SHAPES T) (ti_SHAPES T) (by decide +kernel) dq_var) (da_cons de_var da_nil))) (dg_tup (dgs_cons dg_name (dgs_cons dg_name dgs_nil)) (mgn_cons (mgn_cons mgn_nil mgp_name) mgp_name)) (ds_if (dt_test (DE.q (de_op od_eq dq_var (DE.q (de_str (by decide +kernel)))))) (ds_app (de_call (fun _ _ _ _ => .nil) (da_cons de_var da_nil))) (ds_if (dt_test (DE.q (de_op od_eq dq_var (DE.q (de_str (by decide +kernel)))))) (ds_app (de_joined (DJ.cons (de_str (by decide +kernel)) (DJ.cons (de_fmt (DE.q (de_call (fun _ _ _ _ => .nil) (da_cons de_var da_nil)))) (DJ.cons (de_str (by decide +kernel)) DJ.nil))))) (ds_app (de_CB cd_strA (db_cons dq_var db_nil))))))
    (ds_frz 3 (ds_ret (de_join (DE.q (de_str (by decide +kernel))) dq_var)))))) h
/-! ### pattern_text -/
theorem ok_pattern_text (T : Txt w K mg) : FnOk P w K mg base (L2.CX P w) 75 (He.fAd K ("pattern_text", none)) (fdF K ("pattern_text", none)) ["pattern"] (spD K mg m_pattern_text) := by
  refine (F_pattern_text T).ok (k := 74) sc_pattern_text (fun vs H Q E h => spD_len h) (fun cdv A outer s H vs Q E hr h => ?_)
  refine ⟨_, (pss_cons (ps_expr (pe_call (ok_need_pattern T) (hr.mono (by first | decide | omega)) (by rfl) (g_need_pattern T) (kp_need_pattern T) (b_need_pattern T) .nil (passes_call (takes_of rfl rfl rfl rfl) (fun _ _ _ _ h => h)) (pa_cons (pv 0) pa_nil)))
    (pss_one (ps_ret (pe_call (ok_pattern_so T 70) (hr.mono (by first | decide | omega)) (by rfl) (g_pattern_so T) (kp_pattern_so T) (b_pattern_so T) .nil (passes_call (takes_of rfl rfl rfl rfl) (fun _ _ _ _ h => h)) (pa_cons (pv 0) pa_nil))))), ?_⟩
  exact spD_run (K := K) (mg := mg) (E := E) (np := 1) (n := 0) rfl (ds_seq (ds_drop (de_call (fun _ _ _ _ => .nil) (da_cons de_var da_nil)))
    (ds_ret (de_call (fun _ _ _ _ => .nil) (da_cons de_var da_nil)))) h
/-! ### wish_text -/
theorem ok_wish_text (T : Txt w K mg) : FnOk P w K mg base (L2.CX P w) 144 (He.fAd K ("wish_text", none)) (fdF K ("wish_text", none)) ["wish"] (spD K mg m_wish_text) := by
  refine (F_wish_text T).ok (k := 143) sc_wish_text (fun vs H Q E h => spD_len h) (fun cdv A outer s H vs Q E hr h => ?_)
  refine ⟨_, (pss_cons (ps_expr (pe_call (ok_need_wish T) (hr.mono (by first | decide | omega)) (by rfl) (g_need_wish T) (kp_need_wish T) (b_need_wish T) .nil (passes_call (takes_of rfl rfl rfl rfl) (fun _ _ _ _ h => h)) (pa_cons (pv 0) pa_nil)))
    (pss_one (ps_ret (pe_call (ok_wish_so T 70) (hr.mono (by first | decide | omega)) (by rfl) (g_wish_so T) (kp_wish_so T) (b_wish_so T) .nil (passes_call (takes_of rfl rfl rfl rfl) (fun _ _ _ _ h => h)) (pa_cons (pv 0) pa_nil))))), ?_⟩
  exact spD_run (K := K) (mg := mg) (E := E) (np := 1) (n := 0) rfl (ds_seq (ds_drop (de_call (fun _ _ _ _ => .nil) (da_cons de_var da_nil)))
    (ds_ret (de_call (fun _ _ _ _ => .nil) (da_cons de_var da_nil)))) h
/-! ### Reader.__init__ -/
theorem ok_Reader___init__ (T : Txt w K mg) : FnOk P w K mg base (L2.CX P w) 1 (He.fAd K ("Reader", some "__init__")) (fdF K ("Reader", some "__init__")) ["self", "text"] (spD K mg m_Reader___init__) := by
  refine (F_Reader___init__ T).ok (k := 0) sc_Reader___init__ (fun vs H Q E h => spD_len h) (fun cdv A outer s H vs Q E hr h => ?_)
  refine ⟨_, (pss_cons (ps_fld (pv 0) (pv 1) rfl)
    (pss_cons (ps_fld (pv 0) pe_int rfl)
    (pss_one (ps_fld (pv 0) pe_int rfl)))), ?_⟩
  exact spD_run (K := K) (mg := mg) (E := E) (np := 2) (n := 0) rfl (ds_seq (ds_fset (g_Reader T) (cl_Reader T) (na_Reader_signs_left T) de_var de_var)
    (ds_seq (ds_fset (g_Reader T) (cl_Reader T) (na_Reader_at T) de_int de_var)
    (ds_fset (g_Reader T) (cl_Reader T) (na_Reader_parts T) de_int de_var))) h
/-! ### Reader.sign -/
theorem ok_Reader_sign (T : Txt w K mg) : FnOk P w K mg base (L2.CX P w) 1 (He.fAd K ("Reader", some "sign")) (fdF K ("Reader", some "sign")) ["self"] (spD K mg m_Reader_sign) := by
  refine (F_Reader_sign T).ok (k := 0) sc_Reader_sign (fun vs H Q E h => spD_len h) (fun cdv A outer s H vs Q E hr h => ?_)
  refine ⟨_, (pss_one (ps_ret (pe_slice sl_str (pe_fld (pv 0) rfl) (po_some (pe_fld (pv 0) rfl)) (po_some (pe_op op_addX (pe_fld (pv 0) rfl) pe_int))))), ?_⟩
  exact spD_run (K := K) (mg := mg) (E := E) (np := 1) (n := 0) rfl (ds_ret (de_sl sd_str (DE.q (de_fld (g_Reader T) (cl_Reader T) (na_Reader_signs_left T) de_var)) (do_some (DE.q (de_fld (g_Reader T) (cl_Reader T) (na_Reader_at T) de_var))) (do_some (DE.q (de_op od_add (DE.q (de_fld (g_Reader T) (cl_Reader T) (na_Reader_at T) de_var)) (DE.q de_int)))))) h
/-! ### Reader.one_of -/
theorem ok_Reader_one_of (T : Txt w K mg) : FnOk P w K mg base (L2.CX P w) 2 (He.fAd K ("Reader", some "one_of")) (fdF K ("Reader", some "one_of")) ["self", "signs"] (spD K mg m_Reader_one_of) := by
  refine (F_Reader_one_of T).ok (k := 1) sc_Reader_one_of (fun vs H Q E h => spD_len h) (fun cdv A outer s H vs Q E hr h => ?_)
  refine ⟨_, (pss_cons (ps_set (i := 2) sc_Reader_one_of.nd rfl (by first | exact Or.inl rfl | exact Or.inr rfl) (pe_meth0 (pv 0) (cl_Reader T) (me_Reader_sign T) (ok_Reader_sign T) (hr.mono (by first | decide | omega)) (b_Reader_sign T) .nil (passes_call (takes_of rfl rfl rfl rfl) (fun _ _ _ _ h => h))))
    (pss_cons (ps_if (PW.pt (pw_or (pt_cmpR (op_eqD hr.units) (pv 2) pe_str (nomark _)) (pw_or1 (pt_cmpR op_notInX (pv 2) (pv 1) (by rfl))))) (pss_one ps_never) pss_nil)
    (pss_cons (ps_fldaug (pv 0) pe_int in_add)
    (pss_one (ps_ret (pv 2)))))), ?_⟩
  exact spD_run (K := K) (mg := mg) (E := E) (np := 2) (n := 1) rfl (ds_seq (ds_asg (de_meth (g_Reader T) (fun _ _ _ _ => .nil) de_var da_nil) dg_name)
    (ds_seq (ds_if (dt_or (dt_test (DE.q (de_op od_eq dq_var (DE.q (de_str (by decide +kernel)))))) (dt_test (DE.q (de_op od_notIn dq_var dq_var)))) ds_never ds_next)
    (ds_seq (ds_faug (g := fun i j => i + j) (g_Reader T) (cl_Reader T) (na_Reader_at T) de_var de_int)
    (ds_ret de_var)))) h
/-! ### Reader.begin -/
theorem ok_Reader_begin (T : Txt w K mg) : FnOk P w K mg base (L2.CX P w) 1 (He.fAd K ("Reader", some "begin")) (fdF K ("Reader", some "begin")) ["self", "deep"] (spD K mg m_Reader_begin) := by
  refine (F_Reader_begin T).ok (k := 0) sc_Reader_begin (fun vs H Q E h => spD_len h) (fun cdv A outer s H vs Q E hr h => ?_)
  refine ⟨_, (pss_cons (ps_if (PW.pt (pw_or (pt_cmpR op_ge (pe_fld (pv 0) rfl) (pe_gv (gv_MOST_PARTS T) rfl) (nomark _)) (pw_or1 (pt_cmpR op_gt (pv 1) (pe_gv (gv_MOST_DEEP T) rfl) (nomark _))))) (pss_one ps_never) pss_nil)
    (pss_one (ps_fldaug (pv 0) pe_int in_add))), ?_⟩
  exact spD_run (K := K) (mg := mg) (E := E) (np := 2) (n := 0) rfl (ds_seq (ds_if (dt_or (dt_test (DE.q (de_op (od_I0 fun _ _ _ _ _ _ => .bl _) (DE.q (de_fld (g_Reader T) (cl_Reader T) (na_Reader_parts T) de_var)) (DE.q de_int)))) (dt_test (DE.q (de_op (od_I0 fun _ _ _ _ _ _ => .bl _) dq_var (DE.q de_int))))) ds_never ds_next)
    (ds_faug (g := fun i j => i + j) (g_Reader T) (cl_Reader T) (na_Reader_parts T) de_var de_int)) h
/-! ### Reader.pattern -/
theorem ok_Reader_pattern (T : Txt w K mg) : ∀ n, FnOk P w K mg base (L2.CX P w) (2 + n) (He.fAd K ("Reader", some "pattern")) (fdF K ("Reader", some "pattern")) ["self", "deep"] (spD K mg (m_Reader_pattern n))
  | 0 => ⟨fun vs H Q E h => by obtain ⟨_, _, _, _, _, _, _, _, hm, _⟩ := h; exact hm.elim, fun _ _ _ _ _ _ _ _ _ _ _ _ _ h => by obtain ⟨_, _, _, _, _, _, _, _, hm, _⟩ := h; exact hm.elim⟩
  | n + 1 => by
    have ih : FnOk P w K mg base (L2.CX P w) (2 + n) (He.fAd K ("Reader", some "pattern")) (fdF K ("Reader", some "pattern")) ["self", "deep"] (spD K mg (m_Reader_pattern n)) := ok_Reader_pattern T n
    refine (F_Reader_pattern T).ok (k := 2 + n) sc_Reader_pattern (fun vs H Q E h => spD_len h) (fun cdv A outer s H vs Q E hr h => ?_)
    refine ⟨_, (pss_cons (ps_set (i := 2) sc_Reader_pattern.nd rfl (by first | exact Or.inl rfl | exact Or.inr rfl) (pe_fld (pv 0) rfl))
    (pss_cons (ps_set (i := 3) sc_Reader_pattern.nd rfl (by first | exact Or.inl rfl | exact Or.inr rfl) (pe_meth (pv 0) (cl_Reader T) (me_Reader_one_of T) (ok_Reader_one_of T) (hr.mono (by first | decide | omega)) (b_Reader_one_of T) .nil (passes_call (takes_of rfl rfl rfl rfl) (fun _ _ _ _ h => h)) (pa_cons (pe_op op_addX pe_str (pe_gv (gv_LETTERS T) rfl)) pa_nil)))
    (pss_cons (ps_fld (pv 0) (pv 2) rfl)
    (pss_cons (ps_expr (pe_meth (pv 0) (cl_Reader T) (me_Reader_begin T) (ok_Reader_begin T) (hr.mono (by first | decide | omega)) (b_Reader_begin T) .nil (passes_call (takes_of rfl rfl rfl rfl) (fun _ _ _ _ h => h)) (pa_cons (pv 1) pa_nil)))
    (pss_cons (ps_fldaug (pv 0) pe_int in_add)
    (pss_cons (ps_if (pt_cmpR (op_eqD hr.units) (pv 3) pe_str (nomark _)) (pss_one (ps_ret (pe_tup (pa_cons pe_str pa_nil)))) pss_nil)
    (pss_cons (ps_if (pt_cmpR op_inX (pv 3) (pe_gv (gv_LETTERS T) rfl) (by rfl)) (pss_one (ps_ret (pe_tup (pa_cons pe_str (pa_cons (pv 3) pa_nil))))) pss_nil)
    (pss_cons (ps_set (i := 4) sc_Reader_pattern.nd rfl (by first | exact Or.inl rfl | exact Or.inr rfl) (pe_ix (show IxR _ (rIxD K w) from ix_kdict) (pe_gdef (g_PATTERN_SIGNS T) rfl) (pv 3) (fun _ _ => rfl)))
    (pss_cons (ps_set (i := 5) sc_Reader_pattern.nd rfl (by first | exact Or.inl rfl | exact Or.inr rfl) (pe_lst (pa_cons (pe_meth (pv 0) (cl_Reader T) (me_Reader_pattern T) ih (hr.mono (by first | decide | omega)) (b_Reader_pattern T) .nil (passes_call (takes_of rfl rfl rfl rfl) (fun _ _ _ _ h => h)) (pa_cons (pe_op op_addX (pv 1) pe_int) pa_nil)) pa_nil)))
    (pss_cons (ps_if (pt_cmpR (op_neD hr.units) (pv 4) pe_str (nomark _)) (pss_cons (ps_expr (pe_meth (pv 0) (cl_Reader T) (me_Reader_one_of T) (ok_Reader_one_of T) (hr.mono (by first | decide | omega)) (b_Reader_one_of T) .nil (passes_call (takes_of rfl rfl rfl rfl) (fun _ _ _ _ h => h)) (pa_cons pe_str pa_nil)))
    (pss_one (ps_expr (pe_bm PySem.F.plainAttrs_list PySem.F.slot_list_append PySem.F.type_list_append mt_append (pv 5) (pa_cons (pe_meth (pv 0) (cl_Reader T) (me_Reader_pattern T) ih (hr.mono (by first | decide | omega)) (b_Reader_pattern T) .nil (passes_call (takes_of rfl rfl rfl rfl) (fun _ _ _ _ h => h)) (pa_cons (pe_op op_addX (pv 1) pe_int) pa_nil)) pa_nil))))) pss_nil)
    (pss_cons (ps_expr (pe_meth (pv 0) (cl_Reader T) (me_Reader_one_of T) (ok_Reader_one_of T) (hr.mono (by first | decide | omega)) (b_Reader_one_of T) .nil (passes_call (takes_of rfl rfl rfl rfl) (fun _ _ _ _ h => h)) (pa_cons (pe_ix (show IxR _ (rIxD K w) from ix_kdict) (pe_gdef (g_CLOSING T) rfl) (pv 4) (fun _ _ => rfl)) pa_nil)))
    (pss_one (ps_ret (pe_op op_addX (pe_tup (pa_cons (pv 4) pa_nil)) (pe_callTy call_tuple_of (by rfl) (fr_tuple T) (by decide +kernel) (pa_cons (pv 5) pa_nil)))))))))))))))), ?_⟩
    exact spD_run (K := K) (mg := mg) (E := E) (np := 2) (n := 4) rfl (ds_seq (ds_asg (de_fld (g_Reader T) (cl_Reader T) (na_Reader_at T) de_var) dg_name)
    (ds_seq (ds_asg (de_meth (g_Reader T) (fun _ _ _ _ => .nil) de_var (da_cons (de_op od_add (DE.q (de_str (by decide +kernel))) (DE.q (de_str (by decide +kernel)))) da_nil)) dg_name)
    (ds_seq (ds_fset (g_Reader T) (cl_Reader T) (na_Reader_at T) de_var de_var)
    (ds_seq (ds_drop (de_meth (g_Reader T) (fun _ _ _ _ => .nil) de_var (da_cons de_var da_nil)))
    (ds_seq (ds_faug (g := fun i j => i + j) (g_Reader T) (cl_Reader T) (na_Reader_at T) de_var de_int)
    (ds_seq (ds_if (dt_test (DE.q (de_op od_eq dq_var (DE.q (de_str (by decide +kernel)))))) (ds_ret (de_tup (da_cons (de_str (by decide +kernel)) da_nil))) ds_next)
    (ds_seq (ds_if (dt_test (DE.q (de_op od_in dq_var (DE.q (de_str (by decide +kernel)))))) (ds_ret (de_tup (da_cons (de_str (by decide +kernel)) (da_cons de_var da_nil)))) ds_next)
    (ds_seq (ds_asg (de_ixTbl (td_PATTERN_SIGNS T) (ti_PATTERN_SIGNS T) (by decide +kernel) dq_var) dg_name)
    (ds_seq (ds_own (i := 5) (df_lst (da_cons (de_meth (g_Reader T) (fun _ _ _ _ => .nil) de_var (da_cons (de_op od_add dq_var (DE.q de_int)) da_nil)) da_nil)))
    (ds_seq (ds_if (dt_test (DE.q (de_op od_ne dq_var (DE.q (de_str (by decide +kernel)))))) (ds_seq (ds_drop (de_meth (g_Reader T) (fun _ _ _ _ => .nil) de_var (da_cons (de_str (by decide +kernel)) da_nil)))
    (ds_app (de_meth (g_Reader T) (fun _ _ _ _ => .nil) de_var (da_cons (de_op od_add dq_var (DE.q de_int)) da_nil)))) ds_next)
    (ds_frz 5 (ds_seq (ds_drop (de_meth (g_Reader T) (fun _ _ _ _ => .nil) de_var (da_cons (de_ixTbl (td_CLOSING T) (ti_CLOSING T) (by decide +kernel) dq_var) da_nil)))
    (ds_ret (de_op od_add (DE.q (de_tup (da_cons de_var da_nil))) (DE.q (de_CB cd_tupleOf (db_cons dq_var db_nil))))))))))))))))) h
/-! ### Reader.read_word -/
theorem ok_Reader_read_word (T : Txt w K mg) : FnOk P w K mg base (L2.CX P w) 3 (He.fAd K ("Reader", some "read_word")) (fdF K ("Reader", some "read_word")) ["self", "deep"] (spD K mg m_Reader_read_word) := by
  refine (F_Reader_read_word T).ok (k := 2) sc_Reader_read_word (fun vs H Q E h => spD_len h) (fun cdv A outer s H vs Q E hr h => ?_)
  refine ⟨_, (pss_cons (ps_set (i := 2) sc_Reader_read_word.nd rfl (by first | exact Or.inl rfl | exact Or.inr rfl) pe_str)
    (pss_cons (ps_while (passes_of rfl) (pt_cmpR (op_notInTbl (td_SHAPES T)) (pv 2) (pe_gdef (g_SHAPES T) rfl) (by rfl)) (pss_cons (ps_aug (i := 2) sc_Reader_read_word.nd rfl (by first | exact Or.inl rfl | exact Or.inr rfl) (pe_meth (pv 0) (cl_Reader T) (me_Reader_one_of T) (ok_Reader_one_of T) (hr.mono (by first | decide | omega)) (b_Reader_one_of T) .nil (passes_call (takes_of rfl rfl rfl rfl) (fun _ _ _ _ h => h)) (pa_cons (pe_joinN pe_str (pe_lc (own := [("word", 3)]) (g := (gName 3))  (by rfl) sc_Reader_read_word.nd (pi_kd (td_SHAPES T) (ti_SHAPES T) (pe_gdef (g_SHAPES T) rfl)) (blkOk_by (own := [("word", 3)]) (N := ["self", "deep", "found", "word"]) (sc := defScope s_Reader_read_word) (by decide +kernel)) (fun _ _ _ _ _ => (pg_name (i := 3) sc_Reader_read_word.nd rfl (by first | exact Or.inl rfl | exact Or.inr rfl))) (fun _ _ _ _ _ => (pts_one (pt_val (pe_m1 PySem.F.slot_str_startswith PySem.F.type_str_startswith (show MtR _ "str.startswith" rStartsW from mt_startswith) (pv 3) (pv 2))))) (fun _ _ _ _ _ => (pe_ix (show IxR _ (rIx K) from ix_seq) (pv 3) (pe_callB (show CallR _ (.builtin "len") (rLenA K) from call_lenA) (by rfl) (fr_len T) (by decide +kernel) (pa_cons (pv 2) pa_nil)) (fun _ _ => rfl))))) pa_nil)) ip_addS)
    (pss_one (ps_if (pt_cmpR (op_eqD hr.units) (pe_callB call_lenA (by rfl) (fr_len T) (by decide +kernel) (pa_cons (pv 2) pa_nil)) pe_int (nomark _)) (pss_cons (ps_fldaug (pv 0) pe_int in_sub)
    (pss_cons (ps_expr (pe_meth (pv 0) (cl_Reader T) (me_Reader_begin T) (ok_Reader_begin T) (hr.mono (by first | decide | omega)) (b_Reader_begin T) .nil (passes_call (takes_of rfl rfl rfl rfl) (fun _ _ _ _ h => h)) (pa_cons (pv 1) pa_nil)))
    (pss_one (ps_fldaug (pv 0) pe_int in_add)))) pss_nil))))
    (pss_one (ps_ret (pv 2))))), ?_⟩
  exact spD_run (K := K) (mg := mg) (E := E) (np := 2) (n := 2) rfl (ds_seq (ds_asg (de_str (by decide +kernel)) dg_name)
    (ds_seq (ds_while (dt_test (DE.q (de_notInTbl (ti_SHAPES T) dq_var))) (ds_seq (ds_aug od_ipS (DE.q (de_meth (g_Reader T) (fun _ _ _ _ => .nil) de_var (da_cons (de_join (DE.q (de_str (by decide +kernel))) (DE.q (de_lc (E' := E0) (vs := [3]) (di_kd (ks := ([(("all" : Str), V.str "p"), (("one" : Str), V.str "p"), (("each" : Str), V.str "mp"), (("last" : Str), V.str "kk"), (("turns" : Str), V.str "k"), (("apart" : Str), V.str "n"), (("upon" : Str), V.str "kww"), (("cut" : Str), V.str "kw"), (("both" : Str), V.str "ww"), (("either" : Str), V.str "ww"), (("not" : Str), V.str "w")] : List (Str × V)).map (·.1)) (by decide +kernel)) dg_name (by decide) (dt_b (DE.q (de_sw dq_var dq_var))) (de_op od_ix dq_var (DE.q (de_CB cd_len (db_cons dq_var db_nil))))))) da_nil))))
    (ds_if (dt_test (DE.q (de_op od_eq (DE.q (de_CB cd_len (db_cons dq_var db_nil))) (DE.q de_int)))) (ds_seq (ds_faug (g := fun i j => i - j) (g_Reader T) (cl_Reader T) (na_Reader_at T) de_var de_int)
    (ds_seq (ds_drop (de_meth (g_Reader T) (fun _ _ _ _ => .nil) de_var (da_cons de_var da_nil)))
    (ds_faug (g := fun i j => i + j) (g_Reader T) (cl_Reader T) (na_Reader_at T) de_var de_int))) ds_next)))
    (ds_ret de_var))) h
/-! ### Reader.thing -/
theorem ok_Reader_thing_ (T : Txt w K mg) {lv : Nat} {self : List D → M D} (hl : 72 ≤ lv) (ih : FnOk P w K mg base (L2.CX P w) lv (He.fAd K ("Reader", some "wish")) (fdF K ("Reader", some "wish")) ["self", "deep"] (spD K mg self)) : FnOk P w K mg base (L2.CX P w) (lv + 1) (He.fAd K ("Reader", some "thing")) (fdF K ("Reader", some "thing")) ["self", "shape", "deep"] (spD K mg (b_Reader_thing_ self)) := by
  refine (F_Reader_thing T).ok (k := lv + 0) sc_Reader_thing (fun vs H Q E h => spD_len h) (fun cdv A outer s H vs Q E hr h => ?_)
  refine ⟨_, (pss_cons (ps_if (pt_cmpR (op_eqD hr.units) (pv 1) pe_str (nomark _)) (pss_one (ps_ret (pe_meth (pv 0) (cl_Reader T) (me_Reader_pattern T) (ok_Reader_pattern T 70) (hr.mono (by first | decide | omega)) (b_Reader_pattern T) .nil (passes_call (takes_of rfl rfl rfl rfl) (fun _ _ _ _ h => h)) (pa_cons (pe_op op_addX (pv 2) pe_int) pa_nil)))) pss_nil)
    (pss_cons (ps_if (pt_cmpR (op_neD hr.units) (pv 1) pe_str (nomark _)) (pss_cons (ps_set (i := 3) sc_Reader_thing.nd rfl (by first | exact Or.inl rfl | exact Or.inr rfl) (pe_meth (pv 0) (cl_Reader T) (me_Reader_one_of T) (ok_Reader_one_of T) (hr.mono (by first | decide | omega)) (b_Reader_one_of T) .nil (passes_call (takes_of rfl rfl rfl rfl) (fun _ _ _ _ h => h)) (pa_cons (pe_ix (show IxR _ (rIxD K w) from ix_kdict) (pe_gdef (g_FIGURES T) rfl) (pv 1) (fun _ _ => rfl)) pa_nil)))
    (pss_one (ps_ret (pe_ifExp (pt_cmpR (op_eqD hr.units) (pv 1) pe_str (nomark _)) (pv 3) (pe_callTy (show CallR _ (.type "int") rIntS from call_int_str) (by rfl) (fr_int T) (by decide +kernel) (pa_cons (pv 3) pa_nil)))))) pss_nil)
    (pss_cons (ps_expr (pe_meth (pv 0) (cl_Reader T) (me_Reader_one_of T) (ok_Reader_one_of T) (hr.mono (by first | decide | omega)) (b_Reader_one_of T) .nil (passes_call (takes_of rfl rfl rfl rfl) (fun _ _ _ _ h => h)) (pa_cons pe_str pa_nil)))
    (pss_cons (ps_set (i := 3) sc_Reader_thing.nd rfl (by first | exact Or.inl rfl | exact Or.inr rfl) (pe_meth (pv 0) (cl_Reader T) (me_Reader_wish T) ih (hr.mono (by first | decide | omega)) (b_Reader_wish T) .nil (passes_call (takes_of rfl rfl rfl rfl) (fun _ _ _ _ h => h)) (pa_cons (pe_op op_addX (pv 2) pe_int) pa_nil)))
    (pss_cons (ps_expr (pe_meth (pv 0) (cl_Reader T) (me_Reader_one_of T) (ok_Reader_one_of T) (hr.mono (by first | decide | omega)) (b_Reader_one_of T) .nil (passes_call (takes_of rfl rfl rfl rfl) (fun _ _ _ _ h => h)) (pa_cons pe_str pa_nil)))
    (pss_one (ps_ret (pv 3)))))))), ?_⟩
  exact spD_run (K := K) (mg := mg) (E := E) (np := 3) (n := 1) rfl (ds_seq (ds_if (dt_test (DE.q (de_op od_eq dq_var (DE.q (de_str (by decide +kernel)))))) (ds_ret (de_meth (g_Reader T) (fun _ _ _ _ => .nil) de_var (da_cons (de_op od_add dq_var (DE.q de_int)) da_nil))) ds_next)
    (ds_seq (ds_if (dt_test (DE.q (de_op od_ne dq_var (DE.q (de_str (by decide +kernel)))))) (ds_seq (ds_asg (de_meth (g_Reader T) (fun _ _ _ _ => .nil) de_var (da_cons (de_ixTbl (td_FIGURES T) (ti_FIGURES T) (by decide +kernel) dq_var) da_nil)) dg_name)
    (ds_ret (de_if (dt_test (DE.q (de_op od_eq dq_var (DE.q (de_str (by decide +kernel)))))) de_var (de_CB cd_intS (db_cons dq_var db_nil))))) ds_next)
    (ds_seq (ds_drop (de_meth (g_Reader T) (fun _ _ _ _ => .nil) de_var (da_cons (de_str (by decide +kernel)) da_nil)))
    (ds_seq (ds_asg (de_meth (g_Reader T) (fun _ _ _ _ => .nil) de_var (da_cons (de_op od_add dq_var (DE.q de_int)) da_nil)) dg_name)
    (ds_seq (ds_drop (de_meth (g_Reader T) (fun _ _ _ _ => .nil) de_var (da_cons (de_str (by decide +kernel)) da_nil)))
    (ds_ret de_var)))))) h
/-! ### Reader.wish -/
theorem ok_Reader_wish (T : Txt w K mg) : ∀ n, FnOk P w K mg base (L2.CX P w) (72 + 2 * n) (He.fAd K ("Reader", some "wish")) (fdF K ("Reader", some "wish")) ["self", "deep"] (spD K mg (m_Reader_wish n))
  | 0 => ⟨fun vs H Q E h => by obtain ⟨_, _, _, _, _, _, _, _, hm, _⟩ := h; exact hm.elim, fun _ _ _ _ _ _ _ _ _ _ _ _ _ h => by obtain ⟨_, _, _, _, _, _, _, _, hm, _⟩ := h; exact hm.elim⟩
  | n + 1 => by
    have ih : FnOk P w K mg base (L2.CX P w) (72 + 2 * n) (He.fAd K ("Reader", some "wish")) (fdF K ("Reader", some "wish")) ["self", "deep"] (spD K mg (m_Reader_wish n)) := ok_Reader_wish T n
    refine (F_Reader_wish T).ok (k := 72 + 2 * n + 1) sc_Reader_wish (fun vs H Q E h => spD_len h) (fun cdv A outer s H vs Q E hr h => ?_)
    refine ⟨_, (pss_cons (ps_set (i := 2) sc_Reader_wish.nd rfl (by first | exact Or.inl rfl | exact Or.inr rfl) (pe_meth (pv 0) (cl_Reader T) (me_Reader_read_word T) (ok_Reader_read_word T) (hr.mono (by first | decide | omega)) (b_Reader_read_word T) .nil (passes_call (takes_of rfl rfl rfl rfl) (fun _ _ _ _ h => h)) (pa_cons (pv 1) pa_nil)))
    (pss_cons (ps_set (i := 3) sc_Reader_wish.nd rfl (by first | exact Or.inl rfl | exact Or.inr rfl) (pe_lst pa_nil))
    (pss_cons (ps_for (passes_of rfl) (by rfl) (pi_str (pe_ix (show IxR _ (rIxD K w) from ix_kdict) (pe_gdef (g_SHAPES T) rfl) (pv 2) (fun _ _ => rfl))) (pg_name (i := 4) sc_Reader_wish.nd rfl (by first | exact Or.inl rfl | exact Or.inr rfl)) (pss_cons (ps_expr (pe_meth (pv 0) (cl_Reader T) (me_Reader_one_of T) (ok_Reader_one_of T) (hr.mono (by first | decide | omega)) (b_Reader_one_of T) .nil (passes_call (takes_of rfl rfl rfl rfl) (fun _ _ _ _ h => h)) (pa_cons pe_str pa_nil)))
    (pss_one (ps_expr (pe_bm PySem.F.plainAttrs_list PySem.F.slot_list_append PySem.F.type_list_append mt_append (pv 3) (pa_cons (pe_meth (pv 0) (cl_Reader T) (me_Reader_thing T) (ok_Reader_thing_ T (by omega) ih) (hr.mono (by first | decide | omega)) (b_Reader_thing T) .nil (passes_call (takes_of rfl rfl rfl rfl) (fun _ _ _ _ h => h)) (pa_cons (pv 4) (pa_cons (pv 1) pa_nil))) pa_nil))))))
    (pss_one (ps_ret (pe_op op_addX (pe_tup (pa_cons (pv 2) pa_nil)) (pe_callTy call_tuple_of (by rfl) (fr_tuple T) (by decide +kernel) (pa_cons (pv 3) pa_nil)))))))), ?_⟩
    exact spD_run (K := K) (mg := mg) (E := E) (np := 2) (n := 3) rfl (ds_seq (ds_asg (de_meth (g_Reader T) (fun _ _ _ _ => .nil) de_var (da_cons de_var da_nil)) dg_name)
    (ds_seq (ds_own (i := 3) (df_lst da_nil))
    (ds_seq (ds_for (di_str (de_ixTbl (td_SHAPES T) (ti_SHAPES T) (by decide +kernel) dq_var)) dg_name (ds_seq (ds_drop (de_meth (g_Reader T) (fun _ _ _ _ => .nil) de_var (da_cons (de_str (by decide +kernel)) da_nil)))
    (ds_app (de_meth (g_Reader T) (fun _ _ _ _ => .nil) de_var (da_cons de_var (da_cons de_var da_nil))))))
    (ds_frz 3 (ds_ret (de_op od_add (DE.q (de_tup (da_cons de_var da_nil))) (DE.q (de_CB cd_tupleOf (db_cons dq_var db_nil))))))))) h
/-! ### Reader.end -/
theorem ok_Reader_end (T : Txt w K mg) : FnOk P w K mg base (L2.CX P w) 2 (He.fAd K ("Reader", some "end")) (fdF K ("Reader", some "end")) ["self"] (spD K mg m_Reader_end) := by
  refine (F_Reader_end T).ok (k := 1) sc_Reader_end (fun vs H Q E h => spD_len h) (fun cdv A outer s H vs Q E hr h => ?_)
  refine ⟨_, (pss_one (ps_if (pt_cmpR (op_neD hr.units) (pe_meth0 (pv 0) (cl_Reader T) (me_Reader_sign T) (ok_Reader_sign T) (hr.mono (by first | decide | omega)) (b_Reader_sign T) .nil (passes_call (takes_of rfl rfl rfl rfl) (fun _ _ _ _ h => h))) pe_str (nomark _)) (pss_one ps_never) pss_nil)), ?_⟩
  exact spD_run (K := K) (mg := mg) (E := E) (np := 1) (n := 0) rfl (ds_if (dt_test (DE.q (de_op od_ne (DE.q (de_meth (g_Reader T) (fun _ _ _ _ => .nil) de_var da_nil)) (DE.q (de_str (by decide +kernel)))))) ds_never ds_next) h
/-! ### read_pattern -/
theorem ok_read_pattern (T : Txt w K mg) : FnOk P w K mg base (L2.CX P w) 73 (He.fAd K ("read_pattern", none)) (fdF K ("read_pattern", none)) ["text"] (spD K mg m_read_pattern) := by
  refine (F_read_pattern T).ok (k := 72) sc_read_pattern (fun vs H Q E h => spD_len h) (fun cdv A outer s H vs Q E hr h => ?_)
  refine ⟨_, (pss_cons (ps_set (i := 1) sc_read_pattern.nd rfl (by first | exact Or.inl rfl | exact Or.inr rfl) (pe_make (mk_Reader T) (ok_Reader___init__ T) (hr.mono (by first | decide | omega)) (by rfl) (g_Reader T) (b_Reader___init__ T) .nil (passes_call (takes_of rfl rfl rfl rfl) (fun _ _ _ _ h => h)) (pa_cons (pv 0) pa_nil)))
    (pss_cons (ps_set (i := 2) sc_read_pattern.nd rfl (by first | exact Or.inl rfl | exact Or.inr rfl) (pe_meth (pv 1) (cl_Reader T) (me_Reader_pattern T) (ok_Reader_pattern T 70) (hr.mono (by first | decide | omega)) (b_Reader_pattern T) .nil (passes_call (takes_of rfl rfl rfl rfl) (fun _ _ _ _ h => h)) (pa_cons pe_int pa_nil)))
    (pss_cons (ps_expr (pe_meth0 (pv 1) (cl_Reader T) (me_Reader_end T) (ok_Reader_end T) (hr.mono (by first | decide | omega)) (b_Reader_end T) .nil (passes_call (takes_of rfl rfl rfl rfl) (fun _ _ _ _ h => h))))
    (pss_one (ps_ret (pv 2)))))), ?_⟩
  exact spD_run (K := K) (mg := mg) (E := E) (np := 1) (n := 2) rfl (ds_seq (ds_asg (de_make (g_Reader T) (fun _ _ _ _ => .nil) (da_cons de_var da_nil)) dg_name)
    (ds_seq (ds_asg (de_meth (g_Reader T) (fun _ _ _ _ => .nil) de_var (da_cons de_int da_nil)) dg_name)
    (ds_seq (ds_drop (de_meth (g_Reader T) (fun _ _ _ _ => .nil) de_var da_nil))
    (ds_ret de_var)))) h
/-! ### read_wish -/
theorem ok_read_wish (T : Txt w K mg) : FnOk P w K mg base (L2.CX P w) 213 (He.fAd K ("read_wish", none)) (fdF K ("read_wish", none)) ["text"] (spD K mg m_read_wish) := by
  refine (F_read_wish T).ok (k := 212) sc_read_wish (fun vs H Q E h => spD_len h) (fun cdv A outer s H vs Q E hr h => ?_)
  refine ⟨_, (pss_cons (ps_set (i := 1) sc_read_wish.nd rfl (by first | exact Or.inl rfl | exact Or.inr rfl) (pe_make (mk_Reader T) (ok_Reader___init__ T) (hr.mono (by first | decide | omega)) (by rfl) (g_Reader T) (b_Reader___init__ T) .nil (passes_call (takes_of rfl rfl rfl rfl) (fun _ _ _ _ h => h)) (pa_cons (pv 0) pa_nil)))
    (pss_cons (ps_set (i := 2) sc_read_wish.nd rfl (by first | exact Or.inl rfl | exact Or.inr rfl) (pe_meth (pv 1) (cl_Reader T) (me_Reader_wish T) (ok_Reader_wish T 70) (hr.mono (by first | decide | omega)) (b_Reader_wish T) .nil (passes_call (takes_of rfl rfl rfl rfl) (fun _ _ _ _ h => h)) (pa_cons pe_int pa_nil)))
    (pss_cons (ps_expr (pe_meth0 (pv 1) (cl_Reader T) (me_Reader_end T) (ok_Reader_end T) (hr.mono (by first | decide | omega)) (b_Reader_end T) .nil (passes_call (takes_of rfl rfl rfl rfl) (fun _ _ _ _ h => h))))
    (pss_one (ps_ret (pv 2)))))), ?_⟩
  exact spD_run (K := K) (mg := mg) (E := E) (np := 1) (n := 2) rfl (ds_seq (ds_asg (de_make (g_Reader T) (fun _ _ _ _ => .nil) (da_cons de_var da_nil)) dg_name)
    (ds_seq (ds_asg (de_meth (g_Reader T) (fun _ _ _ _ => .nil) de_var (da_cons de_int da_nil)) dg_name)
    (ds_seq (ds_drop (de_meth (g_Reader T) (fun _ _ _ _ => .nil) de_var da_nil))
    (ds_ret de_var)))) h
/-! ### _law_bag -/
abbrev sp__law_bag (K : PySem.W.Frag) : Sp := sp_bag K
theorem okh__law_bag (T : Txt w K mg) : FnOk P w K mg base (L2.CX P w) 1 (He.fAd K ("_law_bag", none)) (fdF K ("_law_bag", none)) ["_law_script"] (sp__law_bag K) := by
  refine (F__law_bag T).ok (k := 0) sc__law_bag (fun vs H Q E h => by obtain ⟨_, _, rfl, _⟩ := h; rfl) (fun cdv A outer s H vs Q E hr h => ?_)
  refine ⟨_, (pss_one (ps_ret (pe_lst (pa_cons (pe_callTy call_listOf (by rfl) (fr_list T) (by decide +kernel) (pa_cons (pe_slice sl_list (pv 0) po_none (po_some pe_int)) pa_nil)) (pa_cons pe_int (pa_cons pe_int (pa_cons (pe_op op_add pe_int (pe_callB call_lenS (by rfl) (fr_len T) (by decide +kernel) (pa_cons (pe_slice sl_list (pv 0) po_none (po_some pe_int)) pa_nil))) (pa_cons pe_int pa_nil)))))))), ?_⟩
  obtain ⟨a, ns, rfl, hS, hl, k⟩ := h
  have ec : cutV (ns.map V.int) none (some 63) = ns.map V.int := (cutV_to (n := 63)).trans (List.take_of_length_le (by rw [List.length_map]; exact hl))
  walk_at "B"
  refine w_slL hS fun p H1 hp s1 h1 => ?_
  walk_at "S"
  refine w_listOf (.inl (SqL.of h1)) fun q H2 hq s2 h2 => ?_
  walk_at "S"
  refine w_slL (s2.seq (s1.seq hS)) fun r H3 hr s3 h3 => ?_
  walk_at "S"
  refine w_newL (by show 5 ≤ sizeLine; decide) fun b H4 hb s4 h4 => ?_
  have hq4 := s4 _ _ (s3 _ _ h2)
  rw [ec] at hq4
  exact k b q H4 (((s1.trans s2).trans s3).trans s4) (((s1.trans s2).trans s3).free hb) ⟨0, 0, _, 1, h4, hq4, ne_of_none (s3 _ _ h2) hb, Nat.zero_le _, by omega, by rw [ec, List.length_map]; omega⟩

/-! ### _law_pick -/
abbrev sp__law_pick : Sp := sp_pick
theorem bag_mod (x : Int) : 0 ≤ x % 2147483399 ∧ x % 2147483399 < 2147483399 := ⟨Int.emod_nonneg _ (by decide), Int.emod_lt_of_pos _ (by decide)⟩
theorem okh__law_pick (T : Txt w K mg) : FnOk P w K mg base (L2.CX P w) 1 (He.fAd K ("_law_pick", none)) (fdF K ("_law_pick", none)) ["_law_bag_here", "_law_top"] (sp__law_pick) := by
  refine (F__law_pick T).ok (k := 0) sc__law_pick (fun vs H Q E h => by obtain ⟨_, _, _, _, rfl, _⟩ := h; rfl) (fun cdv A outer s H vs Q E hr h => ?_)
  refine ⟨_, (pss_cons (ps_if (PW.pt (pw_and (pt_cmpR op_lt (pe_ix ix_list (pv 0) pe_int (fun _ _ => rfl)) (pv 1) (nomark _)) (pw_and1 (pt_cmpR op_lt (pe_ix ix_list (pv 0) pe_int (fun _ _ => rfl)) (pe_callB call_lenS (by rfl) (fr_len T) (by decide +kernel) (pa_cons (pe_ix ix_list (pv 0) pe_int (fun _ _ => rfl)) pa_nil)) (nomark _))))) (pss_cons (ps_set (i := 2) sc__law_pick.nd rfl (by first | exact Or.inl rfl | exact Or.inr rfl) (pe_ix ix_list (pe_ix ix_list (pv 0) pe_int (fun _ _ => rfl)) (pe_ix ix_list (pv 0) pe_int (fun _ _ => rfl)) (fun _ _ => rfl)))
    (pss_cons (ps_asg (pe_op op_add (pe_ix ix_list (pv 0) pe_int (fun _ _ => rfl)) pe_int) (pg_sub (pv 0) pe_int set_list))
    (pss_cons (ps_asg (pe_op op_mod (pe_op op_add (pe_op op_add (pe_op op_mul (pe_ix ix_list (pv 0) pe_int (fun _ _ => rfl)) pe_int) (pv 2)) (pe_op op_mul pe_int (pe_ix ix_list (pv 0) pe_int (fun _ _ => rfl)))) pe_int) (pg_sub (pv 0) pe_int set_list))
    (pss_one (ps_asg (pe_ifExp (pt_cmpR op_ge (pv 2) (pe_op op_pow pe_int pe_int) (nomark _)) (pv 2) pe_int) (pg_sub (pv 0) pe_int set_list)))))) pss_nil)
    (pss_cons (ps_if (pt_cmpR op_ge (pe_ix ix_list (pv 0) pe_int (fun _ _ => rfl)) (pv 1) (nomark _)) (pss_cons (ps_set (i := 3) sc__law_pick.nd rfl (by first | exact Or.inl rfl | exact Or.inr rfl) (pe_op op_mod (pe_ix ix_list (pv 0) pe_int (fun _ _ => rfl)) (pv 1)))
    (pss_cons (ps_asg (pe_op op_fdivW (pe_ix ix_list (pv 0) pe_int (fun _ _ => rfl)) (pv 1)) (pg_sub (pv 0) pe_int set_list))
    (pss_one (ps_ret (pv 3))))) pss_nil)
    (pss_cons (ps_asg (pe_op op_add (pe_ix ix_list (pv 0) pe_int (fun _ _ => rfl)) pe_int) (pg_sub (pv 0) pe_int set_list))
    (pss_cons (ps_asg (pe_op op_mod (pe_op op_add (pe_op op_add (pe_op op_add (pe_op op_pow (pe_ix ix_list (pv 0) pe_int (fun _ _ => rfl)) pe_int) (pe_op op_mul pe_int (pe_ix ix_list (pv 0) pe_int (fun _ _ => rfl)))) (pe_op op_fdivW (pe_ix ix_list (pv 0) pe_int (fun _ _ => rfl)) pe_int)) pe_int) pe_int) (pg_sub (pv 0) pe_int set_list))
    (pss_one (ps_ret (pe_op op_mod (pe_op op_fdivW (pe_ix ix_list (pv 0) pe_int (fun _ _ => rfl)) pe_int) (pv 1)))))))), ?_⟩
  obtain ⟨b, top, l, ns, rfl, ⟨i, h, s, n, hb, hl, ne, hi, hs0, hs1⟩, ht, htb, k⟩ := h
  refine w_seqJ (fun σ' H' => ∃ (c : Option V) (i : Nat) (h s : Int), σ' = [some (.ref b), some (.int top), c, none] ∧ H' b = some (.lst (bagL l i h s n)) ∧ del H' b = del H b ∧ i ≤ ns.length ∧ 0 ≤ s ∧ s < 2147483399) ?_ ?_
  · rintro σ' H1 ⟨c, i, h, s, rfl, hb1, e1, hi, hs0, hs1⟩
    have fin : ∀ (d : Int) (i : Nat) (h s n : Int) H2, 0 ≤ d → d < top → H2 b = some (.lst (bagL l i h s n)) → del H2 b = del H b → i ≤ ns.length → 0 ≤ s → s < 2147483399 → Q (.int d) H2 :=
      fun d i h s n H2 d0 d1 hb2 e2 hi h0 h1 => k d H2 d0 d1 ⟨i, h, s, n, hb2, by rw [del_get e2 ne]; exact hl, ne, hi, h0, h1⟩ e2
    have ht2 : (0 : Int) < top := by omega
    walk_at "B"
    refine ite2 (fun c1 => ?_) (fun c1 => ?_)
    · walk_at "S"
      exact fin _ i _ s n _ (Int.emod_nonneg _ (by omega)) (Int.emod_lt_of_pos _ ht2) (by assumption) (by simp only [*]) hi hs0 hs1
    · walk_at "S"
      exact fin _ i h _ (n + 1) _ (Int.emod_nonneg _ (by omega)) (Int.emod_lt_of_pos _ ht2) (by assumption) (by simp only [*]) hi (bag_mod _).1 (bag_mod _).2
  · intro N hN
    have stay : N [some (.ref b), some (.int top), none, none] H := hN _ _ ⟨none, i, h, s, rfl, hb, rfl, hi, hs0, hs1⟩
    walk_at "B"
    refine ite2 (fun c1 => ?_) (fun c1 => ?_)
    · walk_at "S"
      refine ite2 (fun c2 => ?_) (fun c2 => ?_)
      · have hlt : i < ns.length := by have := of_decide_eq_true c2; rw [List.length_map] at this; omega
        walk_at "S"
        refine w_ixL (SqL.of hl) (atI_nat (v := .int ns[i]) (by simp [hlt])) ?_
        walk_at "S"
        refine ite2 (fun c3 => ?_) (fun c3 => ?_)
        all_goals
          walk_at "S"
          exact hN _ _ ⟨_, i + 1, _, _, rfl, by assumption, by simp only [*], hlt, (bag_mod _).1, (bag_mod _).2⟩
      · walk_at "S"
        exact stay
    · walk_at "S"
      exact stay
theorem ok__law_pick (T : Txt w K mg) : FnOk P w K mg base (L2.CX P w) 1 (He.fAd K ("_law_pick", none)) (fdF K ("_law_pick", none)) ["_law_bag_here", "_law_top"] (spD K mg m__law_pick) := (okh__law_pick T).imp fun _ _ _ _ h => sp_pick_of h
/-! ### _law_of -/
theorem ok__law_of (T : Txt w K mg) : FnOk P w K mg base (L2.CX P w) 2 (He.fAd K ("_law_of", none)) (fdF K ("_law_of", none)) ["_law_bag_here", "_law_some"] (spD K mg m__law_of) := by
  refine (F__law_of T).ok (k := 1) sc__law_of (fun vs H Q E h => spD_len h) (fun cdv A outer s H vs Q E hr h => ?_)
  refine ⟨_, (pss_one (ps_ret (pe_ix ix_seq (pv 1) (pe_call (ok__law_pick T) (hr.mono (by first | decide | omega)) (by rfl) (g__law_pick T) (kp__law_pick T) (b__law_pick T) .nil (passes_call (takes_of rfl rfl rfl rfl) (fun _ _ _ _ h => h)) (pa_cons (pv 0) (pa_cons (pe_callB call_lenA (by rfl) (fr_len T) (by decide +kernel) (pa_cons (pv 1) pa_nil)) pa_nil))) (fun _ _ => rfl)))), ?_⟩
  exact spD_run (K := K) (mg := mg) (E := E) (np := 2) (n := 0) rfl (ds_ret (de_op od_ix dq_var (DE.q (de_call (fun _ _ _ _ => .nil) (da_cons de_var (da_cons (de_CB cd_len (db_cons dq_var db_nil)) da_nil)))))) h
/-! ### _law_shuffled -/
def sp__law_shuffled (K : PySem.W.Frag) : Sp := fun vs H Q _ => ∃ (b l a : Addr) (ns : List Int) (xs : List V), vs = [.ref b, .ref a] ∧ BagX l ns H b ∧ SqL K (del H b) a xs ∧ xs.length ≤ 1000 ∧
  ∀ ys p H', ys.Perm xs → BagX l ns H' b → Same (del H b) (del H' b) → del H b p = none → p ≠ b → H' p = some (.lst ys) → Q (.ref p) H'
theorem okh__law_shuffled (T : Txt w K mg) : FnOk P w K mg base (L2.CX P w) 2 (He.fAd K ("_law_shuffled", none)) (fdF K ("_law_shuffled", none)) ["_law_bag_here", "_law_some"] (sp__law_shuffled K) := by
  refine (F__law_shuffled T).ok (k := 1) sc__law_shuffled (fun vs H Q E h => by obtain ⟨_, _, _, _, _, rfl, _⟩ := h; rfl) (fun cdv A outer s H vs Q E hr h => ?_)
  refine ⟨_, (pss_cons (ps_set (i := 2) sc__law_shuffled.nd rfl (by first | exact Or.inl rfl | exact Or.inr rfl) (pe_callTy call_listOf (by rfl) (fr_list T) (by decide +kernel) (pa_cons (pv 1) pa_nil)))
    (pss_cons (ps_set (i := 3) sc__law_shuffled.nd rfl (by first | exact Or.inl rfl | exact Or.inr rfl) (pe_lst pa_nil))
    (pss_cons (ps_for (passes_of rfl) (by rfl) (pi_range1 (by rfl) (fr_range T) (pa_cons (pe_callB call_lenS (by rfl) (fr_len T) (by decide +kernel) (pa_cons (pv 1) pa_nil)) pa_nil)) (pg_name (i := 4) sc__law_shuffled.nd rfl (by first | exact Or.inl rfl | exact Or.inr rfl)) (pss_one (ps_expr (pe_bm PySem.F.plainAttrs_list PySem.F.slot_list_append PySem.F.type_list_append mt_append (pv 3) (pa_cons (pe_bm PySem.F.plainAttrs_list PySem.F.slot_list_pop PySem.F.type_list_pop mt_popAt (pv 2) (pa_cons (pe_call (okh__law_pick T) (hr.mono (by first | decide | omega)) (by rfl) (g__law_pick T) (kp__law_pick T) (b__law_pick T) .nil (passes_call (takes_of rfl rfl rfl rfl) (fun _ _ _ _ h => h)) (pa_cons (pv 0) (pa_cons (pe_callB call_lenS (by rfl) (fr_len T) (by decide +kernel) (pa_cons (pv 2) pa_nil)) pa_nil))) pa_nil)) pa_nil)))))
    (pss_one (ps_ret (pv 3)))))), ?_⟩
  obtain ⟨b, l, a, ns, xs, rfl, hB, ha, hl, k⟩ := h
  walk_at "B"
  refine w_listOf (.inl (same_del.seq ha)) fun p H1 hp s1 hp1 => ?_
  walk_at "S"
  refine w_newL (by simp) fun f H2 hf s2 hf2 => ?_
  have hB1 := hB.same s1
  have hB2 := hB1.same s2
  have npb := (hB.neB hp).1
  have npl := (hB.neB hp).2
  have nfb := (hB1.neB hf).1
  have nfl := (hB1.neB hf).2
  have nfp : f ≠ p := (ne_of_none hp1 hf).symm
  have s02 : Same (del H b) (del H2 b) := same_b_of (s1.trans s2)
  have dp : del H b p = none := by rw [del_ne npb]; exact hp
  have df : del H b f = none := by rw [del_ne nfb]; exact s1.free hf
  walk_at "S"
  refine w_len (same_del.seq (s02.seq ha)) ?_
  walk_at "S"
  refine for_inv (walk_range) (fun i σ H' => ∃ (st : Option V) (lf fd : List V), σ = [some (.ref b), some (.ref a), some (.ref p), some (.ref f), st] ∧ BagX l ns H' b ∧ Same (del H b) (del H' b) ∧ H' p = some (.lst lf) ∧ H' f = some (.lst fd) ∧ (fd ++ lf).Perm xs ∧ fd.length = i)
    ⟨none, xs, [], rfl, hB2, s02, s2 _ _ hp1, hf2, by simp, rfl⟩ (fun _ _ _ _ _ => trivial) ?_ ?_
  · rintro i x σ H3 H4 hi ⟨st, lf, fd, rfl, hB3, s3, hp3, hf3, pm, hfl⟩ ⟨rfl, rfl⟩
    have hln := pm.length_eq
    rw [List.length_append] at hln
    have hi2 : i < xs.length := by omega
    walk_at "S"
    refine ⟨b, _, l, ns, rfl, hB3, by omega, log_le (by omega) (by omega), fun d H5 d0 d1 hB5 e5 => ?_⟩
    obtain ⟨j, rfl⟩ := Int.eq_ofNat_of_zero_le d0
    have hj : j < lf.length := by omega
    have hp5 : H5 p = some (.lst lf) := by rw [del_get e5 npb]; exact hp3
    have hf5 : H5 f = some (.lst fd) := by rw [del_get e5 nfb]; exact hf3
    walk_at "S"
    refine w_popAt hp5 (by omega) (List.getElem?_eq_getElem hj) fun H6 hp6 e6 => ?_
    have hB6 := hB5.wr e6 npb npl
    have hf6 : H6 f = some (.lst fd) := by rw [del_get e6 nfp]; exact hf5
    walk_at "S"
    refine w_append hf6 (by omega) fun H7 hf7 e7 => ?_
    have hB7 := hB6.wr e7 nfb nfl
    walk_at "S"
    refine ⟨_, lf.eraseIdx j, fd ++ [lf[j]], rfl, hB7, ?_, ?_, hf7, ?_, by simp [hfl]⟩
    · rw [← e5] at s3
      exact same_wr (same_wr s3 dp e6) df e7
    · rw [del_get e7 nfp.symm]; exact hp6
    · refine List.Perm.trans ?_ pm
      rw [List.append_assoc]
      refine List.Perm.append_left fd ?_
      exact perm_erase hj
  · rintro σ H3 ⟨st, lf, fd, rfl, hB3, s3, hp3, hf3, pm, hfl⟩
    walk_at "S"
    have hln := pm.length_eq
    rw [List.length_append] at hln
    have e : lf = [] := List.eq_nil_of_length_eq_zero (by omega)
    subst e
    rw [List.append_nil] at pm
    exact k fd f H3 pm hB3 s3 df nfb hf3
theorem sp_shuffled_of {vs : List V} {H : Hp} {Q : VK} {E : XK} (h : spD K mg mShuffled vs H Q E) : sp__law_shuffled K vs H Q E := by
  obtain ⟨C, ds, S, P, X, rfl, st, r, hm, hx, k⟩ := h
  unfold mShuffled at hm
  split at hm
  · cases r with
    | cons r1 t => cases t with
      | cons r2 t =>
        cases t
        cases r1 with
        | bag hb =>
          rename_i b l ns
          obtain ⟨a, xs, rfl, h1, h2, h3⟩ := r2.lstI
          have hA := C.hb b l ns hb
          have hB := C.b0.bag b l ns hb
          obtain ⟨q1, q2⟩ := hid_some h1
          have hab : a ≠ b := fun z => q1 (by rw [z]; exact .inl hA)
          refine ⟨b, l, a, ns, xs, rfl, hB, SqL.of (by rw [del_ne hab]; exact q2), by rw [h3.len]; exact hm.1, fun ys p H' hp hB' sm hn np hp' => ?_⟩
          obtain ⟨es, pe, re⟩ := h3.perm hp
          have g := C.bagGo st hb hB' sm
          have hn0 : C.H0 p = none := by rw [del_ne np] at hn; exact hn
          refine k (.lst es) (.ref p) C.α0 H' S (hm.2 es pe) g (.lst ?_ (by rw [hp.length_eq]; exact h2) (RpAll.same (hid_fr g.fr) re))
          refine hid_get (fun z => ?_) hp'
          rcases z with z | z | ⟨_, z⟩
          · exact C.hA p z hn0
          · exact C.h0 p z hn0
          · cases z
  · exact hm.elim
theorem ok__law_shuffled (T : Txt w K mg) : FnOk P w K mg base (L2.CX P w) 2 (He.fAd K ("_law_shuffled", none)) (fdF K ("_law_shuffled", none)) ["_law_bag_here", "_law_some"] (spD K mg m__law_shuffled) := (okh__law_shuffled T).imp fun _ _ _ _ h => sp_shuffled_of h
/-! ### _law_same -/
theorem ok__law_same (T : Txt w K mg) : ∀ n, FnOk P w K mg base (L2.CX P w) (0 + n) (He.fAd K ("_law_same", none)) (fdF K ("_law_same", none)) ["_law_found", "_law_due"] (spD K mg (m__law_same n))
  | 0 => ⟨fun vs H Q E h => by obtain ⟨_, _, _, _, _, _, _, _, hm, _⟩ := h; exact hm.elim, fun _ _ _ _ _ _ _ _ _ _ _ _ _ h => by obtain ⟨_, _, _, _, _, _, _, _, hm, _⟩ := h; exact hm.elim⟩
  | n + 1 => by
    have ih : FnOk P w K mg base (L2.CX P w) (0 + n) (He.fAd K ("_law_same", none)) (fdF K ("_law_same", none)) ["_law_found", "_law_due"] (spD K mg (m__law_same n)) := ok__law_same T n
    refine (F__law_same T).ok (k := 0 + n) sc__law_same (fun vs H Q E h => spD_len h) (fun cdv A outer s H vs Q E hr h => ?_)
    refine ⟨_, (pss_cons (ps_if (pt_cmpR op_isN0 (pv 1) pe_non (nomark _)) (pss_one (ps_ret (pe_cmpR op_isN0 (pv 0) pe_non (nomark _)))) pss_nil)
    (pss_cons (ps_if (PW.pt (pw_or (pt_val (pe_callB call_isi (by rfl) (fr_isinstance T) (by decide +kernel) (pa_cons (pv 1) (pa_cons (pe_bty (n := "bool") (by rfl) (fr_bool T) (by decide +kernel)) pa_nil)))) (pw_or1 (pt_val (pe_callB call_isi (by rfl) (fr_isinstance T) (by decide +kernel) (pa_cons (pv 0) (pa_cons (pe_bty (n := "bool") (by rfl) (fr_bool T) (by decide +kernel)) pa_nil))))))) (pss_one (ps_ret (pe_and (pe_callB call_isi (by rfl) (fr_isinstance T) (by decide +kernel) (pa_cons (pv 1) (pa_cons (pe_bty (n := "bool") (by rfl) (fr_bool T) (by decide +kernel)) pa_nil))) (pe_and (pe_callB call_isi (by rfl) (fr_isinstance T) (by decide +kernel) (pa_cons (pv 0) (pa_cons (pe_bty (n := "bool") (by rfl) (fr_bool T) (by decide +kernel)) pa_nil))) (pe_one (pe_cmpR (op_eqD hr.units) (pv 0) (pv 1) (nomark _))))))) pss_nil)
    (pss_cons (ps_if (pt_val (pe_callB call_isiT (by rfl) (fr_isinstance T) (by decide +kernel) (pa_cons (pv 1) (pa_cons (pe_tup (pa_cons (pe_bty (n := "int") (by rfl) (fr_int T) (by decide +kernel)) (pa_cons (pe_bty (n := "str") (by rfl) (fr_str T) (by decide +kernel)) pa_nil))) pa_nil)))) (pss_one (ps_ret (pe_and (pe_callB call_isiT (by rfl) (fr_isinstance T) (by decide +kernel) (pa_cons (pv 0) (pa_cons (pe_tup (pa_cons (pe_bty (n := "int") (by rfl) (fr_int T) (by decide +kernel)) (pa_cons (pe_bty (n := "str") (by rfl) (fr_str T) (by decide +kernel)) pa_nil))) pa_nil))) (pe_and (pe_cmpR (op_eqD hr.units) (pe_callB call_isi (by rfl) (fr_isinstance T) (by decide +kernel) (pa_cons (pv 0) (pa_cons (pe_bty (n := "int") (by rfl) (fr_int T) (by decide +kernel)) pa_nil))) (pe_callB call_isi (by rfl) (fr_isinstance T) (by decide +kernel) (pa_cons (pv 1) (pa_cons (pe_bty (n := "int") (by rfl) (fr_int T) (by decide +kernel)) pa_nil))) (nomark _)) (pe_one (pe_cmpR (op_eqD hr.units) (pv 0) (pv 1) (nomark _))))))) pss_nil)
    (pss_cons (ps_if (PW.pt (pw_or (pt_cmpR (op_neD hr.units) (pe_callB call_isi (by rfl) (fr_isinstance T) (by decide +kernel) (pa_cons (pv 1) (pa_cons (pe_bty (n := "list") (by rfl) (fr_list T) (by decide +kernel)) pa_nil))) (pe_callB call_isi (by rfl) (fr_isinstance T) (by decide +kernel) (pa_cons (pv 0) (pa_cons (pe_bty (n := "list") (by rfl) (fr_list T) (by decide +kernel)) pa_nil))) (nomark _)) (pw_or1 (pt_cmpR (op_neD hr.units) (pe_callB call_isi (by rfl) (fr_isinstance T) (by decide +kernel) (pa_cons (pv 1) (pa_cons (pe_bty (n := "tuple") (by rfl) (fr_tuple T) (by decide +kernel)) pa_nil))) (pe_callB call_isi (by rfl) (fr_isinstance T) (by decide +kernel) (pa_cons (pv 0) (pa_cons (pe_bty (n := "tuple") (by rfl) (fr_tuple T) (by decide +kernel)) pa_nil))) (nomark _))))) (pss_one (ps_ret pe_bl)) pss_nil)
    (pss_cons (ps_if (PW.pt (pw_or (pt_not (pt_val (pe_callB call_isiT (by rfl) (fr_isinstance T) (by decide +kernel) (pa_cons (pv 0) (pa_cons (pe_tup (pa_cons (pe_bty (n := "list") (by rfl) (fr_list T) (by decide +kernel)) (pa_cons (pe_bty (n := "tuple") (by rfl) (fr_tuple T) (by decide +kernel)) pa_nil))) pa_nil))))) (pw_or1 (pt_cmpR (op_neD hr.units) (pe_callB call_lenA (by rfl) (fr_len T) (by decide +kernel) (pa_cons (pv 0) pa_nil)) (pe_callB call_lenA (by rfl) (fr_len T) (by decide +kernel) (pa_cons (pv 1) pa_nil)) (nomark _))))) (pss_one (ps_ret pe_bl)) pss_nil)
    (pss_one (ps_ret (pe_callB (cr_all (by rfl)) (by rfl) (fr_all T) (by decide +kernel) (pa_cons (pe_lc (own := [("_law_spot", 2)]) (g := (gName 2)) (tt := tYes)  (by rfl) sc__law_same.nd (pi_range1 (by rfl) (fr_range T) (pa_cons (pe_callB call_lenA (by rfl) (fr_len T) (by decide +kernel) (pa_cons (pv 1) pa_nil)) pa_nil)) (blkOk_by (own := [("_law_spot", 2)]) (N := ["_law_found", "_law_due", "_law_spot"]) (sc := defScope s__law_same) (by decide +kernel)) (fun _ _ _ _ _ => (pg_name (i := 2) sc__law_same.nd rfl (by first | exact Or.inl rfl | exact Or.inr rfl))) (fun _ _ _ _ _ => pts_nil) (fun _ _ _ _ _ => (pe_call ih (hr.mono (by first | decide | omega)) (by rfl) (g__law_same T) (kp__law_same T) (b__law_same T) .nil passL (pa_cons (pe_ix (show IxR _ (rIx K) from ix_seq) (pv 0) (pv 2) (fun _ _ => rfl)) (pa_cons (pe_ix (show IxR _ (rIx K) from ix_seq) (pv 1) (pv 2) (fun _ _ => rfl)) pa_nil))))) pa_nil))))))))), ?_⟩
    exact spD_run (K := K) (mg := mg) (E := E) (np := 2) (n := 1) rfl (ds_seq (ds_if (dt_test (DE.q (de_op od_is dq_var (DE.q de_non)))) (ds_ret (de_op od_is dq_var (DE.q de_non))) ds_next)
    (ds_seq (ds_if (dt_or (dt_b (DE.q (de_CB cd_isi (db_cons dq_var (db_cons (DE.q de_raw) db_nil))))) (dt_b (DE.q (de_CB cd_isi (db_cons dq_var (db_cons (DE.q de_raw) db_nil)))))) (ds_ret (de_and (DE.q (de_CB cd_isi (db_cons dq_var (db_cons (DE.q de_raw) db_nil)))) (de_and (DE.q (de_CB cd_isi (db_cons dq_var (db_cons (DE.q de_raw) db_nil)))) (de_op od_eq dq_var dq_var)))) ds_next)
    (ds_seq (ds_if (dt_b (DE.q (de_isi2 (by decide) (by decide) dq_var))) (ds_ret (de_and (DE.q (de_isi2 (by decide) (by decide) dq_var)) (de_and (DE.q (de_op od_eq (DE.q (de_CB cd_isi (db_cons dq_var (db_cons (DE.q de_raw) db_nil)))) (DE.q (de_CB cd_isi (db_cons dq_var (db_cons (DE.q de_raw) db_nil)))))) (de_op od_eq dq_var dq_var)))) ds_next)
    (ds_seq (ds_if (dt_or (dt_test (DE.q (de_op od_ne (DE.q (de_CB cd_isi (db_cons dq_var (db_cons (DE.q de_raw) db_nil)))) (DE.q (de_CB cd_isi (db_cons dq_var (db_cons (DE.q de_raw) db_nil))))))) (dt_test (DE.q (de_op od_ne (DE.q (de_CB cd_isi (db_cons dq_var (db_cons (DE.q de_raw) db_nil)))) (DE.q (de_CB cd_isi (db_cons dq_var (db_cons (DE.q de_raw) db_nil)))))))) (ds_ret de_bl) ds_next)
    (ds_seq (ds_if (dt_or (dt_not (dt_b (DE.q (de_isi2 (by decide) (by decide) dq_var)))) (dt_test (DE.q (de_op od_ne (DE.q (de_CB cd_len (db_cons dq_var db_nil))) (DE.q (de_CB cd_len (db_cons dq_var db_nil))))))) (ds_ret de_bl) ds_next)
    (ds_ret (de_CB cd_all (db_cons (DE.q (de_lc (E' := E0) (vs := [2]) (di_rng1 (db_cons (DE.q (de_CB cd_len (db_cons dq_var db_nil))) db_nil)) dg_name (by decide) dt_yes (de_call (fun _ _ _ _ => .nil) (da_cons (de_op od_ix dq_var dq_var) (da_cons (de_op od_ix dq_var dq_var) da_nil))))) db_nil)))))))) h
/-! ### _law_signs -/
theorem ok__law_signs (T : Txt w K mg) : FnOk P w K mg base (L2.CX P w) 3 (He.fAd K ("_law_signs", none)) (fdF K ("_law_signs", none)) ["_law_bag_here", "_law_cap"] (spD K mg m__law_signs) := by
  refine (F__law_signs T).ok (k := 2) sc__law_signs (fun vs H Q E h => spD_len h) (fun cdv A outer s H vs Q E hr h => ?_)
  refine ⟨_, (pss_cons (ps_set (i := 2) sc__law_signs.nd rfl (by first | exact Or.inl rfl | exact Or.inr rfl) (pe_callTy (call_list_text (by rfl)) (by rfl) (fr_list T) (by decide +kernel) (pa_cons pe_str pa_nil)))
    (pss_cons (ps_if (pt_cmpR (op_eqD hr.units) (pe_call (ok__law_pick T) (hr.mono (by first | decide | omega)) (by rfl) (g__law_pick T) (kp__law_pick T) (b__law_pick T) .nil (passes_call (takes_of rfl rfl rfl rfl) (fun _ _ _ _ h => h)) (pa_cons (pv 0) (pa_cons pe_int pa_nil))) pe_int (nomark _)) (pss_one (ps_set (i := 2) sc__law_signs.nd rfl (by first | exact Or.inl rfl | exact Or.inr rfl) (pe_slice sl_list (pv 2) po_none (po_some pe_int)))) pss_nil)
    (pss_one (ps_ret (pe_joinN pe_str (pe_callB cr_sortedS (by rfl) (fr_sorted T) (by decide +kernel) (pa_cons (pe_slice sl_list (pe_call (ok__law_shuffled T) (hr.mono (by first | decide | omega)) (by rfl) (g__law_shuffled T) (kp__law_shuffled T) (b__law_shuffled T) .nil (passes_call (takes_of rfl rfl rfl rfl) (fun _ _ _ _ h => h)) (pa_cons (pv 0) (pa_cons (pv 2) pa_nil))) po_none (po_some (pe_op op_addX pe_int (pe_call (ok__law_pick T) (hr.mono (by first | decide | omega)) (by rfl) (g__law_pick T) (kp__law_pick T) (b__law_pick T) .nil (passes_call (takes_of rfl rfl rfl rfl) (fun _ _ _ _ h => h)) (pa_cons (pv 0) (pa_cons (pv 1) pa_nil)))))) pa_nil))))))), ?_⟩
  exact spD_run (K := K) (mg := mg) (E := E) (np := 2) (n := 1) rfl (ds_seq (ds_asg (de_CB cd_listText (db_cons (DE.q (de_str (by decide +kernel))) db_nil)) dg_name)
    (ds_seq (ds_if (dt_test (DE.q (de_op od_eq (DE.q (de_call (fun _ _ _ _ => .nil) (da_cons de_var (da_cons de_int da_nil)))) (DE.q de_int)))) (ds_asg (de_sl sd_list dq_var do_no (do_some (DE.q de_int))) dg_name) ds_next)
    (ds_ret (de_join (DE.q (de_str (by decide +kernel))) (DE.q (de_CB cd_sortS (db_cons (DE.q (de_sl sd_list (DE.q (de_call (fun _ _ _ _ => .nil) (da_cons de_var (da_cons de_var da_nil)))) do_no (do_some (DE.q (de_op od_add (DE.q de_int) (DE.q (de_call (fun _ _ _ _ => .nil) (da_cons de_var (da_cons de_var da_nil))))))))) db_nil))))))) h
/-! ### _law_pattern -/
theorem ok__law_pattern (T : Txt w K mg) : ∀ n, FnOk P w K mg base (L2.CX P w) (2 + n) (He.fAd K ("_law_pattern", none)) (fdF K ("_law_pattern", none)) ["_law_bag_here", "_law_kinds", "_law_room"] (spD K mg (m__law_pattern n))
  | 0 => ⟨fun vs H Q E h => by obtain ⟨_, _, _, _, _, _, _, _, hm, _⟩ := h; exact hm.elim, fun _ _ _ _ _ _ _ _ _ _ _ _ _ h => by obtain ⟨_, _, _, _, _, _, _, _, hm, _⟩ := h; exact hm.elim⟩
  | n + 1 => by
    have ih : FnOk P w K mg base (L2.CX P w) (2 + n) (He.fAd K ("_law_pattern", none)) (fdF K ("_law_pattern", none)) ["_law_bag_here", "_law_kinds", "_law_room"] (spD K mg (m__law_pattern n)) := ok__law_pattern T n
    refine (F__law_pattern T).ok (k := 2 + n) sc__law_pattern (fun vs H Q E h => spD_len h) (fun cdv A outer s H vs Q E hr h => ?_)
    refine ⟨_, (pss_cons (ps_set (i := 3) sc__law_pattern.nd rfl (by first | exact Or.inl rfl | exact Or.inr rfl) (pe_call (ok__law_pick T) (hr.mono (by first | decide | omega)) (by rfl) (g__law_pick T) (kp__law_pick T) (b__law_pick T) .nil (passes_call (takes_of rfl rfl rfl rfl) (fun _ _ _ _ h => h)) (pa_cons (pv 0) (pa_cons pe_int pa_nil))))
    (pss_cons (ps_if (PW.pt (pw_or (pt_cmpR op_lt (pv 2) pe_int (nomark _)) (pw_or1 (pt_cmpR (op_eqD hr.units) (pv 3) pe_int (nomark _))))) (pss_one (ps_ret (pe_ifExp (pt_cmpR (op_eqD hr.units) (pe_call (ok__law_pick T) (hr.mono (by first | decide | omega)) (by rfl) (g__law_pick T) (kp__law_pick T) (b__law_pick T) .nil (passes_call (takes_of rfl rfl rfl rfl) (fun _ _ _ _ h => h)) (pa_cons (pv 0) (pa_cons pe_int pa_nil))) pe_int (nomark _)) (pe_tup (pa_cons pe_str pa_nil)) (pe_tup (pa_cons pe_str (pa_cons (pe_call (ok__law_of T) (hr.mono (by first | decide | omega)) (by rfl) (g__law_of T) (kp__law_of T) (b__law_of T) .nil (passes_call (takes_of rfl rfl rfl rfl) (fun _ _ _ _ h => h)) (pa_cons (pv 0) (pa_cons (pv 1) pa_nil))) pa_nil)))))) pss_nil)
    (pss_cons (ps_if (PW.pt (pw_or (pt_cmpR op_lt (pv 3) pe_int (nomark _)) (pw_or1 (pt_cmpR op_lt (pv 2) pe_int (nomark _))))) (pss_one (ps_ret (pe_tup (pa_cons pe_str (pa_cons (pe_call ih (hr.mono (by first | decide | omega)) (by rfl) (g__law_pattern T) (kp__law_pattern T) (b__law_pattern T) .nil (passes_call (takes_of rfl rfl rfl rfl) (fun _ _ _ _ h => h)) (pa_cons (pv 0) (pa_cons (pv 1) (pa_cons (pe_op op_sub (pv 2) pe_int) pa_nil)))) pa_nil))))) pss_nil)
    (pss_cons (ps_set (i := 4) sc__law_pattern.nd rfl (by first | exact Or.inl rfl | exact Or.inr rfl) (pe_op op_addX pe_int (pe_call (ok__law_pick T) (hr.mono (by first | decide | omega)) (by rfl) (g__law_pick T) (kp__law_pick T) (b__law_pick T) .nil (passes_call (takes_of rfl rfl rfl rfl) (fun _ _ _ _ h => h)) (pa_cons (pv 0) (pa_cons (pe_op op_sub (pv 2) pe_int) pa_nil)))))
    (pss_cons (ps_set (i := 5) sc__law_pattern.nd rfl (by first | exact Or.inl rfl | exact Or.inr rfl) (pe_call ih (hr.mono (by first | decide | omega)) (by rfl) (g__law_pattern T) (kp__law_pattern T) (b__law_pattern T) .nil (passes_call (takes_of rfl rfl rfl rfl) (fun _ _ _ _ h => h)) (pa_cons (pv 0) (pa_cons (pv 1) (pa_cons (pv 4) pa_nil)))))
    (pss_one (ps_ret (pe_tup (pa_cons (pe_ix ix_seq (pe_lst (pa_cons pe_str (pa_cons pe_str pa_nil))) (pe_op op_mod (pv 3) pe_int) (fun _ _ => rfl)) (pa_cons (pv 5) (pa_cons (pe_call ih (hr.mono (by first | decide | omega)) (by rfl) (g__law_pattern T) (kp__law_pattern T) (b__law_pattern T) .nil (passes_call (takes_of rfl rfl rfl rfl) (fun _ _ _ _ h => h)) (pa_cons (pv 0) (pa_cons (pv 1) (pa_cons (pe_op op_sub (pe_op op_sub (pv 2) pe_int) (pv 4)) pa_nil)))) pa_nil))))))))))), ?_⟩
    exact spD_run (K := K) (mg := mg) (E := E) (np := 3) (n := 3) rfl (ds_seq (ds_asg (de_call (fun _ _ _ _ => .nil) (da_cons de_var (da_cons de_int da_nil))) dg_name)
    (ds_seq (ds_if (dt_or (dt_test (DE.q (de_op (od_I0 fun _ _ _ _ _ _ => .bl _) dq_var (DE.q de_int)))) (dt_test (DE.q (de_op od_eq dq_var (DE.q de_int))))) (ds_ret (de_if (dt_test (DE.q (de_op od_eq (DE.q (de_call (fun _ _ _ _ => .nil) (da_cons de_var (da_cons de_int da_nil)))) (DE.q de_int)))) (de_tup (da_cons (de_str (by decide +kernel)) da_nil)) (de_tup (da_cons (de_str (by decide +kernel)) (da_cons (de_call (fun _ _ _ _ => .nil) (da_cons de_var (da_cons de_var da_nil))) da_nil))))) ds_next)
    (ds_seq (ds_if (dt_or (dt_test (DE.q (de_op (od_I0 fun _ _ _ _ _ _ => .bl _) dq_var (DE.q de_int)))) (dt_test (DE.q (de_op (od_I0 fun _ _ _ _ _ _ => .bl _) dq_var (DE.q de_int))))) (ds_ret (de_tup (da_cons (de_str (by decide +kernel)) (da_cons (de_call (fun _ _ _ _ => .nil) (da_cons de_var (da_cons de_var (da_cons (de_op (od_I0 fun _ _ _ _ _ _ => .int _) dq_var (DE.q de_int)) da_nil)))) da_nil)))) ds_next)
    (ds_seq (ds_asg (de_op od_add (DE.q de_int) (DE.q (de_call (fun _ _ _ _ => .nil) (da_cons de_var (da_cons (de_op (od_I0 fun _ _ _ _ _ _ => .int _) dq_var (DE.q de_int)) da_nil))))) dg_name)
    (ds_seq (ds_asg (de_call (fun _ _ _ _ => .nil) (da_cons de_var (da_cons de_var (da_cons de_var da_nil)))) dg_name)
    (ds_ret (de_tup (da_cons (de_op od_ix (DE.q (de_lst (da_cons (de_str (by decide +kernel)) (da_cons (de_str (by decide +kernel)) da_nil)))) (DE.q (de_op (od_I fun _ _ _ _ _ _ => .int _) dq_var (DE.q de_int)))) (da_cons de_var (da_cons (de_call (fun _ _ _ _ => .nil) (da_cons de_var (da_cons de_var (da_cons (de_op (od_I0 fun _ _ _ _ _ _ => .int _) (DE.q (de_op (od_I0 fun _ _ _ _ _ _ => .int _) dq_var (DE.q de_int))) dq_var) da_nil)))) da_nil)))))))))) h
/-! ### _law_inner -/
theorem ok__law_inner (T : Txt w K mg) : FnOk P w K mg base (L2.CX P w) 1 (He.fAd K ("_law_inner", none)) (fdF K ("_law_inner", none)) ["_law_thing"] (spD K mg m__law_inner) := by
  refine (F__law_inner T).ok (k := 0) sc__law_inner (fun vs H Q E h => spD_len h) (fun cdv A outer s H vs Q E hr h => ?_)
  refine ⟨_, (pss_one (ps_ret (pe_lc (own := [("_law_part", 1)]) (g := (gName 1))  (by rfl) sc__law_inner.nd (pi_tup (pe_slice sl_tupA (pv 0) (po_some pe_int) po_none)) (blkOk_by (own := [("_law_part", 1)]) (N := ["_law_thing", "_law_part"]) (sc := defScope s__law_inner) (by decide +kernel)) (fun _ _ _ _ _ => (pg_name (i := 1) sc__law_inner.nd rfl (by first | exact Or.inl rfl | exact Or.inr rfl))) (fun _ _ _ _ _ => (pts_one (pt_val (pe_callB (show CallR _ (.builtin "isinstance") (rIsi K) from call_isi) (by rfl) (fr_isinstance T) (by decide +kernel) (pa_cons (pv 1) (pa_cons (pe_bty (n := "tuple") (by rfl) (fr_tuple T) (by decide +kernel)) pa_nil)))))) (fun _ _ _ _ _ => (pv 1))))), ?_⟩
  exact spD_run (K := K) (mg := mg) (E := E) (np := 1) (n := 1) rfl (ds_ret (de_lc (E' := E0) (vs := [1]) (di_tup (de_sl sd_tup dq_var (do_some (DE.q de_int)) do_no)) dg_name (by decide) (dt_b (DE.q (de_CB cd_isi (db_cons dq_var (db_cons (DE.q de_raw) db_nil))))) de_var)) h
/-! ### _law_parts -/
theorem ok__law_parts (T : Txt w K mg) : ∀ n, FnOk P w K mg base (L2.CX P w) (1 + n) (He.fAd K ("_law_parts", none)) (fdF K ("_law_parts", none)) ["_law_thing"] (spD K mg (m__law_parts n))
  | 0 => ⟨fun vs H Q E h => by obtain ⟨_, _, _, _, _, _, _, _, hm, _⟩ := h; exact hm.elim, fun _ _ _ _ _ _ _ _ _ _ _ _ _ h => by obtain ⟨_, _, _, _, _, _, _, _, hm, _⟩ := h; exact hm.elim⟩
  | n + 1 => by
    have ih : FnOk P w K mg base (L2.CX P w) (1 + n) (He.fAd K ("_law_parts", none)) (fdF K ("_law_parts", none)) ["_law_thing"] (spD K mg (m__law_parts n)) := ok__law_parts T n
    refine (F__law_parts T).ok (k := 1 + n) sc__law_parts (fun vs H Q E h => spD_len h) (fun cdv A outer s H vs Q E hr h => ?_)
    refine ⟨_, (pss_one (ps_ret (pe_op op_addX pe_int (pe_callB (cr_sum (by rfl)) (by rfl) (fr_sum T) (by decide +kernel) (pa_cons (pe_lc (own := [("_law_part", 1)]) (g := (gName 1)) (tt := tYes)  (by rfl) sc__law_parts.nd (pi_list (pe_call (ok__law_inner T) (hr.mono (by first | decide | omega)) (by rfl) (g__law_inner T) (kp__law_inner T) (b__law_inner T) .nil (passes_call (takes_of rfl rfl rfl rfl) (fun _ _ _ _ h => h)) (pa_cons (pv 0) pa_nil))) (blkOk_by (own := [("_law_part", 1)]) (N := ["_law_thing", "_law_part"]) (sc := defScope s__law_parts) (by decide +kernel)) (fun _ _ _ _ _ => (pg_name (i := 1) sc__law_parts.nd rfl (by first | exact Or.inl rfl | exact Or.inr rfl))) (fun _ _ _ _ _ => pts_nil) (fun _ _ _ _ _ => (pe_call ih (hr.mono (by first | decide | omega)) (by rfl) (g__law_parts T) (kp__law_parts T) (b__law_parts T) .nil passL (pa_cons (pv 1) pa_nil)))) pa_nil))))), ?_⟩
    exact spD_run (K := K) (mg := mg) (E := E) (np := 1) (n := 1) rfl (ds_ret (de_op od_add (DE.q de_int) (DE.q (de_CB cd_sum (db_cons (DE.q (de_lc (E' := E0) (vs := [1]) (di_list (de_call (fun _ _ _ _ => .nil) (da_cons de_var da_nil))) dg_name (by decide) dt_yes (de_call (fun _ _ _ _ => .nil) (da_cons de_var da_nil)))) db_nil))))) h
/-! ### _law_deep -/
theorem ok__law_deep (T : Txt w K mg) : ∀ n, FnOk P w K mg base (L2.CX P w) (1 + n) (He.fAd K ("_law_deep", none)) (fdF K ("_law_deep", none)) ["_law_thing"] (spD K mg (m__law_deep n))
  | 0 => ⟨fun vs H Q E h => by obtain ⟨_, _, _, _, _, _, _, _, hm, _⟩ := h; exact hm.elim, fun _ _ _ _ _ _ _ _ _ _ _ _ _ h => by obtain ⟨_, _, _, _, _, _, _, _, hm, _⟩ := h; exact hm.elim⟩
  | n + 1 => by
    have ih : FnOk P w K mg base (L2.CX P w) (1 + n) (He.fAd K ("_law_deep", none)) (fdF K ("_law_deep", none)) ["_law_thing"] (spD K mg (m__law_deep n)) := ok__law_deep T n
    refine (F__law_deep T).ok (k := 1 + n) sc__law_deep (fun vs H Q E h => spD_len h) (fun cdv A outer s H vs Q E hr h => ?_)
    refine ⟨_, (pss_one (ps_ret (pe_op op_addX pe_int (pe_callB (cr_max (by rfl)) (by rfl) (fr_max T) (by decide +kernel) (pa_cons (pe_op op_addX (pe_lst (pa_cons pe_int pa_nil)) (pe_lc (own := [("_law_part", 1)]) (g := (gName 1)) (tt := tYes)  (by rfl) sc__law_deep.nd (pi_list (pe_call (ok__law_inner T) (hr.mono (by first | decide | omega)) (by rfl) (g__law_inner T) (kp__law_inner T) (b__law_inner T) .nil (passes_call (takes_of rfl rfl rfl rfl) (fun _ _ _ _ h => h)) (pa_cons (pv 0) pa_nil))) (blkOk_by (own := [("_law_part", 1)]) (N := ["_law_thing", "_law_part"]) (sc := defScope s__law_deep) (by decide +kernel)) (fun _ _ _ _ _ => (pg_name (i := 1) sc__law_deep.nd rfl (by first | exact Or.inl rfl | exact Or.inr rfl))) (fun _ _ _ _ _ => pts_nil) (fun _ _ _ _ _ => (pe_call ih (hr.mono (by first | decide | omega)) (by rfl) (g__law_deep T) (kp__law_deep T) (b__law_deep T) .nil passL (pa_cons (pv 1) pa_nil))))) pa_nil))))), ?_⟩
    exact spD_run (K := K) (mg := mg) (E := E) (np := 1) (n := 1) rfl (ds_ret (de_op od_add (DE.q de_int) (DE.q (de_CB cd_maxL (db_cons (DE.q (de_op od_add (DE.q (de_lst (da_cons de_int da_nil))) (DE.q (de_lc (E' := E0) (vs := [1]) (di_list (de_call (fun _ _ _ _ => .nil) (da_cons de_var da_nil))) dg_name (by decide) dt_yes (de_call (fun _ _ _ _ => .nil) (da_cons de_var da_nil)))))) db_nil))))) h
/-! ### _law_cut_deep -/
theorem ok__law_cut_deep (T : Txt w K mg) : ∀ n, FnOk P w K mg base (L2.CX P w) (0 + n) (He.fAd K ("_law_cut_deep", none)) (fdF K ("_law_cut_deep", none)) ["_law_pattern_here", "_law_deep_here"] (spD K mg (m__law_cut_deep n))
  | 0 => ⟨fun vs H Q E h => by obtain ⟨_, _, _, _, _, _, _, _, hm, _⟩ := h; exact hm.elim, fun _ _ _ _ _ _ _ _ _ _ _ _ _ h => by obtain ⟨_, _, _, _, _, _, _, _, hm, _⟩ := h; exact hm.elim⟩
  | n + 1 => by
    have ih : FnOk P w K mg base (L2.CX P w) (0 + n) (He.fAd K ("_law_cut_deep", none)) (fdF K ("_law_cut_deep", none)) ["_law_pattern_here", "_law_deep_here"] (spD K mg (m__law_cut_deep n)) := ok__law_cut_deep T n
    refine (F__law_cut_deep T).ok (k := 0 + n) sc__law_cut_deep (fun vs H Q E h => spD_len h) (fun cdv A outer s H vs Q E hr h => ?_)
    refine ⟨_, (pss_cons (ps_if (PW.pt (pw_and (pt_cmpR op_lt (pv 1) pe_int (nomark _)) (pw_and1 (pt_cmpR op_notInX (pe_ix ix_seq (pv 0) pe_int (fun _ _ => rfl)) (pe_tup (pa_cons pe_str (pa_cons pe_str pa_nil))) (by rfl))))) (pss_one (ps_ret (pe_tup (pa_cons pe_str pa_nil)))) pss_nil)
    (pss_cons (ps_if (pt_cmpR op_inX (pe_ix ix_seq (pv 0) pe_int (fun _ _ => rfl)) (pe_tup (pa_cons pe_str (pa_cons pe_str pa_nil))) (by rfl)) (pss_one (ps_ret (pv 0))) pss_nil)
    (pss_one (ps_ret (pe_op op_addX (pe_tup (pa_cons (pe_ix ix_seq (pv 0) pe_int (fun _ _ => rfl)) pa_nil)) (pe_callTy call_tuple_of (by rfl) (fr_tuple T) (by decide +kernel) (pa_cons (pe_lc (own := [("_law_part", 2)]) (g := (gName 2)) (tt := tYes)  (by rfl) sc__law_cut_deep.nd (pi_tup (pe_slice sl_tupA (pv 0) (po_some pe_int) po_none)) (blkOk_by (own := [("_law_part", 2)]) (N := ["_law_pattern_here", "_law_deep_here", "_law_part"]) (sc := defScope s__law_cut_deep) (by decide +kernel)) (fun _ _ _ _ _ => (pg_name (i := 2) sc__law_cut_deep.nd rfl (by first | exact Or.inl rfl | exact Or.inr rfl))) (fun _ _ _ _ _ => pts_nil) (fun _ _ _ _ _ => (pe_call ih (hr.mono (by first | decide | omega)) (by rfl) (g__law_cut_deep T) (kp__law_cut_deep T) (b__law_cut_deep T) .nil passL (pa_cons (pv 2) (pa_cons (pe_op op_sub (pv 1) pe_int) pa_nil))))) pa_nil))))))), ?_⟩
    exact spD_run (K := K) (mg := mg) (E := E) (np := 2) (n := 1) rfl (ds_seq (ds_if (dt_and (dt_test (DE.q (de_op (od_I0 fun _ _ _ _ _ _ => .bl _) dq_var (DE.q de_int)))) (dt_test (DE.q (de_op od_notIn (DE.q (de_op od_ix dq_var (DE.q de_int))) (DE.q (de_tup (da_cons (de_str (by decide +kernel)) (da_cons (de_str (by decide +kernel)) da_nil)))))))) (ds_ret (de_tup (da_cons (de_str (by decide +kernel)) da_nil))) ds_next)
    (ds_seq (ds_if (dt_test (DE.q (de_op od_in (DE.q (de_op od_ix dq_var (DE.q de_int))) (DE.q (de_tup (da_cons (de_str (by decide +kernel)) (da_cons (de_str (by decide +kernel)) da_nil))))))) (ds_ret de_var) ds_next)
    (ds_ret (de_op od_add (DE.q (de_tup (da_cons (de_op od_ix dq_var (DE.q de_int)) da_nil))) (DE.q (de_CB cd_tupleOf (db_cons (DE.q (de_lc (E' := E0) (vs := [2]) (di_tup (de_sl sd_tup dq_var (do_some (DE.q de_int)) do_no)) dg_name (by decide) dt_yes (de_call (fun _ _ _ _ => .nil) (da_cons de_var (da_cons (de_op (od_I0 fun _ _ _ _ _ _ => .int _) dq_var (DE.q de_int)) da_nil))))) db_nil))))))) h
/-! ### _law_size_flaw -/
theorem ok__law_size_flaw (T : Txt w K mg) : FnOk P w K mg base (L2.CX P w) 72 (He.fAd K ("_law_size_flaw", none)) (fdF K ("_law_size_flaw", none)) ["_law_thing"] (spD K mg m__law_size_flaw) := by
  refine (F__law_size_flaw T).ok (k := 71) sc__law_size_flaw (fun vs H Q E h => spD_len h) (fun cdv A outer s H vs Q E hr h => ?_)
  refine ⟨_, (pss_cons (ps_if (pt_cmpR op_gt (pe_call (ok__law_parts T 70) (hr.mono (by first | decide | omega)) (by rfl) (g__law_parts T) (kp__law_parts T) (b__law_parts T) .nil (passes_call (takes_of rfl rfl rfl rfl) (fun _ _ _ _ h => h)) (pa_cons (pv 0) pa_nil)) pe_int (nomark _)) (pss_one (ps_ret pe_str)) pss_nil)
    (pss_one (ps_ret (pe_ifExp (pt_cmpR op_gt (pe_call (ok__law_deep T 70) (hr.mono (by first | decide | omega)) (by rfl) (g__law_deep T) (kp__law_deep T) (b__law_deep T) .nil (passes_call (takes_of rfl rfl rfl rfl) (fun _ _ _ _ h => h)) (pa_cons (pv 0) pa_nil)) pe_int (nomark _)) pe_str pe_non)))), ?_⟩
  exact spD_run (K := K) (mg := mg) (E := E) (np := 1) (n := 0) rfl (ds_seq (ds_if (dt_test (DE.q (de_op (od_I0 fun _ _ _ _ _ _ => .bl _) (DE.q (de_call (fun _ _ _ _ => .nil) (da_cons de_var da_nil))) (DE.q de_int)))) (ds_ret (de_str (by decide +kernel))) ds_next)
    (ds_ret (de_if (dt_test (DE.q (de_op (od_I0 fun _ _ _ _ _ _ => .bl _) (DE.q (de_call (fun _ _ _ _ => .nil) (da_cons de_var da_nil))) (DE.q de_int)))) (de_str (by decide +kernel)) de_non))) h
/-! ### _law_plain_wish -/
theorem ok__law_plain_wish (T : Txt w K mg) : FnOk P w K mg base (L2.CX P w) 73 (He.fAd K ("_law_plain_wish", none)) (fdF K ("_law_plain_wish", none)) ["_law_bag_here", "_law_kinds", "_law_room"] (spD K mg m__law_plain_wish) := by
  refine (F__law_plain_wish T).ok (k := 72) sc__law_plain_wish (fun vs H Q E h => spD_len h) (fun cdv A outer s H vs Q E hr h => ?_)
  refine ⟨_, (pss_cons (ps_set (i := 3) sc__law_plain_wish.nd rfl (by first | exact Or.inl rfl | exact Or.inr rfl) (pe_call (ok__law_pick T) (hr.mono (by first | decide | omega)) (by rfl) (g__law_pick T) (kp__law_pick T) (b__law_pick T) .nil (passes_call (takes_of rfl rfl rfl rfl) (fun _ _ _ _ h => h)) (pa_cons (pv 0) (pa_cons pe_int pa_nil))))
    (pss_cons (ps_if (pt_cmpR op_lt (pv 3) pe_int (nomark _)) (pss_cons (ps_set (i := 4) sc__law_plain_wish.nd rfl (by first | exact Or.inl rfl | exact Or.inr rfl) (pe_call (ok__law_cut_deep T 70) (hr.mono (by first | decide | omega)) (by rfl) (g__law_cut_deep T) (kp__law_cut_deep T) (b__law_cut_deep T) .nil (passes_call (takes_of rfl rfl rfl rfl) (fun _ _ _ _ h => h)) (pa_cons (pe_call (ok__law_pattern T 70) (hr.mono (by first | decide | omega)) (by rfl) (g__law_pattern T) (kp__law_pattern T) (b__law_pattern T) .nil (passes_call (takes_of rfl rfl rfl rfl) (fun _ _ _ _ h => h)) (pa_cons (pv 0) (pa_cons (pv 1) (pa_cons (pv 2) pa_nil)))) (pa_cons pe_int pa_nil))))
    (pss_cons (ps_if (pt_cmpR op_gt (pe_call (ok__law_pick T) (hr.mono (by first | decide | omega)) (by rfl) (g__law_pick T) (kp__law_pick T) (b__law_pick T) .nil (passes_call (takes_of rfl rfl rfl rfl) (fun _ _ _ _ h => h)) (pa_cons (pv 0) (pa_cons pe_int pa_nil))) pe_int (nomark _)) (pss_one (ps_set (i := 4) sc__law_plain_wish.nd rfl (by first | exact Or.inl rfl | exact Or.inr rfl) (pe_tup (pa_cons pe_str (pa_cons (pv 4) pa_nil))))) pss_nil)
    (pss_one (ps_ret (pe_tup (pa_cons pe_str (pa_cons (pe_op op_addX pe_int (pe_call (ok__law_pick T) (hr.mono (by first | decide | omega)) (by rfl) (g__law_pick T) (kp__law_pick T) (b__law_pick T) .nil (passes_call (takes_of rfl rfl rfl rfl) (fun _ _ _ _ h => h)) (pa_cons (pv 0) (pa_cons pe_int pa_nil)))) (pa_cons (pv 4) pa_nil)))))))) pss_nil)
    (pss_cons (ps_if (pt_cmpR op_lt (pv 3) pe_int (nomark _)) (pss_one (ps_ret (pe_tup (pa_cons (pe_ix ix_seq (pe_lst (pa_cons pe_str (pa_cons pe_str pa_nil))) (pe_op op_sub (pv 3) pe_int) (fun _ _ => rfl)) (pa_cons (pe_call (ok__law_pattern T 70) (hr.mono (by first | decide | omega)) (by rfl) (g__law_pattern T) (kp__law_pattern T) (b__law_pattern T) .nil (passes_call (takes_of rfl rfl rfl rfl) (fun _ _ _ _ h => h)) (pa_cons (pv 0) (pa_cons (pv 1) (pa_cons (pv 2) pa_nil)))) pa_nil))))) pss_nil)
    (pss_cons (ps_if (pt_cmpR (op_eqD hr.units) (pv 3) pe_int (nomark _)) (pss_one (ps_ret (pe_tup (pa_cons pe_str (pa_cons (pe_call (ok__law_of T) (hr.mono (by first | decide | omega)) (by rfl) (g__law_of T) (kp__law_of T) (b__law_of T) .nil (passes_call (takes_of rfl rfl rfl rfl) (fun _ _ _ _ h => h)) (pa_cons (pv 0) (pa_cons (pv 1) pa_nil))) (pa_cons (pe_call (ok__law_of T) (hr.mono (by first | decide | omega)) (by rfl) (g__law_of T) (kp__law_of T) (b__law_of T) .nil (passes_call (takes_of rfl rfl rfl rfl) (fun _ _ _ _ h => h)) (pa_cons (pv 0) (pa_cons (pv 1) pa_nil))) pa_nil)))))) pss_nil)
    (pss_one (ps_ret (pe_ifExp (pt_cmpR (op_eqD hr.units) (pv 3) pe_int (nomark _)) (pe_tup (pa_cons pe_str (pa_cons (pe_call (ok__law_of T) (hr.mono (by first | decide | omega)) (by rfl) (g__law_of T) (kp__law_of T) (b__law_of T) .nil (passes_call (takes_of rfl rfl rfl rfl) (fun _ _ _ _ h => h)) (pa_cons (pv 0) (pa_cons (pv 1) pa_nil))) pa_nil))) (pe_tup (pa_cons pe_str (pa_cons (pe_op op_addX pe_int (pe_call (ok__law_pick T) (hr.mono (by first | decide | omega)) (by rfl) (g__law_pick T) (kp__law_pick T) (b__law_pick T) .nil (passes_call (takes_of rfl rfl rfl rfl) (fun _ _ _ _ h => h)) (pa_cons (pv 0) (pa_cons pe_int pa_nil)))) pa_nil)))))))))), ?_⟩
  exact spD_run (K := K) (mg := mg) (E := E) (np := 3) (n := 2) rfl (ds_seq (ds_asg (de_call (fun _ _ _ _ => .nil) (da_cons de_var (da_cons de_int da_nil))) dg_name)
    (ds_seq (ds_if (dt_test (DE.q (de_op (od_I0 fun _ _ _ _ _ _ => .bl _) dq_var (DE.q de_int)))) (ds_seq (ds_asg (de_call (fun _ _ _ _ => .nil) (da_cons (de_call (fun _ _ _ _ => .nil) (da_cons de_var (da_cons de_var (da_cons de_var da_nil)))) (da_cons de_int da_nil))) dg_name)
    (ds_seq (ds_if (dt_test (DE.q (de_op (od_I0 fun _ _ _ _ _ _ => .bl _) (DE.q (de_call (fun _ _ _ _ => .nil) (da_cons de_var (da_cons de_int da_nil)))) (DE.q de_int)))) (ds_asg (de_tup (da_cons (de_str (by decide +kernel)) (da_cons de_var da_nil))) dg_name) ds_next)
    (ds_ret (de_tup (da_cons (de_str (by decide +kernel)) (da_cons (de_op od_add (DE.q de_int) (DE.q (de_call (fun _ _ _ _ => .nil) (da_cons de_var (da_cons de_int da_nil))))) (da_cons de_var da_nil))))))) ds_next)
    (ds_seq (ds_if (dt_test (DE.q (de_op (od_I0 fun _ _ _ _ _ _ => .bl _) dq_var (DE.q de_int)))) (ds_ret (de_tup (da_cons (de_op od_ix (DE.q (de_lst (da_cons (de_str (by decide +kernel)) (da_cons (de_str (by decide +kernel)) da_nil)))) (DE.q (de_op (od_I0 fun _ _ _ _ _ _ => .int _) dq_var (DE.q de_int)))) (da_cons (de_call (fun _ _ _ _ => .nil) (da_cons de_var (da_cons de_var (da_cons de_var da_nil)))) da_nil)))) ds_next)
    (ds_seq (ds_if (dt_test (DE.q (de_op od_eq dq_var (DE.q de_int)))) (ds_ret (de_tup (da_cons (de_str (by decide +kernel)) (da_cons (de_call (fun _ _ _ _ => .nil) (da_cons de_var (da_cons de_var da_nil))) (da_cons (de_call (fun _ _ _ _ => .nil) (da_cons de_var (da_cons de_var da_nil))) da_nil))))) ds_next)
    (ds_ret (de_if (dt_test (DE.q (de_op od_eq dq_var (DE.q de_int)))) (de_tup (da_cons (de_str (by decide +kernel)) (da_cons (de_call (fun _ _ _ _ => .nil) (da_cons de_var (da_cons de_var da_nil))) da_nil))) (de_tup (da_cons (de_str (by decide +kernel)) (da_cons (de_op od_add (DE.q de_int) (DE.q (de_call (fun _ _ _ _ => .nil) (da_cons de_var (da_cons de_int da_nil))))) da_nil))))))))) h
/-! ### _law_wish -/
theorem ok__law_wish (T : Txt w K mg) : ∀ n, FnOk P w K mg base (L2.CX P w) (73 + n) (He.fAd K ("_law_wish", none)) (fdF K ("_law_wish", none)) ["_law_bag_here", "_law_kinds", "_law_room"] (spD K mg (m__law_wish n))
  | 0 => ⟨fun vs H Q E h => by obtain ⟨_, _, _, _, _, _, _, _, hm, _⟩ := h; exact hm.elim, fun _ _ _ _ _ _ _ _ _ _ _ _ _ h => by obtain ⟨_, _, _, _, _, _, _, _, hm, _⟩ := h; exact hm.elim⟩
  | n + 1 => by
    have ih : FnOk P w K mg base (L2.CX P w) (73 + n) (He.fAd K ("_law_wish", none)) (fdF K ("_law_wish", none)) ["_law_bag_here", "_law_kinds", "_law_room"] (spD K mg (m__law_wish n)) := ok__law_wish T n
    refine (F__law_wish T).ok (k := 73 + n) sc__law_wish (fun vs H Q E h => spD_len h) (fun cdv A outer s H vs Q E hr h => ?_)
    refine ⟨_, (pss_cons (ps_set (i := 3) sc__law_wish.nd rfl (by first | exact Or.inl rfl | exact Or.inr rfl) (pe_call (ok__law_pick T) (hr.mono (by first | decide | omega)) (by rfl) (g__law_pick T) (kp__law_pick T) (b__law_pick T) .nil (passes_call (takes_of rfl rfl rfl rfl) (fun _ _ _ _ h => h)) (pa_cons (pv 0) (pa_cons pe_int pa_nil))))
    (pss_cons (ps_if (PW.pt (pw_and (pt_cmpR op_gt (pv 2) pe_int (nomark _)) (pw_and1 (pt_cmpR op_lt (pv 3) pe_int (nomark _))))) (pss_cons (ps_setLc (i := 4) (own := [("_law_k", 5)]) (g := (gName 5)) (tt := tYes)  (by rfl) sc__law_wish.nd rfl rfl (sw_true rfl rfl rfl (by decide +kernel)) (pi_range1 (by rfl) (fr_range T) (pa_cons pe_int pa_nil)) (blkOk_by (own := [("_law_k", 5)]) (N := ["_law_bag_here", "_law_kinds", "_law_room", "_law_way", "_law_inner_here", "_law_k"]) (sc := defScope s__law_wish) (by decide +kernel)) (fun _ _ _ _ _ => (pg_name (i := 5) sc__law_wish.nd rfl (by first | exact Or.inl rfl | exact Or.inr rfl))) (fun _ _ _ _ _ => pts_nil) (fun _ _ _ _ _ => (pe_call ih (hr.mono (by first | decide | omega)) (by rfl) (g__law_wish T) (kp__law_wish T) (b__law_wish T) .nil passL (pa_cons (pv 0) (pa_cons (pv 1) (pa_cons (pe_op op_sub (pe_op op_fdivW (pv 2) pe_int) (pe_op op_mod (pe_op op_fdivW (pv 3) pe_int) pe_int)) pa_nil))))))
    (pss_cons (ps_if (pt_cmpR op_lt (pv 3) pe_int (nomark _)) (pss_one (ps_ret (pe_tup (pa_cons (pe_ix ix_seq (pe_lst (pa_cons pe_str (pa_cons pe_str pa_nil))) (pv 3) (fun _ _ => rfl)) (pa_cons (pe_ix ix_seq (pv 4) pe_int (fun _ _ => rfl)) (pa_cons (pe_ix ix_seq (pv 4) pe_int (fun _ _ => rfl)) pa_nil)))))) pss_nil)
    (pss_one (ps_ret (pe_ifExp (pt_cmpR (op_eqD hr.units) (pv 3) pe_int (nomark _)) (pe_tup (pa_cons pe_str (pa_cons (pe_call (ok__law_of T) (hr.mono (by first | decide | omega)) (by rfl) (g__law_of T) (kp__law_of T) (b__law_of T) .nil (passes_call (takes_of rfl rfl rfl rfl) (fun _ _ _ _ h => h)) (pa_cons (pv 0) (pa_cons (pv 1) pa_nil))) (pa_cons (pe_ix ix_seq (pv 4) pe_int (fun _ _ => rfl)) (pa_cons (pe_ix ix_seq (pv 4) pe_int (fun _ _ => rfl)) pa_nil))))) (pe_tup (pa_cons pe_str (pa_cons (pe_ix ix_seq (pv 4) pe_int (fun _ _ => rfl)) pa_nil)))))))) pss_nil)
    (pss_cons (ps_if (PW.pt (pw_and (pt_cmpR op_gt (pv 2) pe_int (nomark _)) (pw_and1 (pt_cmpR (op_eqD hr.units) (pv 3) pe_int (nomark _))))) (pss_one (ps_ret (pe_tup (pa_cons pe_str (pa_cons (pe_call (ok__law_of T) (hr.mono (by first | decide | omega)) (by rfl) (g__law_of T) (kp__law_of T) (b__law_of T) .nil (passes_call (takes_of rfl rfl rfl rfl) (fun _ _ _ _ h => h)) (pa_cons (pv 0) (pa_cons (pv 1) pa_nil))) (pa_cons (pe_call ih (hr.mono (by first | decide | omega)) (by rfl) (g__law_wish T) (kp__law_wish T) (b__law_wish T) .nil (passes_call (takes_of rfl rfl rfl rfl) (fun _ _ _ _ h => h)) (pa_cons (pv 0) (pa_cons (pv 1) (pa_cons (pe_op op_sub (pv 2) pe_int) pa_nil)))) pa_nil)))))) pss_nil)
    (pss_one (ps_ret (pe_call (ok__law_plain_wish T) (hr.mono (by first | decide | omega)) (by rfl) (g__law_plain_wish T) (kp__law_plain_wish T) (b__law_plain_wish T) .nil (passes_call (takes_of rfl rfl rfl rfl) (fun _ _ _ _ h => h)) (pa_cons (pv 0) (pa_cons (pv 1) (pa_cons (pe_callB (call_max2 (by rfl)) (by rfl) (fr_max T) (by decide +kernel) (pa_cons pe_int (pa_cons (pe_callB (call_min2 (by rfl)) (by rfl) (fr_min T) (by decide +kernel) (pa_cons (pv 2) (pa_cons pe_int pa_nil))) pa_nil))) pa_nil))))))))), ?_⟩
    exact spD_run (K := K) (mg := mg) (E := E) (np := 3) (n := 3) rfl (ds_seq (ds_asg (de_call (fun _ _ _ _ => .nil) (da_cons de_var (da_cons de_int da_nil))) dg_name)
    (ds_seq (ds_if (dt_and (dt_test (DE.q (de_op (od_I0 fun _ _ _ _ _ _ => .bl _) dq_var (DE.q de_int)))) (dt_test (DE.q (de_op (od_I0 fun _ _ _ _ _ _ => .bl _) dq_var (DE.q de_int))))) (ds_seq (ds_asg (de_lc (E' := E0) (vs := [5]) (di_rng1 (db_cons (DE.q de_int) db_nil)) dg_name (by decide) dt_yes (de_call (fun _ _ _ _ => .nil) (da_cons de_var (da_cons de_var (da_cons (de_op (od_I0 fun _ _ _ _ _ _ => .int _) (DE.q (de_op (od_I fun _ _ _ _ _ _ => .int _) dq_var (DE.q de_int))) (DE.q (de_op (od_I fun _ _ _ _ _ _ => .int _) (DE.q (de_op (od_I fun _ _ _ _ _ _ => .int _) dq_var (DE.q de_int))) (DE.q de_int)))) da_nil))))) dg_name)
    (ds_seq (ds_if (dt_test (DE.q (de_op (od_I0 fun _ _ _ _ _ _ => .bl _) dq_var (DE.q de_int)))) (ds_ret (de_tup (da_cons (de_op od_ix (DE.q (de_lst (da_cons (de_str (by decide +kernel)) (da_cons (de_str (by decide +kernel)) da_nil)))) dq_var) (da_cons (de_op od_ix dq_var (DE.q de_int)) (da_cons (de_op od_ix dq_var (DE.q de_int)) da_nil))))) ds_next)
    (ds_ret (de_if (dt_test (DE.q (de_op od_eq dq_var (DE.q de_int)))) (de_tup (da_cons (de_str (by decide +kernel)) (da_cons (de_call (fun _ _ _ _ => .nil) (da_cons de_var (da_cons de_var da_nil))) (da_cons (de_op od_ix dq_var (DE.q de_int)) (da_cons (de_op od_ix dq_var (DE.q de_int)) da_nil))))) (de_tup (da_cons (de_str (by decide +kernel)) (da_cons (de_op od_ix dq_var (DE.q de_int)) da_nil))))))) ds_next)
    (ds_seq (ds_if (dt_and (dt_test (DE.q (de_op (od_I0 fun _ _ _ _ _ _ => .bl _) dq_var (DE.q de_int)))) (dt_test (DE.q (de_op od_eq dq_var (DE.q de_int))))) (ds_ret (de_tup (da_cons (de_str (by decide +kernel)) (da_cons (de_call (fun _ _ _ _ => .nil) (da_cons de_var (da_cons de_var da_nil))) (da_cons (de_call (fun _ _ _ _ => .nil) (da_cons de_var (da_cons de_var (da_cons (de_op (od_I0 fun _ _ _ _ _ _ => .int _) dq_var (DE.q de_int)) da_nil)))) da_nil))))) ds_next)
    (ds_ret (de_call (fun _ _ _ _ => .nil) (da_cons de_var (da_cons de_var (da_cons (de_CB cd_max2 (db_cons (DE.q de_int) (db_cons (DE.q (de_CB cd_min2 (db_cons dq_var (db_cons (DE.q de_int) db_nil)))) db_nil))) da_nil)))))))) h
/-! ### _law_said_pattern -/
theorem ok__law_said_pattern (T : Txt w K mg) : ∀ n, FnOk P w K mg base (L2.CX P w) (0 + n) (He.fAd K ("_law_said_pattern", none)) (fdF K ("_law_said_pattern", none)) ["_law_pattern_here"] (spD K mg (m__law_said_pattern n))
  | 0 => ⟨fun vs H Q E h => by obtain ⟨_, _, _, _, _, _, _, _, hm, _⟩ := h; exact hm.elim, fun _ _ _ _ _ _ _ _ _ _ _ _ _ h => by obtain ⟨_, _, _, _, _, _, _, _, hm, _⟩ := h; exact hm.elim⟩
  | n + 1 => by
    have ih : FnOk P w K mg base (L2.CX P w) (0 + n) (He.fAd K ("_law_said_pattern", none)) (fdF K ("_law_said_pattern", none)) ["_law_pattern_here"] (spD K mg (m__law_said_pattern n)) := ok__law_said_pattern T n
    refine (F__law_said_pattern T).ok (k := 0 + n) sc__law_said_pattern (fun vs H Q E h => spD_len h) (fun cdv A outer s H vs Q E hr h => ?_)
    refine ⟨_, (pss_cons (ps_if (pt_cmpR (op_eqD hr.units) (pe_ix ix_seq (pv 0) pe_int (fun _ _ => rfl)) pe_str (nomark _)) (pss_one (ps_ret pe_str)) pss_nil)
    (pss_cons (ps_if (pt_cmpR (op_eqD hr.units) (pe_ix ix_seq (pv 0) pe_int (fun _ _ => rfl)) pe_str (nomark _)) (pss_one (ps_ret (pe_ix ix_seq (pv 0) pe_int (fun _ _ => rfl)))) pss_nil)
    (pss_cons (ps_setLc (i := 1) (own := [("_law_one", 2)]) (g := (gName 2)) (tt := tYes)  (by rfl) sc__law_said_pattern.nd rfl rfl (sw_true rfl rfl rfl (by decide +kernel)) (pi_tup (pe_slice sl_tupA (pv 0) (po_some pe_int) po_none)) (blkOk_by (own := [("_law_one", 2)]) (N := ["_law_pattern_here", "_law_parts_here", "_law_one"]) (sc := defScope s__law_said_pattern) (by decide +kernel)) (fun _ _ _ _ _ => (pg_name (i := 2) sc__law_said_pattern.nd rfl (by first | exact Or.inl rfl | exact Or.inr rfl))) (fun _ _ _ _ _ => pts_nil) (fun _ _ _ _ _ => (pe_call ih (hr.mono (by first | decide | omega)) (by rfl) (g__law_said_pattern T) (kp__law_said_pattern T) (b__law_said_pattern T) .nil passL (pa_cons (pv 2) pa_nil))))
    (pss_cons (ps_if (pt_cmpR (op_eqD hr.units) (pe_ix ix_seq (pv 0) pe_int (fun _ _ => rfl)) pe_str (nomark _)) (pss_one (ps_ret (pe_op op_addX (pe_op op_addX pe_str (pe_ix ix_seq (pv 1) pe_int (fun _ _ => rfl))) pe_str))) pss_nil)
    (pss_one (ps_ret (pe_ifExp (pt_cmpR (op_eqD hr.units) (pe_ix ix_seq (pv 0) pe_int (fun _ _ => rfl)) pe_str (nomark _)) (pe_op op_addX (pe_op op_addX pe_str (pe_joinN pe_str (pv 1))) pe_str) (pe_op op_addX (pe_op op_addX pe_str (pe_joinN pe_str (pv 1))) pe_str)))))))), ?_⟩
    exact spD_run (K := K) (mg := mg) (E := E) (np := 1) (n := 2) rfl (ds_seq (ds_if (dt_test (DE.q (de_op od_eq (DE.q (de_op od_ix dq_var (DE.q de_int))) (DE.q (de_str (by decide +kernel)))))) (ds_ret (de_str (by decide +kernel))) ds_next)
    (ds_seq (ds_if (dt_test (DE.q (de_op od_eq (DE.q (de_op od_ix dq_var (DE.q de_int))) (DE.q (de_str (by decide +kernel)))))) (ds_ret (de_op od_ix dq_var (DE.q de_int))) ds_next)
    (ds_seq (ds_asg (de_lc (E' := E0) (vs := [2]) (di_tup (de_sl sd_tup dq_var (do_some (DE.q de_int)) do_no)) dg_name (by decide) dt_yes (de_call (fun _ _ _ _ => .nil) (da_cons de_var da_nil))) dg_name)
    (ds_seq (ds_if (dt_test (DE.q (de_op od_eq (DE.q (de_op od_ix dq_var (DE.q de_int))) (DE.q (de_str (by decide +kernel)))))) (ds_ret (de_op od_add (DE.q (de_op od_add (DE.q (de_str (by decide +kernel))) (DE.q (de_op od_ix dq_var (DE.q de_int))))) (DE.q (de_str (by decide +kernel))))) ds_next)
    (ds_ret (de_if (dt_test (DE.q (de_op od_eq (DE.q (de_op od_ix dq_var (DE.q de_int))) (DE.q (de_str (by decide +kernel)))))) (de_op od_add (DE.q (de_op od_add (DE.q (de_str (by decide +kernel))) (DE.q (de_join (DE.q (de_str (by decide +kernel))) dq_var)))) (DE.q (de_str (by decide +kernel)))) (de_op od_add (DE.q (de_op od_add (DE.q (de_str (by decide +kernel))) (DE.q (de_join (DE.q (de_str (by decide +kernel))) dq_var)))) (DE.q (de_str (by decide +kernel)))))))))) h
/-! ### _law_is_pattern -/
theorem ok__law_is_pattern (T : Txt w K mg) : FnOk P w K mg base (L2.CX P w) 1 (He.fAd K ("_law_is_pattern", none)) (fdF K ("_law_is_pattern", none)) ["_law_thing"] (spD K mg m__law_is_pattern) := by
  refine (F__law_is_pattern T).ok (k := 0) sc__law_is_pattern (fun vs H Q E h => spD_len h) (fun cdv A outer s H vs Q E hr h => ?_)
  refine ⟨_, (pss_one (ps_ret (pe_cmpR op_inX (pe_ix ix_seq (pv 0) pe_int (fun _ _ => rfl)) (pe_lst (pa_cons pe_str (pa_cons pe_str (pa_cons pe_str (pa_cons pe_str (pa_cons pe_str pa_nil)))))) (by rfl)))), ?_⟩
  exact spD_run (K := K) (mg := mg) (E := E) (np := 1) (n := 0) rfl (ds_ret (de_op od_in (DE.q (de_op od_ix dq_var (DE.q de_int))) (DE.q (de_lst (da_cons (de_str (by decide +kernel)) (da_cons (de_str (by decide +kernel)) (da_cons (de_str (by decide +kernel)) (da_cons (de_str (by decide +kernel)) (da_cons (de_str (by decide +kernel)) da_nil))))))))) h
/-! ### _law_said_wish -/
theorem ok__law_said_wish (T : Txt w K mg) : ∀ n, FnOk P w K mg base (L2.CX P w) (70 + n) (He.fAd K ("_law_said_wish", none)) (fdF K ("_law_said_wish", none)) ["_law_wish_here"] (spD K mg (m__law_said_wish n))
  | 0 => ⟨fun vs H Q E h => by obtain ⟨_, _, _, _, _, _, _, _, hm, _⟩ := h; exact hm.elim, fun _ _ _ _ _ _ _ _ _ _ _ _ _ h => by obtain ⟨_, _, _, _, _, _, _, _, hm, _⟩ := h; exact hm.elim⟩
  | n + 1 => by
    have ih : FnOk P w K mg base (L2.CX P w) (70 + n) (He.fAd K ("_law_said_wish", none)) (fdF K ("_law_said_wish", none)) ["_law_wish_here"] (spD K mg (m__law_said_wish n)) := ok__law_said_wish T n
    refine (F__law_said_wish T).ok (k := 70 + n) sc__law_said_wish (fun vs H Q E h => spD_len h) (fun cdv A outer s H vs Q E hr h => ?_)
    refine ⟨_, (pss_cons (ps_set (i := 1) sc__law_said_wish.nd rfl (by first | exact Or.inl rfl | exact Or.inr rfl) (pe_lst (pa_cons (pe_ix ix_seq (pv 0) pe_int (fun _ _ => rfl)) pa_nil)))
    (pss_cons (ps_for (passes_of rfl) (by rfl) (pi_tup (pe_slice sl_tupA (pv 0) (po_some pe_int) po_none)) (pg_name (i := 2) sc__law_said_wish.nd rfl (by first | exact Or.inl rfl | exact Or.inr rfl)) (pss_one (ps_if (pt_not (pt_val (pe_callB call_isi (by rfl) (fr_isinstance T) (by decide +kernel) (pa_cons (pv 2) (pa_cons (pe_bty (n := "tuple") (by rfl) (fr_tuple T) (by decide +kernel)) pa_nil))))) (pss_one (ps_expr (pe_bm PySem.F.plainAttrs_list PySem.F.slot_list_append PySem.F.type_list_append mt_append (pv 1) (pa_cons (pe_callTy call_strA (by rfl) (fr_str T) (by decide +kernel) (pa_cons (pv 2) pa_nil)) pa_nil)))) (pss_one (ps_if (pt_val (pe_call (ok__law_is_pattern T) (hr.mono (by first | decide | omega)) (by rfl) (g__law_is_pattern T) (kp__law_is_pattern T) (b__law_is_pattern T) .nil (passes_call (takes_of rfl rfl rfl rfl) (fun _ _ _ _ h => h)) (pa_cons (pv 2) pa_nil))) (pss_one (ps_expr (pe_bm PySem.F.plainAttrs_list PySem.F.slot_list_append PySem.F.type_list_append mt_append (pv 1) (pa_cons (pe_call (ok__law_said_pattern T 70) (hr.mono (by first | decide | omega)) (by rfl) (g__law_said_pattern T) (kp__law_said_pattern T) (b__law_said_pattern T) .nil (passes_call (takes_of rfl rfl rfl rfl) (fun _ _ _ _ h => h)) (pa_cons (pv 2) pa_nil)) pa_nil)))) (pss_one (ps_expr (pe_bm PySem.F.plainAttrs_list PySem.F.slot_list_append PySem.F.type_list_append mt_append (pv 1) (pa_cons (pe_op op_addX (pe_op op_addX pe_str (pe_call ih (hr.mono (by first | decide | omega)) (by rfl) (g__law_said_wish T) (kp__law_said_wish T) (b__law_said_wish T) .nil (passes_call (takes_of rfl rfl rfl rfl) (fun _ _ _ _ h => h)) (pa_cons (pv 2) pa_nil))) pe_str) pa_nil)))))))))
    (pss_one (ps_ret (pe_joinN pe_str (pv 1)))))), ?_⟩
    exact spD_run (K := K) (mg := mg) (E := E) (np := 1) (n := 2) rfl (ds_seq (ds_own (i := 1) (df_lst (da_cons (de_op od_ix dq_var (DE.q de_int)) da_nil)))
    (ds_seq (ds_for (di_tup (de_sl sd_tup dq_var (do_some (DE.q de_int)) do_no)) dg_name (ds_if (dt_not (dt_b (DE.q (de_CB cd_isi (db_cons dq_var (db_cons (DE.q de_raw) db_nil)))))) (ds_app (de_CB cd_strA (db_cons dq_var db_nil))) (ds_if (dt_b (DE.q (de_call (fun _ _ _ _ => .nil) (da_cons de_var da_nil)))) (ds_app (de_call (fun _ _ _ _ => .nil) (da_cons de_var da_nil))) (ds_app (de_op od_add (DE.q (de_op od_add (DE.q (de_str (by decide +kernel))) (DE.q (de_call (fun _ _ _ _ => .nil) (da_cons de_var da_nil))))) (DE.q (de_str (by decide +kernel))))))))
    (ds_frz 1 (ds_ret (de_join (DE.q (de_str (by decide +kernel))) dq_var))))) h
/-! ### law -/
theorem ok_law (hm : m_law ([.un, .va .bag] ++ List.replicate 5 .un) [] okEnds) (T : Txt w K mg) : FnOk P w K mg base (L2.CX P w) 214 (He.fAd K ("law", none)) (fdF K ("law", none)) ["_law_script"] (sp_law K []) := by
  refine (F_law T).ok (k := 213) sc_law (fun vs H Q E h => by obtain ⟨_, _, rfl, _⟩ := h; rfl) (fun cdv A outer s H vs Q E hr h => ?_)
  refine ⟨_, (pss_cons (ps_set (i := 1) sc_law.nd rfl (by first | exact Or.inl rfl | exact Or.inr rfl) (pe_call (okh__law_bag T) (hr.mono (by first | decide | omega)) (by rfl) (g__law_bag T) (kp__law_bag T) (b__law_bag T) .nil (passes_call (takes_of rfl rfl rfl rfl) (fun _ _ _ _ h => h)) (pa_cons (pv 0) pa_nil)))
    (pss_cons (ps_for (passes_of rfl) (by rfl) (pi_range1 (by rfl) (fr_range T) (pa_cons pe_int pa_nil)) (pg_name (i := 2) sc_law.nd rfl (by first | exact Or.inl rfl | exact Or.inr rfl)) (pss_cons (ps_set (i := 3) sc_law.nd rfl (by first | exact Or.inl rfl | exact Or.inr rfl) (pe_call (ok__law_signs T) (hr.mono (by first | decide | omega)) (by rfl) (g__law_signs T) (kp__law_signs T) (b__law_signs T) .nil (passes_call (takes_of rfl rfl rfl rfl) (fun _ _ _ _ h => h)) (pa_cons (pv 1) (pa_cons pe_int pa_nil))))
    (pss_cons (ps_set (i := 4) sc_law.nd rfl (by first | exact Or.inl rfl | exact Or.inr rfl) (pe_call (ok__law_cut_deep T 70) (hr.mono (by first | decide | omega)) (by rfl) (g__law_cut_deep T) (kp__law_cut_deep T) (b__law_cut_deep T) .nil (passes_call (takes_of rfl rfl rfl rfl) (fun _ _ _ _ h => h)) (pa_cons (pe_call (ok__law_pattern T 70) (hr.mono (by first | decide | omega)) (by rfl) (g__law_pattern T) (kp__law_pattern T) (b__law_pattern T) .nil (passes_call (takes_of rfl rfl rfl rfl) (fun _ _ _ _ h => h)) (pa_cons (pv 1) (pa_cons (pv 3) (pa_cons pe_int pa_nil)))) (pa_cons pe_int pa_nil))))
    (pss_cons (ps_set (i := 5) sc_law.nd rfl (by first | exact Or.inl rfl | exact Or.inr rfl) (pe_call (ok__law_said_pattern T 70) (hr.mono (by first | decide | omega)) (by rfl) (g__law_said_pattern T) (kp__law_said_pattern T) (b__law_said_pattern T) .nil (passes_call (takes_of rfl rfl rfl rfl) (fun _ _ _ _ h => h)) (pa_cons (pv 4) pa_nil)))
    (pss_cons (ps_if (pt_not (pt_val (pe_call (ok__law_same T 70) (hr.mono (by first | decide | omega)) (by rfl) (g__law_same T) (kp__law_same T) (b__law_same T) .nil (passes_call (takes_of rfl rfl rfl rfl) (fun _ _ _ _ h => h)) (pa_cons (pe_lst (pa_cons (pe_call (ok_pattern_text T) (hr.mono (by first | decide | omega)) (by rfl) (g_pattern_text T) (kp_pattern_text T) (b_pattern_text T) .nil (passes_call (takes_of rfl rfl rfl rfl) (fun _ _ _ _ h => h)) (pa_cons (pv 4) pa_nil)) (pa_cons (pe_call (ok_read_pattern T) (hr.mono (by first | decide | omega)) (by rfl) (g_read_pattern T) (kp_read_pattern T) (b_read_pattern T) .nil (passes_call (takes_of rfl rfl rfl rfl) (fun _ _ _ _ h => h)) (pa_cons (pv 5) pa_nil)) pa_nil))) (pa_cons (pe_lst (pa_cons (pv 5) (pa_cons (pv 4) pa_nil))) pa_nil))))) (pss_one (ps_ret pe_bl)) pss_nil)
    (pss_cons (ps_set (i := 6) sc_law.nd rfl (by first | exact Or.inl rfl | exact Or.inr rfl) (pe_call (ok__law_wish T 70) (hr.mono (by first | decide | omega)) (by rfl) (g__law_wish T) (kp__law_wish T) (b__law_wish T) .nil (passes_call (takes_of rfl rfl rfl rfl) (fun _ _ _ _ h => h)) (pa_cons (pv 1) (pa_cons (pv 3) (pa_cons pe_int pa_nil)))))
    (pss_one (ps_if (pt_cmpR op_isN0 (pe_call (ok__law_size_flaw T) (hr.mono (by first | decide | omega)) (by rfl) (g__law_size_flaw T) (kp__law_size_flaw T) (b__law_size_flaw T) .nil (passes_call (takes_of rfl rfl rfl rfl) (fun _ _ _ _ h => h)) (pa_cons (pv 6) pa_nil)) pe_non (nomark _)) (pss_cons (ps_set (i := 5) sc_law.nd rfl (by first | exact Or.inl rfl | exact Or.inr rfl) (pe_call (ok__law_said_wish T 70) (hr.mono (by first | decide | omega)) (by rfl) (g__law_said_wish T) (kp__law_said_wish T) (b__law_said_wish T) .nil (passes_call (takes_of rfl rfl rfl rfl) (fun _ _ _ _ h => h)) (pa_cons (pv 6) pa_nil)))
    (pss_one (ps_if (pt_not (pt_val (pe_call (ok__law_same T 70) (hr.mono (by first | decide | omega)) (by rfl) (g__law_same T) (kp__law_same T) (b__law_same T) .nil (passes_call (takes_of rfl rfl rfl rfl) (fun _ _ _ _ h => h)) (pa_cons (pe_lst (pa_cons (pe_call (ok_wish_text T) (hr.mono (by first | decide | omega)) (by rfl) (g_wish_text T) (kp_wish_text T) (b_wish_text T) .nil (passes_call (takes_of rfl rfl rfl rfl) (fun _ _ _ _ h => h)) (pa_cons (pv 6) pa_nil)) (pa_cons (pe_call (ok_read_wish T) (hr.mono (by first | decide | omega)) (by rfl) (g_read_wish T) (kp_read_wish T) (b_read_wish T) .nil (passes_call (takes_of rfl rfl rfl rfl) (fun _ _ _ _ h => h)) (pa_cons (pv 5) pa_nil)) pa_nil))) (pa_cons (pe_lst (pa_cons (pv 5) (pa_cons (pv 6) pa_nil))) pa_nil))))) (pss_one (ps_ret pe_bl)) pss_nil))) pss_nil))))))))
    (pss_one (ps_ret (pe_cmpR (op_eqD hr.units) (pe_call (ok_wish_text T) (hr.mono (by first | decide | omega)) (by rfl) (g_wish_text T) (kp_wish_text T) (b_wish_text T) .nil (passes_call (takes_of rfl rfl rfl rfl) (fun _ _ _ _ h => h)) (pa_cons (pe_tup (pa_cons pe_str (pa_cons pe_str (pa_cons (pe_tup (pa_cons pe_str (pa_cons pe_str pa_nil))) (pa_cons (pe_tup (pa_cons pe_str (pa_cons (pe_tup (pa_cons pe_str (pa_cons (pe_tup (pa_cons pe_str (pa_cons pe_str pa_nil))) pa_nil))) pa_nil))) pa_nil))))) pa_nil)) pe_str (nomark _)))))), ?_⟩
  exact law_start (K := K) (mg := mg) (E := E) (n := 5) rfl (ds_seq (ds_for (di_rng1 (db_cons (DE.q de_int) db_nil)) dg_name (ds_seq (ds_asg (de_call (fun _ _ _ _ => .nil) (da_cons de_var (da_cons de_int da_nil))) dg_name)
    (ds_seq (ds_asg (de_call (fun _ _ _ _ => .nil) (da_cons (de_call (fun _ _ _ _ => .nil) (da_cons de_var (da_cons de_var (da_cons de_int da_nil)))) (da_cons de_int da_nil))) dg_name)
    (ds_seq (ds_asg (de_call (fun _ _ _ _ => .nil) (da_cons de_var da_nil)) dg_name)
    (ds_seq (ds_if (dt_not (dt_b (DE.q (de_call (fun _ _ _ _ => .nil) (da_cons (de_lst (da_cons (de_call (fun _ _ _ _ => .nil) (da_cons de_var da_nil)) (da_cons (de_call (fun _ _ _ _ => .nil) (da_cons de_var da_nil)) da_nil))) (da_cons (de_lst (da_cons de_var (da_cons de_var da_nil))) da_nil)))))) (ds_ret de_bl) ds_next)
    (ds_seq (ds_asg (de_call (fun _ _ _ _ => .nil) (da_cons de_var (da_cons de_var (da_cons de_int da_nil)))) dg_name)
    (ds_if (dt_test (DE.q (de_op od_is (DE.q (de_call (fun _ _ _ _ => .nil) (da_cons de_var da_nil))) (DE.q de_non)))) (ds_seq (ds_asg (de_call (fun _ _ _ _ => .nil) (da_cons de_var da_nil)) dg_name)
    (ds_if (dt_not (dt_b (DE.q (de_call (fun _ _ _ _ => .nil) (da_cons (de_lst (da_cons (de_call (fun _ _ _ _ => .nil) (da_cons de_var da_nil)) (da_cons (de_call (fun _ _ _ _ => .nil) (da_cons de_var da_nil)) da_nil))) (da_cons (de_lst (da_cons de_var (da_cons de_var da_nil))) da_nil)))))) (ds_ret de_bl) ds_next)) ds_next)))))))
    (ds_ret (de_op od_eq (DE.q (de_call (fun _ _ _ _ => .nil) (da_cons (de_tup (da_cons (de_str (by decide +kernel)) (da_cons (de_str (by decide +kernel)) (da_cons (de_tup (da_cons (de_str (by decide +kernel)) (da_cons (de_str (by decide +kernel)) da_nil))) (da_cons (de_tup (da_cons (de_str (by decide +kernel)) (da_cons (de_tup (da_cons (de_str (by decide +kernel)) (da_cons (de_tup (da_cons (de_str (by decide +kernel)) (da_cons (de_str (by decide +kernel)) da_nil))) da_nil))) da_nil))) da_nil))))) da_nil))) (DE.q (de_str (by decide +kernel)))))) hm h
end
end Nc
namespace Nc
open PySem PySem.Spec PyProof.Rows L2
abbrev R : PySem.W.OpenRow := PySem.W.OpenLaw.row PySem.Challenge.rw_namecote_k14_patterns_and_wishes_written
abbrev hk : PySem.W.Hook := hookX 5 fa fn exB tbs
def ob (s : PySem.W.SharedT) : AlX := obsXG 5 fa fn exB tbs (HandSHeadRun.getT s)
theorem ob_eq (s : PySem.W.SharedT) : ob s = hk.obs s.abs := obsXG_eq (HandSHeadRun.getT_eq s)
def loose : List Str := [("__name__" : Str), ("CoteError" : Str), ("BadPattern" : Str), ("BadWish" : Str), ("BadText" : Str), ("__name__" : Str), ("LETTERS" : Str), ("is_number" : Str), ("is_letter" : Str), ("__name__" : Str), ("MOST_PARTS" : Str), ("MOST_DEEP" : Str), ("NESTED" : Str), ("pattern_formed" : Str), ("parts_within" : Str), ("parts_of" : Str), ("deep_of" : Str), ("size_flaw" : Str), ("flaw_of" : Str), ("need_pattern" : Str), ("__name__" : Str), ("WIDEST" : Str), ("LONGEST_APART" : Str), ("between" : Str), ("wish_formed" : Str), ("wish_flaw" : Str), ("need_wish" : Str), ("__name__" : Str), ("PATTERN_SIGNS" : Str), ("CLOSING" : Str), ("OPENING" : Str), ("SHAPES" : Str), ("FIGURES" : Str), ("pattern_so" : Str), ("wish_so" : Str), ("pattern_text" : Str), ("wish_text" : Str), ("Reader" : Str), ("read_pattern" : Str), ("read_wish" : Str), ("__name__" : Str), ("_law_bag" : Str), ("_law_pick" : Str), ("_law_of" : Str), ("_law_shuffled" : Str), ("_law_same" : Str), ("_law_signs" : Str), ("_law_pattern" : Str), ("_law_inner" : Str), ("_law_parts" : Str), ("_law_deep" : Str), ("_law_cut_deep" : Str), ("_law_size_flaw" : Str), ("_law_wish" : Str), ("_law_plain_wish" : Str), ("_law_said_pattern" : Str), ("_law_said_wish" : Str), ("_law_is_pattern" : Str)]
theorem run (w : World) : HandSHeadRun.RunEq R (PySem.W.view R.prog [58]) hk ob 40000 loose w := by
  refine PySem.W.byRow2 "special-get-raises" (P := fun w => HandSHeadRun.RunEq R (PySem.W.view R.prog [58]) hk ob 40000 loose w) (fun w => ?_) (fun w => ?_) w
  · intro os
    kernel_rfl
  · intro os
    kernel_rfl
theorem facts {P : Program} {w : World} {K : PySem.W.Frag} {h : Heap} {mg : Str → Option Value} {f : Addr} (X : K.In h) (G : h.Ns mainGlobals mg) (hfa : mg ("law" : Str) = some (.ref f)) (c : SaysX fa fn exB tbs w K) :
    ∃ fd : FuncData, (∀ (s : Shared) (v : Value), BindsTo s fd ⟨[v], []⟩ [("_law_script", v)]) ∧ ∀ base : Heap, K.In base → base.Ns mainGlobals mg → FnOk P w K mg base (L2.CX P w) 214 f fd ["_law_script"] (sp_law K []) := by
  have T : Txt w K mg := ⟨c.c, ⟨h, X, G⟩, c.x, c⟩
  have e := hfa.symm.trans (g_law T)
  cases e
  have b := FunD.bindsA (ps := ["_law_script"]) (F_law T) fun _ _ _ _ _ _ us hl => match us, hl with | [_], _ => rfl
  exact ⟨_, fun s v => b s [v] rfl, fun base _ _ => ok_law law_m T⟩
end Nc
open PySem PySem.W PySem.Calls PyProof.Rows
set_option maxRecDepth 100000 in
set_option maxHeartbeats 0 in
theorem PySem.Challenge.cw_namecote_k14_patterns_and_wishes_written_holds : PySem.Challenge.rw_namecote_k14_patterns_and_wishes_written.Holds := by
  w_on; o_law
  refine HandSHeadRun.head_any (r := OpenLaw.row PySem.Challenge.rw_namecote_k14_patterns_and_wishes_written) (q := view (OpenLaw.row PySem.Challenge.rw_namecote_k14_patterns_and_wishes_written).prog [58]) (H := Nc.hk) (ob := Nc.ob) (M := 40000) (loose := Nc.loose) (d := HandSHeadRun.topDef (OpenLaw.row PySem.Challenge.rw_namecote_k14_patterns_and_wishes_written).prog 58) (kwd := []) Nc.ob_eq
    (by kernel_rfl) (fun s => by kernel_rfl) Nc.run (by kernel_rfl) (by kernel_rfl) (by kernel_rfl) (by rfl) (by first | assumption | decide +kernel) (by decide +kernel) ⟨rfl, rfl, rfl, rfl, rfl, by decide +kernel⟩ ?hw ?hc
  case hw => w_witness2
  case hc =>
    refine Nc.walk_nc (l := PySem.Challenge.rw_namecote_k14_patterns_and_wishes_written) (n := 63) (k := 214) (x := "_law_script") rfl (by decide) (by kernel_rfl) ⟨rfl, by decide, by decide⟩ ?F
    intro w mg fa h Y G hmg0
    obtain ⟨K, KX, c⟩ := Y
    have hmg : mg ("law" : PySem.Str) = some (.ref fa) := by
      have e : (HandSHeadRun.topDef (OpenLaw.row PySem.Challenge.rw_namecote_k14_patterns_and_wishes_written).prog 58).name = ("law" : PySem.Str) := by kernel_rfl
      rw [← e]
      exact hmg0
    obtain ⟨fd, hb, hF⟩ := Nc.facts (P := (PySem.Challenge.rw_namecote_k14_patterns_and_wishes_written).prog) (w := w) KX G hmg c
    exact ⟨K, fd, Nc.sp_law K [], KX, hb, fun H a ns hl _ _ hS => ⟨a, ns, rfl, hS, hl, (fun _ h => nomatch h), fun _ => rfl⟩, hF⟩

