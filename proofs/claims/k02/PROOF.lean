import PyProof.Rows.All
import Wide.All
import OpenK.AllK
import Wide.FinOn
import KE.KStateDown
import Lean
import HandS.ForMost
import HandS.Exc
import HandS.ExcOwn
import HandS.ExcInit
import HandS.TryOnly
import HandS.TryMany
import HandS.More
import HandS.Words
import HandS.WordsList
import HandS.WordsExc
import HandS.Defaults
import HandS.Wide
import HandS.IsInst
import HandS.SetKeys
import HandS.Strs
import HandS.Conv
import HandS.TupAny
import HandS.Flow
import HandS.SortInts
import HandS.Walk
import HandS.Evl
import HandS.EndBits
import HandS.Head0
import HandS.Head1
import HandS.Head2
import HandS.HeadEnd
import HandS.HeadHook1
import HandS.HeadHook2
import KE.GoesNew
import PySem.Challenge.RW_namecote_k02_rows_made_plain
set_option Elab.async false
set_option linter.all false
set_option maxRecDepth 100000
set_option maxHeartbeats 4000000
namespace Nc
open PySem PySem.Spec PyProof.Rows L2
/-! ### stepping a reading -/
section
variable {K : PySem.W.Frag} {σ : L2.St} {H : Hp} {ta tb tc te tx : TE} {x y z v : V} {r r' : R2} {Q : VK} {D : Ends} {t u : TS} {tr : TA}
theorem w_iteT {A B : Prop} {b : Bool} (e : b = true) (h : A) : if b = true then A else B := by rw [if_pos e]; exact h
theorem w_iteF {A B : Prop} {b : Bool} (e : b = false) (h : B) : if b = true then A else B := by rw [if_neg (by rw [e]; exact Bool.false_ne_true)]; exact h
theorem w_iteNT {A B : Prop} (h : B) : if (!true) = true then A else B := h
theorem w_iteNF {A B : Prop} (h : A) : if (!false) = true then A else B := h
theorem w_iteN {A B : Prop} {b : Bool} (h1 : b = false → A) (h2 : b = true → B) : if (!b) = true then A else B := by cases b; exact h1 rfl; exact h2 rfl
theorem w_iteB {A B : Prop} {b : Bool} (h1 : b = true → A) (h2 : b = false → B) : if b = true then A else B := by cases b; exact h2 rfl; exact h1 rfl
theorem w_seq (h : t { D with nx := u D } σ H) : tSeq t u D σ H := h
theorem w_next (h : D.nx σ H) : tNext D σ H := h
theorem w_asg {g : TG} (h : te σ H fun x H1 => g x σ H1 D.nx) : tAsg te g D σ H := h
theorem w_gName {i : Nat} {Q : L2.St → Hp → Prop} (h : Q (σ.set i (some v)) H) : gName i v σ H Q := h
theorem w_ret (h : te σ H D.rt) : tRet te D σ H := h
theorem w_retN (h : D.rt .non H) : tRetN D σ H := h
theorem w_drop (h : te σ H fun _ H1 => D.nx σ H1) : tDrop te D σ H := h
theorem w_if {c : TT} (h : c σ H fun b H1 => if b = true then t D σ H1 else u D σ H1) : tIfS c t u D σ H := h
theorem w_ifE {c : TT} (h : c σ H fun b H1 => if b = true then ta σ H1 Q else tb σ H1 Q) : tIf c ta tb σ H Q := h
theorem w_var {i : Nat} (h : σ[i]? = some (some v)) (q : Q v H) : tVar i σ H Q := ⟨v, h, q⟩
theorem w_c (q : Q v H) : tC v σ H Q := q
theorem w_op (h : ta σ H fun x H1 => tb σ H1 fun y H2 => r x y H2 Q) : tOp r ta tb σ H Q := h
theorem w_un {r : V → Hp → VK → Prop} (h : ta σ H fun x H1 => r x H1 Q) : tUn r ta σ H Q := h
theorem w_cons {Q : List V → Hp → Prop} (h : ta σ H fun x H1 => tr σ H1 fun xs H2 => Q (x :: xs) H2) : tCons ta tr σ H Q := h
theorem w_nil {Q : List V → Hp → Prop} (h : Q [] H) : tNil σ H Q := h
theorem w_CB {r : List V → Hp → VK → Prop} (h : tr σ H fun vs H1 => r vs H1 Q) : tCB r tr σ H Q := h
theorem w_call {sp : Sp} {dvs : List V} {E : XK} (h : tr σ H fun vs H1 => sp (vs ++ dvs) H1 Q E) : tCall sp dvs E tr σ H Q := h
theorem w_tB {Q : Bool → Hp → Prop} (h : te σ H fun x H1 => ∃ c, x = .bl c ∧ Q c H1) : tB te σ H Q := h
theorem w_tTest {Q : Bool → Hp → Prop} (h : te σ H fun x H1 => ∃ c, x = .bl c ∧ Q c H1) : tTest te σ H Q := h
theorem w_bl {b : Bool} {P : Bool → Prop} (h : P b) : ∃ c, V.bl b = .bl c ∧ P c := ⟨b, rfl, h⟩
theorem w_tNot {t : TT} {Q : Bool → Hp → Prop} (h : t σ H fun c H1 => Q (!c) H1) : tNot t σ H Q := h
theorem w_tAnd {t u : TT} {Q : Bool → Hp → Prop} (h : t σ H fun c H1 => if c = true then u σ H1 Q else Q false H1) : tAnd t u σ H Q := h
theorem w_tOr {t u : TT} {Q : Bool → Hp → Prop} (h : t σ H fun c H1 => if c = true then Q true H1 else u σ H1 Q) : tOr t u σ H Q := h
theorem w_andV (h : ta σ H fun x H1 => ∃ c, x = .bl c ∧ if c = true then tb σ H1 Q else Q (.bl false) H1) : tAndV ta tb σ H Q := h
theorem w_orV (h : ta σ H fun x H1 => ∃ c, x = .bl c ∧ if c = true then Q (.bl true) H1 else tb σ H1 Q) : tOrV ta tb σ H Q := h
theorem w_notV (h : ta σ H fun x H1 => ∃ c, x = .bl c ∧ Q (.bl (!c)) H1) : tNotV ta σ H Q := h
theorem w_chain (h : ta σ H fun x H1 => tb σ H1 fun y H2 => r x y H2 fun z H3 => ∃ k, z = .bl k ∧ (if k = true then tc σ H3 fun w' H4 => r' y w' H4 Q else Q (.bl false) H3)) : tChain r r' ta tb tc σ H Q := h
theorem same_new {H : Hp} {p : Addr} {o : HO} (h : H p = none) : Same H (upd H p o) := fun a u e => by
  rw [upd_ne (ne_of_none e h)]; exact e
def newO (o : HO) (H : Hp) (Q : VK) : Prop := ∀ p, H p = none → Q (.ref p) (upd H p o)
def newL (xs : List V) (H : Hp) (Q : VK) : Prop := xs.length ≤ sizeLine ∧ newO (.lst xs) H Q
def newT (xs : List V) (H : Hp) (Q : VK) : Prop := xs.length ≤ sizeLine ∧ newO (.tup xs) H Q
theorem w_tup (h : tr σ H fun xs H1 => newT xs H1 Q) : tTup tr σ H Q := h
theorem w_lst (h : tr σ H fun xs H1 => newL xs H1 Q) : tLst tr σ H Q := h
/-- a new object: its address, the heap behind -/
theorem w_newO {o : HO} (q : ∀ p H', H p = none → Same H H' → H' p = some o → Q (.ref p) H') : newO o H Q := fun p hp => q p _ hp (same_new hp) upd_same
theorem w_newL {xs : List V} (c : xs.length ≤ sizeLine) (q : ∀ p H', H p = none → Same H H' → H' p = some (.lst xs) → Q (.ref p) H') : newL xs H Q := ⟨c, w_newO q⟩
theorem w_newT {xs : List V} (c : xs.length ≤ sizeLine) (q : ∀ p H', H p = none → Same H H' → H' p = some (.tup xs) → Q (.ref p) H') : newT xs H Q := ⟨c, w_newO q⟩
theorem w_slL {a : Addr} {xs : List V} {lo hi : Option Int} (h : SqL K H a xs) (q : ∀ p H', H p = none → Same H H' → H' p = some (.lst (cutV xs lo hi)) → Q (.ref p) H') : rSlL K (.ref a) lo hi H Q := ⟨a, xs, rfl, h, w_newO q⟩
def rListOf (K : PySem.W.Frag) : List V → Hp → VK → Prop := fun xs H Q => ∃ p ys, xs = [.ref p] ∧ (SqL K H p ys ∨ SqT K H p ys) ∧ newO (.lst ys) H Q
theorem w_listOf {a : Addr} {xs : List V} (h : SqL K H a xs ∨ SqT K H a xs) (q : ∀ p H', H p = none → Same H H' → H' p = some (.lst xs) → Q (.ref p) H') : rListOf K [.ref a] H Q := ⟨a, xs, rfl, h, w_newO q⟩
def rListText : List V → Hp → VK → Prop := fun xs H Q => ∃ z : Str, xs = [.str z] ∧ z.length ≤ sizeLine ∧ newO (.lst (z.cps.toList.map fun c => V.str ⟨#[c]⟩)) H Q
theorem w_listText {z : Str} (h : z.length ≤ sizeLine) (q : ∀ p H', H p = none → Same H H' → H' p = some (.lst (z.cps.toList.map fun c => V.str ⟨#[c]⟩)) → Q (.ref p) H') : rListText [.str z] H Q := ⟨z, rfl, h, w_newO q⟩
def rLen (K : PySem.W.Frag) : List V → Hp → VK → Prop := fun xs H Q => ∃ p ys, xs = [.ref p] ∧ (SqL K H p ys ∨ SqT K H p ys) ∧ Q (.int ys.length) H
theorem w_len {p : Addr} {xs : List V} (h : SqL K H p xs) (q : Q (.int xs.length) H) : rLen K [V.ref p] H Q := ⟨p, xs, rfl, .inl h, q⟩
theorem w_lenT {p : Addr} {xs : List V} (h : SqT K H p xs) (q : Q (.int xs.length) H) : rLen K [V.ref p] H Q := ⟨p, xs, rfl, .inr h, q⟩
def rLenStr : List V → Hp → VK → Prop := fun xs H Q => ∃ z : Str, xs = [.str z] ∧ z.length ≤ sizeLine ∧ Q (.int z.length) H
theorem w_lenStr {z : Str} (h : z.length ≤ sizeLine) (q : Q (.int z.length) H) : rLenStr [.str z] H Q := ⟨z, rfl, h, q⟩
theorem w_all {a : Addr} {bs : List Bool} (h : SqL K H a (bs.map V.bl)) (q : Q (.bl (bs.all id)) H) : rAll K [.ref a] H Q := ⟨a, bs, rfl, h, q⟩
theorem w_any {a : Addr} {bs : List Bool} (h : SqL K H a (bs.map V.bl)) (q : Q (.bl (bs.any id)) H) : rAny K [.ref a] H Q := ⟨a, bs, rfl, h, q⟩
def rInSign : R2 := fun x y H Q => ∃ (c : Nat) (z : Str), x = .str ⟨#[c]⟩ ∧ y = .str z ∧ Q (.bl (decide (c ∈ z.cps.toList))) H
theorem w_inSign {c : Nat} {z : Str} (q : Q (.bl (decide (c ∈ z.cps.toList))) H) : rInSign (.str ⟨#[c]⟩) (.str z) H Q := ⟨c, z, rfl, rfl, q⟩
def rNotInSign : R2 := fun x y H Q => ∃ (c : Nat) (z : Str), x = .str ⟨#[c]⟩ ∧ y = .str z ∧ Q (.bl (!decide (c ∈ z.cps.toList))) H
theorem w_notInSign {c : Nat} {z : Str} (q : Q (.bl (!decide (c ∈ z.cps.toList))) H) : rNotInSign (.str ⟨#[c]⟩) (.str z) H Q := ⟨c, z, rfl, rfl, q⟩
theorem w_BM {T : String} {r : V → List V → Hp → VK → Prop} (h : ta σ H fun x H1 => tyV K T x H1 ∧ tr σ H1 fun xs H2 => r x xs H2 Q) : tBM K T r ta tr σ H Q := h
theorem w_BM0 {T : String} {r : V → List V → Hp → VK → Prop} (h : ta σ H fun x H1 => tyV K T x H1 ∧ r x [] H1 Q) : tBM0 K T r ta σ H Q := h
theorem w_I0 {g : Int → Int → V} {i j : Int} (q : Q (g i j) H) : rI0 g (.int i) (.int j) H Q := ⟨i, j, rfl, rfl, q⟩
theorem w_I {C : Int → Int → Prop} {g : Int → Int → V} {i j : Int} (c : C i j) (q : Q (g i j) H) : rI C g (.int i) (.int j) H Q := ⟨i, j, rfl, rfl, c, q⟩
theorem w_Eq (hs : scal x y = true) (q : Q (.bl (decide (x = y))) H) : rEq x y H Q := ⟨hs, q⟩
theorem w_Ne (hs : scal x y = true) (q : Q (.bl (!decide (x = y))) H) : rNe x y H Q := ⟨hs, q⟩
theorem w_ixL {p : Addr} {xs : List V} {i : Int} (h : SqL K H p xs) (ha : atI xs i = some v) (q : Q v H) : rIxL K (.ref p) (.int i) H Q := ⟨p, xs, i, v, rfl, rfl, h, ha, q⟩
theorem w_ixT {p : Addr} {xs : List V} {i : Int} (h : SqT K H p xs) (ha : atI xs i = some v) (q : Q v H) : rIxT K (.ref p) (.int i) H Q := ⟨p, xs, i, v, rfl, rfl, h, ha, q⟩
theorem w_sl {r : V → Option Int → Option Int → Hp → VK → Prop} {tl th : TO} (h : te σ H fun x H1 => tl σ H1 fun l H2 => th σ H2 fun u H3 => r x l u H3 Q) : tSl r te tl th σ H Q := h
theorem w_noPart {Q : Option Int → Hp → Prop} (h : Q none H) : tNoPart σ H Q := h
theorem w_part {Q : Option Int → Hp → Prop} (h : te σ H fun x H1 => ∃ i, x = .int i ∧ Q (some i) H1) : tPart te σ H Q := h
theorem w_int {i : Int} {P : Int → Prop} (h : P i) : ∃ j, V.int i = .int j ∧ P j := ⟨i, rfl, h⟩
end

theorem w_gSub {to ti : TE} {t : TSet} {v : V} {σ : L2.St} {H : Hp} {Q : L2.St → Hp → Prop} (h : to σ H fun o H1 => ti σ H1 fun i H2 => t o i v H2 fun H3 => Q σ H3) : gSub to ti t v σ H Q := h
theorem w_par {i j : Nat} {ta : TA} {D : Ends} {σ : L2.St} {H : Hp} (h : ta σ H fun vs H1 => ∃ v w, vs = [v, w] ∧ D.nx ((σ.set i (some v)).set j (some w)) H1) : tPar i j ta D σ H := h
theorem w_yes {σ : L2.St} {H : Hp} {Q : Bool → Hp → Prop} (h : Q true H) : tYes σ H Q := h
/-- the ways through t joined: J ahead of what follows -/
theorem w_seqJ {t u : TS} {D : Ends} {σ : L2.St} {H : Hp} (J : L2.St → Hp → Prop) (hu : ∀ σ H, J σ H → u D σ H) (h : ∀ N : L2.St → Hp → Prop, (∀ σ H, J σ H → N σ H) → t { D with nx := N } σ H) : tSeq t u D σ H := h (u D) hu
/-! ### what stands behind the top, by names -/
section
variable {X : Cx} {x : Str} {pos : Pos} {v : V} {f : Addr} {n : String}
theorem pe_gv (h : ∃ u, X.mg x = some u ∧ RelV v u) (hg : Gl X x) (hd : (x == ("__debug__" : Str)) = false := by decide) : PE X (.Name x pos) (tC v) := by
  obtain ⟨u, h1, h2⟩ := h
  exact pe_glob hg h1 h2 hd
theorem pe_gdef (h : X.mg x = some (.ref f)) (hg : Gl X x) (hd : (x == ("__debug__" : Str)) = false := by decide) : PE X (.Name x pos) (tC (.ref f)) := pe_glob hg h rfl hd
theorem pe_bty (hg : Gl X x) (hm : X.mg x = none) (hv : bootBuiltins x = some (.type n)) (hn : x ≠ "__name__" := by decide) (hd : (x == ("__debug__" : Str)) = false := by decide) : PE X (.Name x pos) (tC (.ty n)) := pe_bltn hg hm hv rfl hn hd
end
def fdF (K : PySem.W.Frag) (p : Str × Option Str) : FuncData := match K.lookup (He.fAd K p) with
  | some ⟨_, _, .func fd, _⟩ => fd
  | _ => default
theorem funD_fd {K : PySem.W.Frag} {p : Str × Option Str} {x qual : Str} {params : Arguments} {body : List Stmt} {scope : Scope} {dvs : List V} {kws : List (Str × V)} (h : ∃ fd, FunD K x qual params body scope dvs kws (He.fAd K p) fd) :
    FunD K x qual params body scope dvs kws (He.fAd K p) (fdF K p) := by
  obtain ⟨fd, F⟩ := h
  obtain ⟨oc, od, dV, kV, doc, pm, an, cdv, ct, osl, e, lk, r⟩ := F.ex
  have e2 : fdF K p = fd := by unfold fdF; rw [lk]
  rw [e2]
  exact F
theorem funD_bindsD {K : PySem.W.Frag} {x qual : Str} {params : Arguments} {body : List Stmt} {scope : Scope} {dvs : List V} {kws : List (Str × V)} {f : Addr} {fd : FuncData} {ps : List Str} (F : FunD K x qual params body scope dvs kws f fd) (hd : dvs ≠ [])
    (h : ∀ (T : Addr) (kV doc pm : Value) (an : Option Addr) (cdv ct : Value) (us : List Value), us.length = ps.length →
      ∃ k, bindArgs (PySem.W.fnOf x qual params body scope (.ref T) kV doc pm an cdv ct) ⟨us, []⟩ = seqItems? (.ref T) >>= k ∧ ∀ its : List Value, its.length = dvs.length → k (some its.toArray) = pure (ps.zip us)) : Binds K fd ps [] := by
  obtain ⟨ds, v, b⟩ := F.binds1 (ps := ps) ps.length dvs.length hd (by simp) fun T kV doc pm an cdv ct us its h1 h2 => by
    obtain ⟨k, e1, e2⟩ := h T kV doc pm an cdv ct us h1
    refine ⟨k, e1, ?_⟩
    rw [e2 its h2]
    congr 1
    rw [← h2, List.drop_length, List.append_nil]
  rw [List.drop_length] at v
  cases v
  exact b
/-! ### heaps but for one address -/
theorem del_get {H H' : Hp} {p l : Addr} (e : del H' p = del H p) (ne : l ≠ p) : H' l = H l := by
  have := congrFun e l
  rwa [del_ne ne, del_ne ne] at this
theorem del_upd {H : Hp} {p : Addr} {o : HO} : del (upd H p o) p = del H p := by
  funext a
  by_cases h : a = p
  · rw [h, del_same, del_same]
  · rw [del_ne h, del_ne h, upd_ne h]
theorem del_comm {H : Hp} {p q : Addr} : del (del H p) q = del (del H q) p := by
  funext a
  unfold L2.del
  by_cases h : a = p <;> by_cases g : a = q <;> simp [h, g]
theorem same_del {H : Hp} {p : Addr} : Same (del H p) H := fun a o e => by
  by_cases h : a = p
  · rw [h, del_same] at e; cases e
  · rwa [del_ne h] at e
theorem Same.del {H H' : Hp} (s : Same H H') (p : Addr) : Same (L2.del H p) (L2.del H' p) := fun a o e => by
  by_cases h : a = p
  · rw [h, del_same] at e; cases e
  · rw [del_ne h] at e ⊢; exact s a o e
/-- what H does not know may change -/
theorem Same.mut {H H' : Hp} {p : Addr} {o : HO} (e : Same H H') (h : H p = none) : Same H (upd H' p o) := fun a u ha => by
  rw [upd_ne (ne_of_none ha h)]; exact e a u ha
theorem Same.tup {K : PySem.W.Frag} {H H' : Hp} {a : Addr} {xs : List V} (e : Same H H') (h : SqT K H a xs) : SqT K H' a xs := Evl.ex_t e h
mutual
theorem Same.dp {K : PySem.W.Frag} {H H' : Hp} (e : Same H H') : ∀ {v : V} {d : PyData}, Dp K H v d → Dp K H' v d
  | _, _, .non => .non
  | _, _, .bl b => .bl b
  | _, _, .int i => .int i
  | _, _, .str x => .str x
  | _, _, .lst h a => .lst (e.seq h) (Same.dpAll e a)
  | _, _, .tup h a => .tup (Same.tup e h) (Same.dpAll e a)
theorem Same.dpAll {K : PySem.W.Frag} {H H' : Hp} (e : Same H H') : ∀ {vs : List V} {ds : List PyData}, DpAll K H vs ds → DpAll K H' vs ds
  | _, _, .nil => .nil
  | _, _, .cons h a => .cons (Same.dp e h) (Same.dpAll e a)
end
/-! what has no lists in it stays when a list, a dict is written -/
mutual
def noL : PyData → Bool
  | .list _ => false
  | .dict _ => false
  | .tuple xs => noLs xs
  | .none => true | .bool _ => true | .int _ => true | .str _ => true
def noLs : List PyData → Bool
  | [] => true
  | d :: ds => noL d && noLs ds
end
theorem sqt_wr {K : PySem.W.Frag} {H H' : Hp} {p a : Addr} {xs : List V} (mu : Mut (H p)) (e : del H' p = del H p) (h : SqT K H a xs) : SqT K H' a xs := by
  rcases h with (h | ⟨o, h⟩) | h
  · refine .inl (.inl ?_)
    rw [del_get e (fun z => by rw [z] at h; rw [h] at mu; exact mu)]
    exact h
  · refine .inl (.inr ⟨o, ?_⟩)
    rw [del_get e (fun z => by rw [z] at h; rw [h] at mu; exact mu)]
    exact h
  · exact .inr h
theorem noL_tuple {ds : List PyData} (h : noL (.tuple ds) = true) : noLs ds = true := by
  unfold noL at h
  exact h
theorem noL_list {ds : List PyData} (h : noL (.list ds) = true) : False := by
  unfold noL at h
  cases h
theorem noLs_cons {d : PyData} {ds : List PyData} (h : noLs (d :: ds) = true) : noL d = true ∧ noLs ds = true := by
  unfold noLs at h
  exact Bool.and_eq_true_iff.mp h
mutual
theorem dp_wr {K : PySem.W.Frag} {H H' : Hp} {p : Addr} (mu : Mut (H p)) (e : del H' p = del H p) : ∀ {v : V} {d : PyData}, Dp K H v d → noL d = true → Dp K H' v d
  | _, _, .non, _ => .non
  | _, _, .bl b, _ => .bl b
  | _, _, .int i, _ => .int i
  | _, _, .str x, _ => .str x
  | _, _, .lst h a, n => (noL_list n).elim
  | _, _, .tup h a, n => .tup (sqt_wr mu e h) (dpAll_wr mu e a (noL_tuple n))
theorem dpAll_wr {K : PySem.W.Frag} {H H' : Hp} {p : Addr} (mu : Mut (H p)) (e : del H' p = del H p) : ∀ {vs : List V} {ds : List PyData}, DpAll K H vs ds → noLs ds = true → DpAll K H' vs ds
  | _, _, .nil, _ => .nil
  | _, _, .cons h a, n => .cons (dp_wr mu e h (noLs_cons n).1) (dpAll_wr mu e a (noLs_cons n).2)
end
theorem noLs_iff {ds : List PyData} : noLs ds = true ↔ ∀ d ∈ ds, noL d = true := by
  induction ds with
  | nil => exact Iff.intro (fun _ d h => (List.not_mem_nil h).elim) (fun _ => by unfold noLs; rfl)
  | cons d ds ih =>
    have e : noLs (d :: ds) = (noL d && noLs ds) := by conv => lhs; unfold noLs
    rw [e, Bool.and_eq_true_iff, ih, List.forall_mem_cons]
theorem w_setL {p : Addr} {xs : List V} {k : Int} {j : Nat} {v : V} {H : Hp} {Q : Hp → Prop} (h : H p = some (.lst xs)) (hj : ixN xs.length k = some j) (q : ∀ H', H' p = some (.lst (xs.set j v)) → del H' p = del H p → Q H') : rSetL (.ref p) (.int k) v H Q :=
  ⟨p, xs, k, j, rfl, rfl, h, hj, q _ upd_same del_upd⟩
theorem cutV_to {xs : List V} {n : Nat} : cutV xs none (some (n : Int)) = xs.take n := by
  unfold cutV
  rw [HT.sIx_none, HT.sIx_nat, List.drop_zero, Nat.sub_zero, ← List.take_eq_take_min]
theorem cutV_from {xs : List V} {n : Nat} : cutV xs (some (n : Int)) none = xs.drop n := by
  unfold cutV
  rw [HT.sIx_none, HT.sIx_nat]
  by_cases h : n ≤ xs.length
  · rw [Nat.min_eq_left h, List.take_of_length_le (by rw [List.length_drop]; exact Nat.le_refl _)]
  · rw [Nat.min_eq_right (by omega), List.drop_length, List.drop_of_length_le (by omega), List.take_nil]
/-! ### the drawing of a law: the bag -/
def bagL (l : Addr) (i : Nat) (h s n : Int) : List V := [.ref l, .int i, .int h, .int s, .int n]
/-- a bag at b: its script's copy at l -/
def BagX (l : Addr) (ns : List Int) (H : Hp) (b : Addr) : Prop := ∃ (i : Nat) (h s n : Int), H b = some (.lst (bagL l i h s n)) ∧ H l = some (.lst (ns.map V.int)) ∧ l ≠ b ∧ i ≤ ns.length ∧ 0 ≤ s ∧ s < 2147483399
theorem BagX.at {l b : Addr} {ns : List Int} {H H' : Hp} (h : BagX l ns H b) (e1 : H' b = H b) (e2 : H' l = H l) : BagX l ns H' b := by
  obtain ⟨i, h, s, n, h1, h2, r⟩ := h
  exact ⟨i, h, s, n, e1.trans h1, e2.trans h2, r⟩
theorem BagX.same {l b : Addr} {ns : List Int} {H H' : Hp} (h : BagX l ns H b) (e : Same H H') : BagX l ns H' b := by
  obtain ⟨i, h, s, n, h1, h2, r⟩ := h
  exact ⟨i, h, s, n, e _ _ h1, e _ _ h2, r⟩
theorem BagX.ne {l b : Addr} {ns : List Int} {H : Hp} (h : BagX l ns H b) : l ≠ b := by
  obtain ⟨i, h, s, n, h1, h2, r, _⟩ := h
  exact r
theorem BagX.here {l b : Addr} {ns : List Int} {H : Hp} (h : BagX l ns H b) : ∃ o, H b = some o := by
  obtain ⟨i, h, s, n, h1, _⟩ := h
  exact ⟨_, h1⟩
theorem BagX.someL {l b : Addr} {ns : List Int} {H : Hp} (h : BagX l ns H b) : H l = some (.lst (ns.map V.int)) := by
  obtain ⟨i, h, s, n, _, h1, _⟩ := h
  exact h1
theorem BagX.delL {l b : Addr} {ns : List Int} {H : Hp} (h : BagX l ns H b) : del H b l = some (.lst (ns.map V.int)) := by
  rw [del_ne h.ne]; exact h.someL
/-- an object that does not stand is not the bag's -/
theorem BagX.neB {l b p : Addr} {ns : List Int} {H : Hp} (h : BagX l ns H b) (hp : H p = none) : p ≠ b ∧ p ≠ l :=
  let ⟨_, h1⟩ := h.here
  ⟨(ne_of_none h1 hp).symm, (ne_of_none h.someL hp).symm⟩
/-- another object was written -/
theorem BagX.wr {l b p : Addr} {ns : List Int} {H H' : Hp} (h : BagX l ns H b) (e : del H' p = del H p) (n1 : p ≠ b) (n2 : p ≠ l) : BagX l ns H' b := h.at (del_get e n1.symm) (del_get e n2.symm)
def sp_bag (K : PySem.W.Frag) : Sp := fun vs H Q _ => ∃ (a : Addr) (ns : List Int), vs = [.ref a] ∧ SqL K H a (ns.map V.int) ∧ ns.length ≤ 63 ∧
  ∀ b l H', Same H H' → H b = none → BagX l ns H' b → Q (.ref b) H'
/-- a draw: any number below top -/
def sp_pick : Sp := fun vs H Q _ => ∃ (b : Addr) (top : Int) (l : Addr) (ns : List Int), vs = [.ref b, .int top] ∧ BagX l ns H b ∧ 1 ≤ top ∧ top.natAbs.log2 < 9000 ∧
  ∀ (d : Int) H', 0 ≤ d → d < top → BagX l ns H' b → del H' b = del H b → Q (.int d) H'
theorem log_small {n : Int} (h : n.natAbs < 2 ^ 8000) : n.natAbs.log2 < 9000 := Nat.lt_of_lt_of_le (PySem.Flt.log2_lt_of (by decide) h) (by decide)
theorem log_le {n : Int} (h0 : 0 ≤ n) (h : n ≤ 10 ^ 30) : n.natAbs.log2 < 9000 := by
  refine log_small (Nat.lt_of_le_of_lt (show n.natAbs ≤ 10 ^ 30 by omega) ?_)
  exact Nat.lt_of_lt_of_le (show (10 : Nat) ^ 30 < 2 ^ 100 by decide) (Nat.pow_le_pow_right (by decide) (by decide))
theorem same_of_del {H H' : Hp} {b : Addr} (e : del H' b = del H b) : Same (del H b) (del H' b) := by rw [e]; exact Same.refl _
/-- a fresh object behind, with all but b as it was -/
theorem same_b_of {H H' : Hp} {b : Addr} (e : Same H H') : Same (del H b) (del H' b) := Same.del e b
theorem same_wr {H0 H H' : Hp} {b p : Addr} (e : Same (del H0 b) (del H b)) (hp : del H0 b p = none) (w : del H' p = del H p) : Same (del H0 b) (del H' b) := fun a o h => by
  have h1 := e a o h
  by_cases hb : a = b
  · rw [hb, del_same] at h1; cases h1
  · rw [del_ne hb] at h1 ⊢
    rw [del_get w (ne_of_none h hp)]
    exact h1
/-! ### rules of one's own -/
section
variable {X : Cx}
/-- list(text) -/
theorem call_list_text (hc : X.calm = true) : CallR X (.type "list") rListText := by
  intro pins s σ H xs us Q I r h
  obtain ⟨z, rfl, hz, q⟩ := h
  obtain ⟨u, rfl, rx⟩ := vals1 r
  obtain ⟨t, rfl⟩ := rx
  refine call_list_str (I.ok.hd hc) z t (fun h' tk acc' c' hk hS hacc => ?_) hz
  obtain ⟨h1, h2⟩ := hacc
  have hv : Vals (z.cps.toList.map fun c => V.str ⟨#[c]⟩) acc'.toList := by
    have aux : ∀ (l : List Nat) (m : List Value), l.length = m.length → (∀ (j : Nat) c v, l[j]? = some c → m[j]? = some v → ∃ u, v = Value.str ⟨#[c]⟩ u) → Vals (l.map fun c => V.str ⟨#[c]⟩) m := by
      intro l
      induction l with
      | nil => intro m hl _; cases m with | nil => exact .nil | cons _ _ => simp at hl
      | cons c l ih =>
        intro m hl hf
        cases m with
        | nil => simp at hl
        | cons v m =>
          exact .cons (hf 0 c v rfl rfl) (ih m (by simpa using hl) fun j c' v' e1 e2 => hf (j + 1) c' v' (by simpa using e1) (by simpa using e2))
    refine aux _ _ (by simp [h1]) fun j c v e1 e2 => ?_
    obtain ⟨c', u, e3, e4⟩ := h2 j v (by simpa using e2)
    have e5 : z.cps[j]? = some c := by simpa using e1
    rw [e3] at e5
    cases e5
    exact ⟨u, e4⟩
  exact ⟨.ref s.heap.objs.size, _, I.laid (t' := tk) hk (Nat.le_refl _) (show ObjOk X.prog X.w _ h' _ (.lst _) from ⟨by rw [List.length_map, Array.length_toList]; exact hz, acc'.toList, c', hv, by rw [hS]⟩), rfl, q _ (I.hok.fresh (Nat.le_refl _))⟩
end
section
variable {X : Cx}
theorem call_listOf : CallR X (.type "list") (rListOf X.K) := call_list_of
theorem call_lenS : CallR X (.builtin "len") (rLen X.K) := call_len_seq
theorem call_lenStr : CallR X (.builtin "len") rLenStr := call_len_str
theorem op_inSign : OpR X (compareOp .In) rInSign := op_in_sign
theorem op_notInSign : OpR X (compareOp .NotIn) rNotInSign := op_notIn_sign
end
/-- the signs of two texts, in new pairs -/
def ItzS (x y : Str) : It :=
  ⟨fun i _ => i < min x.cps.size y.cps.size, fun i H v H' => ∃ T c d, v = .ref T ∧ H T = none ∧ H' = upd H T (.tup [.str ⟨#[c]⟩, .str ⟨#[d]⟩]) ∧ x.cps[i]? = some c ∧ y.cps[i]? = some d, fun i _ => min x.cps.size y.cps.size ≤ i⟩
theorem turn_zipS {P : Program} {w : World} {K : PySem.W.Frag} {elts : List Expr} {kk : Nat} {tpos : Pos} (x y : Str) (t u : Tok) {z TI TO i1 i2 : Addr} (S : ZipSep2 z TI TO i1 i2 [i1] [i2]) :
    Turn P w K (.Tuple elts kk tpos) (ItzS x y) (z :: TI :: TO :: ([i1] ++ [i2])) z (fun i h => i ≤ min x.cps.size y.cps.size ∧ (IsZip h z TI TO .none ∧ IsTupOf2 h TI (.ref i1) (.ref i2) ∧ (∃ a1 a2, IsTupOf2 h TO a1 a2) ∧ h.IsStrIter i1 (strIterType x) x t i ∧ h.IsStrIter i2 (strIterType y) y u i)) where
  mem := by simp
  obj := fun i h st c hc => by
    obtain ⟨_, hz, hTI, ⟨x, y, hTO⟩, ⟨o1, e1, _, d1⟩, ⟨o2, e2, _, d2⟩⟩ := st
    have e' : c = z ∨ c = TI ∨ c = TO ∨ c = i1 ∨ c = i2 := by simpa using hc
    rcases e' with q | q | q | q | q
    · rw [q]; exact ⟨_, hz, fun v q => nomatch q⟩
    · rw [q]; exact ⟨_, hTI, fun v q => nomatch q⟩
    · rw [q]; exact ⟨_, hTO, fun v q => nomatch q⟩
    · rw [q]; exact ⟨o1, e1, fun v q => by rw [d1] at q; cases q⟩
    · rw [q]; exact ⟨o2, e2, fun v q => by rw [d2] at q; cases q⟩
  keep := fun i h h' st k => by
    obtain ⟨hi, hz, hTI, ⟨x, y, hTO⟩, ⟨o1, e1, r1⟩, ⟨o2, e2, r2⟩⟩ := st
    exact ⟨hi, k z (by simp) _ hz, k TI (by simp) _ hTI, ⟨x, y, k TO (by simp) _ hTO⟩, ⟨o1, k i1 (by simp) _ e1, r1⟩, ⟨o2, k i2 (by simp) _ e2, r2⟩⟩
  item := by
    intro X hP hw hK hc i pins s σ H E I hf st hg
    subst hP hw hK
    have hh : X.A.in1.handled = none := I.ok.hd hc
    have W := GoesN.zip2 (A := X.A) (elts := elts) (x1 := kk) (pos := tpos) S (Draws.text (prog := X.prog) (w := X.w) hh i1 x t) (Draws.text (prog := X.prog) (w := X.w) hh i2 y u)
    refine wpAny_mono (W.goes i s (fun v s2 => ∃ x1 H', Inv X pins σ H' s2 ∧ RelV x1 v ∧ (ItzS x y).yld i H x1 H' ∧ (i + 1 ≤ min x.cps.size y.cps.size ∧ (IsZip s2.heap z TI TO .none ∧ IsTupOf2 s2.heap TI (.ref i1) (.ref i2) ∧ (∃ a1 a2, IsTupOf2 s2.heap TO a1 a2) ∧ s2.heap.IsStrIter i1 (strIterType x) x t (i + 1) ∧ s2.heap.IsStrIter i2 (strIterType y) y u (i + 1))) ∧ ∀ b ∈ (z :: TI :: TO :: ([i1] ++ [i2])), H' b = none) E hg st.2 fun v h' tk hY st' hk htk => ?_) (fun r s1 q => ?_) fun _ _ q => q
    · obtain ⟨T, a, b, rfl, hT, ⟨c, u1, hc1, rfl⟩, ⟨d, u2, hd1, rfl⟩, hIT⟩ := hY
      have new : ObjOk X.prog X.w (upd H T (.tup [.str ⟨#[c]⟩, .str ⟨#[d]⟩])) h' T (.tup [.str ⟨#[c]⟩, .str ⟨#[d]⟩]) := by
        obtain ⟨o, ho, h2, h3⟩ := hIT
        exact ⟨by show 2 ≤ sizeLine; decide, [.str ⟨#[c]⟩ u1, .str ⟨#[d]⟩ u2], .cons ⟨u1, rfl⟩ (.cons ⟨u2, rfl⟩ .nil), o, ho, h2, h3⟩
      have sub : ∀ b ∈ [z, TO, i1, i2], FpOk X pins H b := fun b hb => hf b (by
        have e' : b = z ∨ b = TO ∨ b = i1 ∨ b = i2 := by simpa using hb
        rcases e' with q | q | q | q <;> simp [q])
      refine ⟨.ref T, _, I.turnedNew (t' := tk) (ch := [z, TO, i1, i2]) hk sub hT new, rfl, ⟨T, c, d, rfl, I.hok.fresh hT, rfl, hc1, hd1⟩, ⟨hg, st'⟩, fun b hb => ?_⟩
      have hb2 : b ≠ T := by
        rintro rfl
        obtain ⟨o, ho, _⟩ := (show ∃ o, s.heap.get? b = some o ∧ True from by
          obtain ⟨_, hz, hTI, ⟨x, y, hTO⟩, ⟨o1, e1, _, d1⟩, ⟨o2, e2, _, d2⟩⟩ := st
          have e' : b = z ∨ b = TI ∨ b = TO ∨ b = i1 ∨ b = i2 := by simpa using hb
          rcases e' with q | q | q | q | q
          · rw [q]; exact ⟨_, hz, trivial⟩
          · rw [q]; exact ⟨_, hTI, trivial⟩
          · rw [q]; exact ⟨_, hTO, trivial⟩
          · rw [q]; exact ⟨o1, e1, trivial⟩
          · rw [q]; exact ⟨o2, e2, trivial⟩)
        exact absurd (Nat.lt_of_lt_of_le (Heap.lt_size ho) hT) (Nat.lt_irrefl _)
      rw [upd_ne hb2]
      exact (hf b hb).1
    · exact q
  done := by
    intro X hP hw hK hc i pins s σ H E I hf st hg
    subst hP hw hK
    have hh : X.A.in1.handled = none := I.ok.hd hc
    have hi : i = min x.cps.size y.cps.size := Nat.le_antisymm st.1 hg
    have W := GoesN.zip2 (A := X.A) (elts := elts) (x1 := kk) (pos := tpos) S (Draws.text (prog := X.prog) (w := X.w) hh i1 x t) (Draws.text (prog := X.prog) (w := X.w) hh i2 y u)
    refine W.stops s (fun s1 => Inv X pins σ H s1) E (by rw [← hi]; exact st.2) fun h' tk hk htk => ?_
    exact I.turnedL (t' := tk) (ch := [z, TO, i1, i2]) hk fun b hb => hf b (by
        have e' : b = z ∨ b = TO ∨ b = i1 ∨ b = i2 := by simpa using hb
        rcases e' with q | q | q | q <;> simp [q])
  self := fun A i s Q E st h => wpAny_pyIter_zip st.2.1 h
def iZipS (ta : TA) : TI := fun σ H R => ta σ H fun vs H1 => ∃ x y : Str, vs = [.str x, .str y] ∧ R (ItzS x y) H1
theorem pi_zipS {X : Cx} {e e2 : Expr} {ta : TA} {p pos tpos : Pos} {elts : List Expr} {kk : Nat} (hg : Gl X "zip") (hm : X.mg "zip" = none) (ha : PA X [e, e2] ta)
    (hs : starEach [e, e2] X.env = (false, eval e X.env) :: starEach [e2] X.env := by rfl) (hpl : (backTo pos (starEach [e2] X.env)).any (·.1) = false := by rfl) :
    PI X (.Tuple elts kk tpos) (.Call (.Name "zip" p) [e, e2] [] pos) (iZipS ta) := by
  refine ⟨fun pins s σ H R I h => ?_⟩
  refine Call_ (ld_blt I hg hm PyProof.Rows.boot_zip (PyProof.Rows.callWith_type1 (thn (ha.run pos pins s σ H _ I h) fun us s1 ⟨vs, H1, I1, r1, q1⟩ => ?_) hs hpl))
  obtain ⟨x, y, ex, q⟩ := q1
  subst ex
  cases r1 with
  | cons r rr =>
    cases rr with
    | cons r' rr =>
      cases rr
      obtain ⟨t, rfl⟩ := r
      obtain ⟨u, rfl⟩ := r'
      refine zip_begins2 (begins_text x t) (begins_text y u) trivial trivial fun h' hz hTI hTO h1 h2 hsz hk => wpAny_pyIter_zip hz ?_
      have I2 : Inv X pins σ H1 { s1 with heap := h' } := I1.kept (t' := s1.toks) hk
      refine ⟨s1.heap.objs.size + 4, (s1.heap.objs.size + 4) :: (s1.heap.objs.size + 2) :: (s1.heap.objs.size + 3) :: ([s1.heap.objs.size] ++ [s1.heap.objs.size + 1]), _, _, H1, rfl, I2, turn_zipS x y t u (zip_sep2 (fp1 := []) (fp2 := []) (by simp) (by simp)), ⟨Nat.zero_le _, hz, hTI, ⟨_, _, hTO⟩, ⟨_, h1, rfl, rfl⟩, ⟨_, h2, rfl, rfl⟩⟩, fun c hcm => ?_, q⟩
      have e' : c = s1.heap.objs.size + 4 ∨ c = s1.heap.objs.size + 2 ∨ c = s1.heap.objs.size + 3 ∨ c = s1.heap.objs.size ∨ c = s1.heap.objs.size + 1 := by simpa using hcm
      have hle : s1.heap.objs.size ≤ c := by
        rcases e' with z | z | z | z | z
        · rw [z]; exact Nat.le_add_right _ _
        · rw [z]; exact Nat.le_add_right _ _
        · rw [z]; exact Nat.le_add_right _ _
        · rw [z]; exact Nat.le_refl _
        · rw [z]; exact Nat.le_add_right _ _
      exact I1.fpOk hle (I1.hok.fresh hle)
theorem walk_zipS {x y : Str} : Walk (ItzS x y) (min x.cps.size y.cps.size) (fun _ => True) (YPair (fun i => (x.cps[i]?).map fun c => V.str ⟨#[c]⟩) (fun i => (y.cps[i]?).map fun c => V.str ⟨#[c]⟩)) :=
  ⟨fun _ _ hi _ => hi, fun _ _ => Nat.le_refl _, fun i H v H' _ _ yl => by
    obtain ⟨T, c, d, h1, h2, h3, h4, h5⟩ := yl
    exact ⟨T, _, _, h1, h2, h3, by dsimp only; rw [h4]; rfl, by dsimp only; rw [h5]; rfl⟩⟩
/-! ### loops and comprehensions -/
section
variable {J : It} {n : Nat} {G : Hp → Prop} {Y : Nat → Hp → V → Hp → Prop} {σ : L2.St} {H H1 : Hp} {g : TG} {tb : TS} {te : TE} {tt : TT} {wi : TI} {vs : List Nat} {D : Ends} {Q : VK} {K : PySem.W.Frag}
def forGoal (J : It) (g : TG) (tb : TS) (D : Ends) (σ : L2.St) (H1 : Hp) : Prop := ∃ W : Nat → Nat → L2.St → Hp → Prop, (∃ m, W 0 m σ H1) ∧ ∀ i m σ H, W i m σ H →
  (J.stop i H ∧ D.nx σ H) ∨ (J.go i H ∧ ∃ N : L2.St → Hp → Prop, (∀ σ' H', N σ' H' → ∃ m', m' < m ∧ W (i + 1) m' σ' H') ∧ ∀ x H', J.yld i H x H' → g x σ H' fun σ2 H2 => tb { D with nx := N, ct := N, bk := D.nx } σ2 H2)
theorem w_for (h : wi σ H fun J H1 => forGoal J g tb D σ H1) : tFor wi g tb D σ H := h
theorem for_inv (w : Walk J n G Y) (Pv : Nat → L2.St → Hp → Prop) (h0 : Pv 0 σ H) (hG : ∀ i σ H, i ≤ n → Pv i σ H → G H)
    (hs : ∀ i x σ H H', i < n → Pv i σ H → Y i H x H' → g x σ H' fun σ2 H2 => tb { D with nx := Pv (i + 1), ct := Pv (i + 1), bk := D.nx } σ2 H2) (hd : ∀ σ H, Pv n σ H → D.nx σ H) : forGoal J g tb D σ H :=
  for_it w Pv h0 hG hs hd
def lcGoal (J : It) (g : TG) (tt : TT) (te : TE) (vs : List Nat) (σ : L2.St) (H1 : Hp) (Q : VK) : Prop := ∀ D, H1 D = none → ∃ W : Nat → Nat → Hp → Prop, (∃ m, W 0 m (upd H1 D (.lst []))) ∧ ∀ i m H, W i m H →
  (J.stop i H ∧ Q (.ref D) H) ∨ (J.go i H ∧ ∃ Nx : Hp → Prop, (∀ H', Nx H' → ∃ m', m' < m ∧ W (i + 1) m' H') ∧ ∀ x H', J.yld i H x H' → g x (wipe σ vs) H' fun σ2 H2 => wipe σ2 vs = wipe σ vs ∧ tt σ2 H2 fun b H3 =>
    if b = true then te σ2 H3 fun y H4 => ∃ acc, H4 D = some (.lst acc) ∧ acc.length < sizeLine ∧ Nx (upd H4 D (.lst (acc ++ [y]))) else Nx H3)
theorem w_lc (h : wi σ H fun J H1 => lcGoal J g tt te vs σ H1 Q) : tLc wi g tt te vs σ H Q := h
theorem w_iStr {R : It → Hp → Prop} {tz : TE} (h : tz σ H fun v H1 => ∃ x, v = .str x ∧ R (Its x) H1) : iStr tz σ H R := h
theorem w_iList {R : It → Hp → Prop} {tl : TE} (h : tl σ H fun x H1 => ∃ a, x = .ref a ∧ (∃ xs, SqL K H1 a xs) ∧ R (Itl K a) H1) : iList K tl σ H R := h
theorem w_iListR {a : Addr} {xs : List V} {R : Addr → Prop} (h : SqL K H a xs) (q : R a) : ∃ b, V.ref a = .ref b ∧ (∃ xs, SqL K H b xs) ∧ R b := ⟨a, rfl, ⟨xs, h⟩, q⟩
theorem w_iStrR {z : Str} {R : Str → Prop} (q : R z) : ∃ x, V.str z = .str x ∧ R x := ⟨z, rfl, q⟩
theorem w_iZipS {ta : TA} {R : It → Hp → Prop} (h : ta σ H fun vs H1 => ∃ x y : Str, vs = [.str x, .str y] ∧ R (ItzS x y) H1) : iZipS ta σ H R := h
/-- pure elements: the i-th is the i-th of ys -/
theorem lc_map {ys : List V} (w : Walk J n G Y) (hl : ys.length = n) (hn : n ≤ sizeLine) (hG : ∀ H', Same H H' → G H') (hY : ∀ i H x H', Y i H x H' → Same H H')
    (hs : ∀ i x H1 H2 (N : VK), i < n → Same H H1 → Y i H1 x H2 → (∀ y H3, ys[i]? = some y → Same H2 H3 → N y H3) → g x (wipe σ vs) H2 fun σ2 H3 => wipe σ2 vs = wipe σ vs ∧ te σ2 H3 N)
    (hd : ∀ D H', H D = none → Same H H' → H' D = some (.lst ys) → Q (.ref D) H') : lcGoal J g tYes te vs σ H Q := by
  intro D hDn
  refine lc_it w (fun i H' => H' D = some (.lst (ys.take i)) ∧ Same H H') ⟨upd_same, same_new hDn⟩ (fun i H' hi p => hG _ p.2) ?_ (fun H' p => hd D H' hDn p.2 (by rw [p.1, ← hl, List.take_length]))
  rintro i x H1 H2 hi ⟨e, sm⟩ y
  refine hs i x H1 H2 _ hi sm y fun v H3 hv s3 => ⟨_, s3 _ _ (hY _ _ _ _ y _ _ e), by rw [List.length_take]; omega, ?_, ?_⟩
  · rw [upd_same, List.take_add_one, hv]
    rfl
  · exact Same.mut ((sm.trans (hY _ _ _ _ y)).trans s3) hDn
/-- .. with a test -/
theorem lc_filter {ys : List (Option V)} (w : Walk J n G Y) (hl : ys.length = n) (hn : n ≤ sizeLine) (hG : ∀ H', Same H H' → G H') (hY : ∀ i H x H', Y i H x H' → Same H H')
    (hs : ∀ i x H1 H2 (N : VK) (Nf : Hp → Prop), i < n → Same H H1 → Y i H1 x H2 → (∀ y H3, ys[i]? = some (some y) → Same H2 H3 → N y H3) → (∀ H3, ys[i]? = some none → Same H2 H3 → Nf H3) →
      g x (wipe σ vs) H2 fun σ2 H3 => wipe σ2 vs = wipe σ vs ∧ tt σ2 H3 fun b H4 => if b = true then te σ2 H4 N else Nf H4)
    (hd : ∀ D H', H D = none → Same H H' → H' D = some (.lst (ys.filterMap id)) → Q (.ref D) H') : lcGoal J g tt te vs σ H Q := by
  intro D hDn
  refine lc_it w (fun i H' => H' D = some (.lst ((ys.take i).filterMap id)) ∧ Same H H') ⟨upd_same, same_new hDn⟩ (fun i H' hi p => hG _ p.2) ?_ (fun H' p => hd D H' hDn p.2 (by rw [p.1, ← hl, List.take_length]))
  rintro i x H1 H2 hi ⟨e, sm⟩ y
  have sm2 := sm.trans (hY _ _ _ _ y)
  refine hs i x H1 H2 _ _ hi sm y (fun v H3 hv s3 => ⟨_, s3 _ _ (hY _ _ _ _ y _ _ e), ?_, ?_, ?_⟩) fun H3 hv s3 => ⟨?_, sm2.trans s3⟩
  · have := List.length_filterMap_le id (ys.take i)
    rw [List.length_take] at this
    omega
  · rw [upd_same, List.take_add_one, hv, List.filterMap_append]
    rfl
  · exact Same.mut (sm2.trans s3) hDn
  · rw [s3 _ _ (hY _ _ _ _ y _ _ e), List.take_add_one, hv, List.filterMap_append]
    simp
theorem yat_same {xs : List V} : ∀ i H x H', YAt xs i H x H' → Same H H' := fun _ _ _ _ y => by rw [y.1]; exact Same.refl _
theorem ypair_same {f g : Nat → Option V} : ∀ i H x H', YPair f g i H x H' → Same H H' := fun _ _ _ _ ⟨T, _, _, _, hT, e, _⟩ => by rw [e]; exact same_new hT
theorem yfn_same {f : Nat → V} : ∀ i H x H', YFn f i H x H' → Same H H' := fun _ _ _ _ y => by rw [y.1]; exact Same.refl _
theorem ystr_same {z : Str} : ∀ i H v H', (fun (i : Nat) (H : Hp) (v : V) (H' : Hp) => H' = H ∧ ∃ c, z.cps[i]? = some c ∧ v = .str ⟨#[c]⟩) i H v H' → Same H H' := fun _ _ _ _ y => by rw [y.1]; exact Same.refl _
theorem w_gTup {a : Addr} {xs : List V} {n : Nat} {t : TGs} {Q : L2.St → Hp → Prop} (h : SqT K H a xs) (hl : xs.length = n) (q : t xs σ H Q) : gTup K n t (.ref a) σ H Q := ⟨a, xs, rfl, h, hl, q⟩
theorem w_gCons {t : TG} {u : TGs} {v : V} {r : List V} {Q : L2.St → Hp → Prop} (q : t v σ H fun σ' H' => u r σ' H' Q) : gCons t u (v :: r) σ H Q := ⟨v, r, rfl, q⟩
theorem w_gNil {Q : L2.St → Hp → Prop} (q : Q σ H) : gNil [] σ H Q := ⟨rfl, q⟩
end
/-! ### data -/
section
variable {K : PySem.W.Frag} {H : Hp}
theorem Dp.tupI {v : V} {ds : List PyData} (h : Dp K H v (.tuple ds)) : ∃ a xs, v = .ref a ∧ SqT K H a xs ∧ DpAll K H xs ds := by
  cases h with
  | tup h1 h2 => exact ⟨_, _, rfl, h1, h2⟩
theorem Dp.lstI {v : V} {ds : List PyData} (h : Dp K H v (.list ds)) : ∃ a xs, v = .ref a ∧ SqL K H a xs ∧ DpAll K H xs ds := by
  cases h with
  | lst h1 h2 => exact ⟨_, _, rfl, h1, h2⟩
theorem Dp.intI {v : V} {i : Int} (h : Dp K H v (.int i)) : v = .int i := by cases h; rfl
theorem Dp.strI {v : V} {x : Str} (h : Dp K H v (.str x)) : v = .str x := by cases h; rfl
theorem Dp.blI {v : V} {b : Bool} (h : Dp K H v (.bool b)) : v = .bl b := by cases h; rfl
theorem Dp.nonI {v : V} (h : Dp K H v .none) : v = .non := by cases h; rfl
theorem DpAll.len : ∀ {xs : List V} {ds : List PyData}, DpAll K H xs ds → xs.length = ds.length
  | _, _, .nil => rfl
  | _, _, .cons _ t => congrArg Nat.succ (DpAll.len t)
theorem DpAll.get : ∀ {xs : List V} {ds : List PyData} {i : Nat} {x : V}, DpAll K H xs ds → xs[i]? = some x → ∃ d, ds[i]? = some d ∧ Dp K H x d
  | _, _, _, _, .nil, e => by simp at e
  | _, _, 0, _, .cons h _, e => by simp at e; subst e; exact ⟨_, rfl, h⟩
  | _, _, i + 1, x, .cons _ t, e => by
    obtain ⟨d, h1, h2⟩ := DpAll.get (i := i) (x := x) t (by simpa using e)
    exact ⟨d, by simpa using h1, h2⟩
theorem DpAll.get' : ∀ {xs : List V} {ds : List PyData} {i : Nat} {d : PyData}, DpAll K H xs ds → ds[i]? = some d → ∃ x, xs[i]? = some x ∧ Dp K H x d
  | _, _, _, _, .nil, e => by simp at e
  | _, _, 0, _, .cons h _, e => by simp at e; subst e; exact ⟨_, rfl, h⟩
  | _, _, i + 1, x, .cons _ t, e => by
    obtain ⟨d, h1, h2⟩ := DpAll.get' (i := i) (d := x) t (by simpa using e)
    exact ⟨d, by simpa using h1, h2⟩
theorem DpAll.append : ∀ {xs ys : List V} {ds es : List PyData}, DpAll K H xs ds → DpAll K H ys es → DpAll K H (xs ++ ys) (ds ++ es)
  | _, _, _, _, .nil, s => s
  | _, _, _, _, .cons r t, s => .cons r (DpAll.append t s)
theorem DpAll.take : ∀ {xs : List V} {ds : List PyData} (n : Nat), DpAll K H xs ds → DpAll K H (xs.take n) (ds.take n)
  | _, _, 0, _ => .nil
  | _, _, _ + 1, .nil => .nil
  | _, _, n + 1, .cons r t => .cons r (DpAll.take n t)
theorem DpAll.drop : ∀ {xs : List V} {ds : List PyData} (n : Nat), DpAll K H xs ds → DpAll K H (xs.drop n) (ds.drop n)
  | _, _, 0, r => r
  | _, _, _ + 1, .nil => .nil
  | _, _, n + 1, .cons _ t => DpAll.drop n t
theorem DpAll.ints : ∀ (ns : List Int), DpAll K H (ns.map V.int) (ns.map PyData.int)
  | [] => .nil
  | n :: ns => .cons (.int n) (DpAll.ints ns)
end
/-- the type of a datum -/
def tyD : PyData → String
  | .none => "NoneType" | .bool _ => "bool" | .int _ => "int" | .str _ => "str" | .list _ => "list" | .tuple _ => "tuple" | .dict _ => "dict"
theorem Dp.ty {K : PySem.W.Frag} {H : Hp} {v : V} {d : PyData} (h : Dp K H v d) : TyX K H v (.type (tyD d)) := by
  cases h with
  | non => exact .base .non
  | bl b => exact .base (.bl b)
  | int i => exact .base (.int i)
  | str x => exact .base (.str x)
  | lst h _ =>
    rcases h with (h | ⟨o, h⟩) | ⟨o, its, n, h1, h2, _⟩
    · exact .base (.lst h)
    · exact .base (.frz h)
    · exact .kList h1 h2
  | tup h _ =>
    rcases h with (h | ⟨o, h⟩) | ⟨o, its, n, h1, h2, _⟩
    · exact .base (.tup h)
    · exact .fTuple h
    · exact .kTuple h1 h2
/-- isinstance(d, T) -/
def isT (a T : String) : Bool := a == T || (a == "bool" && T == "int")
def isD (T : String) (d : PyData) : Bool := isT (tyD d) T
theorem kit_all : ∀ a ∈ ["NoneType", "bool", "int", "str", "list", "tuple", "dict"], ∀ T ∈ ["int", "bool", "str", "tuple", "list"], kitB a T = some (isT a T) := by decide +kernel
theorem tyD_mem (d : PyData) : tyD d ∈ ["NoneType", "bool", "int", "str", "list", "tuple", "dict"] := by cases d <;> simp [tyD]
theorem kit_isD {K : PySem.W.Frag} {T : String} (hT : T ∈ ["int", "bool", "str", "tuple", "list"]) (d : PyData) : PySem.W.kitOne K (.type (tyD d)) (.type T) = some (isD T d) := kit_ty (kit_all _ (tyD_mem d) _ hT)
theorem w_isi {K : PySem.W.Frag} {H : Hp} {v : V} {d : PyData} {T : String} {Q : VK} (h : Dp K H v d) (hT : T ∈ ["int", "bool", "str", "tuple", "list"]) (q : Q (.bl (isD T d)) H) : rIsi K [v, .ty T] H Q :=
  ⟨v, .ty T, _, _, _, rfl, .ty T, Dp.ty h, kit_isD hT d, q⟩
def isIntD : PyData → Bool | .int _ => true | .bool _ => true | _ => false
def isBoolD : PyData → Bool | .bool _ => true | _ => false
def isStrD : PyData → Bool | .str _ => true | _ => false
def isTupD : PyData → Bool | .tuple _ => true | _ => false
def isListD : PyData → Bool | .list _ => true | _ => false
theorem isInt_eq (d : PyData) : isD "int" d = isIntD d := by cases d <;> rfl
theorem isBool_eq (d : PyData) : isD "bool" d = isBoolD d := by cases d <;> rfl
theorem isStr_eq (d : PyData) : isD "str" d = isStrD d := by cases d <;> rfl
theorem isTup_eq (d : PyData) : isD "tuple" d = isTupD d := by cases d <;> rfl
theorem isList_eq (d : PyData) : isD "list" d = isListD d := by cases d <;> rfl
section
variable {K : PySem.W.Frag} {H : Hp} {v : V} {d : PyData} {Q : VK} {σ : L2.St}
theorem w_isiInt (h : Dp K H v d) (q : Q (.bl (isIntD d)) H) : rIsi K [v, .ty "int"] H Q := w_isi h (by decide) (by rw [isInt_eq]; exact q)
theorem w_isiBool (h : Dp K H v d) (q : Q (.bl (isBoolD d)) H) : rIsi K [v, .ty "bool"] H Q := w_isi h (by decide) (by rw [isBool_eq]; exact q)
theorem w_isiStr (h : Dp K H v d) (q : Q (.bl (isStrD d)) H) : rIsi K [v, .ty "str"] H Q := w_isi h (by decide) (by rw [isStr_eq]; exact q)
theorem w_isiTup (h : Dp K H v d) (q : Q (.bl (isTupD d)) H) : rIsi K [v, .ty "tuple"] H Q := w_isi h (by decide) (by rw [isTup_eq]; exact q)
theorem w_isiList (h : Dp K H v d) (q : Q (.bl (isListD d)) H) : rIsi K [v, .ty "list"] H Q := w_isi h (by decide) (by rw [isList_eq]; exact q)
theorem w_isiT2 {t1 t2 : String} (h : Dp K H v d) (h1 : t1 ∈ ["int", "bool", "str", "tuple", "list"]) (h2 : t2 ∈ ["int", "bool", "str", "tuple", "list"]) (q : ∀ H', Same H H' → Q (.bl (isD t1 d || isD t2 d)) H') :
    tCons (tTup (tCons (tC (.ty t1)) (tCons (tC (.ty t2)) tNil))) tNil σ H (fun xs H2 => rIsiT K (v :: xs) H2 Q) := by
  refine ⟨by show 2 ≤ sizeLine; decide, fun p hp => ?_⟩
  have s := same_new (o := .tup [V.ty t1, V.ty t2]) hp
  refine ⟨v, p, [.ty t1, .ty t2], _, [.type t1, .type t2], _, rfl, upd_same, .cons (.ty t1) (.cons (.ty t2) .nil), Dp.ty (Same.dp s h), ?_, q _ s⟩
  refine kitAny_cons (kit_isD h1 d) (fun e => ?_) fun e => by rw [e, Bool.true_or]
  rw [e, Bool.false_or]
  refine kitAny_cons (kit_isD h2 d) (fun e2 => ?_) fun e2 => e2
  rw [e2]
  exact kitAny_nil
theorem w_isiIntStr (h : Dp K H v d) (q : ∀ H', Same H H' → Q (.bl (isIntD d || isStrD d)) H') : newT [.ty "int", .ty "str"] H (fun x H1 => tNil σ H1 fun xs H2 => rIsiT K (v :: x :: xs) H2 Q) :=
  w_isiT2 h (by decide) (by decide) fun H' s => by rw [isInt_eq, isStr_eq]; exact q H' s
theorem w_isiListTup (h : Dp K H v d) (q : ∀ H', Same H H' → Q (.bl (isListD d || isTupD d)) H') : newT [.ty "list", .ty "tuple"] H (fun x H1 => tNil σ H1 fun xs H2 => rIsiT K (v :: x :: xs) H2 Q) :=
  w_isiT2 h (by decide) (by decide) fun H' s => by rw [isList_eq, isTup_eq]; exact q H' s
end
theorem perm_erase {α : Type} : ∀ {l : List α} {j : Nat} (h : j < l.length), (l[j] :: l.eraseIdx j).Perm l
  | a :: l, 0, _ => List.Perm.refl _
  | a :: l, j + 1, h => by
    have ih := perm_erase (l := l) (j := j) (by simpa using h)
    exact (List.Perm.swap _ _ _).trans (ih.cons a)
def rIsN0 : R2 := fun x y H Q => y = .non ∧ Q (.bl (decide (x = .non))) H
def rNotN0 : R2 := fun x y H Q => y = .non ∧ Q (.bl (!decide (x = .non))) H
theorem op_isN0 {X : Cx} : OpR X (compareOp .Is) rIsN0 := op_isN
theorem op_notN0 {X : Cx} : OpR X (compareOp .IsNot) rNotN0 := op_notN
section
variable {H : Hp} {Q : VK} {x : V} {a : Addr} {i : Int} {b : Bool} {z : Str}
theorem w_isN (q : Q (.bl (decide (x = .non))) H) : rIsN0 x .non H Q := ⟨rfl, q⟩
theorem w_isN_non (q : Q (.bl true) H) : rIsN0 .non .non H Q := ⟨rfl, q⟩
theorem w_isN_int (q : Q (.bl false) H) : rIsN0 (.int i) .non H Q := ⟨rfl, q⟩
theorem w_isN_str (q : Q (.bl false) H) : rIsN0 (.str z) .non H Q := ⟨rfl, q⟩
theorem w_isN_bl (q : Q (.bl false) H) : rIsN0 (.bl b) .non H Q := ⟨rfl, q⟩
theorem w_isN_ref (q : Q (.bl false) H) : rIsN0 (.ref a) .non H Q := ⟨rfl, q⟩
theorem w_notN_non (q : Q (.bl false) H) : rNotN0 .non .non H Q := ⟨rfl, q⟩
theorem w_notN_int (q : Q (.bl true) H) : rNotN0 (.int i) .non H Q := ⟨rfl, q⟩
theorem w_notN_str (q : Q (.bl true) H) : rNotN0 (.str z) .non H Q := ⟨rfl, q⟩
theorem w_notN_bl (q : Q (.bl true) H) : rNotN0 (.bl b) .non H Q := ⟨rfl, q⟩
theorem w_notN_ref (q : Q (.bl true) H) : rNotN0 (.ref a) .non H Q := ⟨rfl, q⟩
/-- == of alike scalars -/
theorem w_EqSame (hs : scal x x = true) (q : Q (.bl true) H) : rEq x x H Q := ⟨hs, by rw [decide_eq_true (rfl : x = x)]; exact q⟩
theorem w_NeSame (hs : scal x x = true) (q : Q (.bl false) H) : rNe x x H Q := ⟨hs, by rw [decide_eq_true (rfl : x = x)]; exact q⟩
end
/-! ### more named rules -/
/-- a thing of places: a list, a tuple, a text by its signs -/
def IsSeq (K : PySem.W.Frag) (H : Hp) (s : V) (xs : List V) : Prop := (∃ a, s = .ref a ∧ SqL K H a xs) ∨ (∃ a, s = .ref a ∧ SqT K H a xs) ∨ ∃ z : Str, s = .str z ∧ z.length ≤ sizeLine ∧ xs = z.cps.toList.map fun c => V.str ⟨#[c]⟩
theorem IsSeq.same {K : PySem.W.Frag} {H H' : Hp} {s : V} {xs : List V} (h : IsSeq K H s xs) (e : Same H H') : IsSeq K H' s xs := by
  rcases h with ⟨a, h1, h2⟩ | ⟨a, h1, h2⟩ | h
  · exact .inl ⟨a, h1, e.seq h2⟩
  · exact .inr (.inl ⟨a, h1, Same.tup e h2⟩)
  · exact .inr (.inr h)
def rLenA (K : PySem.W.Frag) : List V → Hp → VK → Prop := fun xs H Q => rLen K xs H Q ∨ rLenStr xs H Q
theorem call_lenA {X : Cx} : CallR X (.builtin "len") (rLenA X.K) := call_lenS.or call_lenStr
section
variable {K : PySem.W.Frag} {σ : L2.St} {H : Hp} {Q : VK} {s v y : V} {xs : List V} {to te ta : TE}
theorem w_lenA (h : IsSeq K H s xs) (q : Q (.int xs.length) H) : rLenA K [s] H Q := by
  rcases h with ⟨a, rfl, h2⟩ | ⟨a, rfl, h2⟩ | ⟨z, rfl, hz, rfl⟩
  · exact .inl (w_len h2 q)
  · exact .inl (w_lenT h2 q)
  · refine .inr (w_lenStr hz ?_)
    rw [List.length_map, Array.length_toList] at q
    exact q
theorem w_ixA {j : Nat} (h : IsSeq K H s xs) (hj : xs[j]? = some v) (q : Q v H) : rIx K s (.int (j : Int)) H Q := by
  rcases h with ⟨a, rfl, h2⟩ | ⟨a, rfl, h2⟩ | ⟨z, rfl, hz, rfl⟩
  · exact .inl (w_ixL h2 (atI_nat hj) q)
  · exact .inr (.inl (w_ixT h2 (atI_nat hj) q))
  · rw [List.getElem?_map] at hj
    cases e : z.cps.toList[j]? with
    | none => rw [e] at hj; cases hj
    | some c =>
      rw [e] at hj
      cases hj
      exact .inr (.inr ⟨z, _, c, rfl, rfl, hz, atI_nat e, q⟩)
theorem w_M1 {r : V → List V → Hp → VK → Prop} (h : to σ H fun x H1 => (∃ a, x = .str a) ∧ te σ H1 fun y H2 => r x [y] H2 Q) : tM1 r to te σ H Q := h
theorem w_strAnd {z : Str} {B : Prop} (h : B) : (∃ a, V.str z = .str a) ∧ B := ⟨⟨z, rfl⟩, h⟩
def rJoin (K : PySem.W.Frag) : V → List V → Hp → VK → Prop := fun x xs H Q => ∃ a p, ∃ ys : List Str, x = .str a ∧ xs = [.ref p] ∧ (SqL K H p (ys.map V.str) ∨ SqT K H p (ys.map V.str)) ∧
      (ys.map (·.length)).sum + ys.length * a.length ≤ 16777216 ∧ Q (.str (Txt.join a ys)) H
theorem w_join {a : Str} {p : Addr} {ys : List Str} (h : SqL K H p (ys.map V.str)) (hz : (ys.map (·.length)).sum + ys.length * a.length ≤ 16777216) (q : Q (.str (Txt.join a ys)) H) : rJoin K (.str a) [.ref p] H Q := ⟨a, p, ys, rfl, rfl, .inl h, hz, q⟩
theorem w_sortedS {a : Addr} {xs : List Str} (h : SqL K H a (xs.map V.str)) (hl : xs.length < 64) (q : ∀ ys p H', ys.Perm xs → sortedS ys = true → H p = none → Same H H' → H' p = some (.lst (ys.map V.str)) → Q (.ref p) H') : rSortedS K [.ref a] H Q :=
  ⟨a, xs, rfl, h, hl, fun ys p h1 h2 hp => q ys p _ h1 h2 hp (same_new hp) upd_same⟩
theorem w_sortedI {a : Addr} {ns : List Int} (h : SqL K H a (ns.map V.int)) (q : ∀ (ns' : List Int) p H', ns'.Perm ns → ns'.Pairwise (· ≤ ·) → H p = none → Same H H' → H' p = some (.lst (ns'.map V.int)) → Q (.ref p) H') : rSortedI K [.ref a] H Q :=
  ⟨a, ns, rfl, h, fun ys p h1 h2 hp => q ys p _ h1 h2 hp (same_new hp) upd_same⟩
theorem w_lstRg {tr : L2.St → Hp → (Int → Int → Hp → Prop) → Prop} (h : tr σ H fun a b H1 => RgOk a b ∧ newO (.lst (rgV a b)) H1 Q) : tLstRg tr σ H Q := h
theorem w_rg1 {R : Int → Int → Hp → Prop} (h : ta σ H fun x H1 => ∃ n, x = .int n ∧ R 0 n H1) : tRg1 ta σ H R := h
theorem w_rgNew {a b : Int} (c : RgOk a b) (q : ∀ p H', H p = none → Same H H' → H' p = some (.lst (rgV a b)) → Q (.ref p) H') : RgOk a b ∧ newO (.lst (rgV a b)) H Q := ⟨c, w_newO q⟩
theorem w_iRng1 {tr : TA} {R : It → Hp → Prop} (h : tr σ H fun vs H1 => ∃ j : Int, vs = [.int j] ∧ -(2 ^ 62) ≤ j ∧ j < 2 ^ 62 ∧ R (Itr 0 j.toNat) H1) : iRng1 tr σ H R := h
theorem w_iRngR {j : Int} {R : Int → Prop} (h0 : -(2 ^ 62) ≤ j) (h1 : j < 2 ^ 62) (q : R j) : ∃ k : Int, [V.int j] = [.int k] ∧ -(2 ^ 62) ≤ k ∧ k < 2 ^ 62 ∧ R k := ⟨j, rfl, h0, h1, q⟩
theorem w_tyL {l : Addr} {B : Prop} (h : SqL K H l xs) (q : B) : tyV K "list" (.ref l) H ∧ B := by
  refine ⟨?_, q⟩
  rcases h with h | ⟨o, its, n, h1, h2, _⟩
  · exact .inl ⟨rfl, _, .inl h⟩
  · exact .inl ⟨rfl, xs, .inr ⟨o, its, n, h1, h2, ‹_›⟩⟩
theorem w_popAt {l : Addr} {k : Nat} (h : H l = some (.lst xs)) (hz : xs.length ≤ 100000) (hy : xs[k]? = some y) (q : ∀ H', H' l = some (.lst (xs.eraseIdx k)) → del H' l = del H l → Q y H') : rPopAt (.ref l) [.int (k : Int)] H Q := by
  have hk := (List.getElem?_eq_some_iff.mp hy).1
  refine ⟨l, xs, k, k, y, rfl, rfl, h, by omega, by omega, ?_, hy, q _ upd_same del_upd⟩
  unfold seqIndex?
  simp only [show ¬ ((k : Int) < 0) by omega, if_false]
  rw [if_pos (by simp; omega)]
  simp
theorem w_append {l : Addr} (h : H l = some (.lst xs)) (hz : xs.length ≤ 100000) (q : ∀ H', H' l = some (.lst (xs ++ [y])) → del H' l = del H l → Q .non H') : rAppend (.ref l) [y] H Q :=
  ⟨l, xs, y, rfl, rfl, h, Nat.lt_of_le_of_lt hz (by decide), q _ upd_same del_upd⟩
def rGeStr : R2 := fun x y H Q => ∃ i j, x = .str i ∧ y = .str j ∧ Q (.bl (!decide (i.cps.toList < j.cps.toList))) H
theorem w_geStr {a b : Str} (q : Q (.bl (!decide (a.cps.toList < b.cps.toList))) H) : rGeStr (.str a) (.str b) H Q := ⟨a, b, rfl, rfl, q⟩
theorem w_slS {z : Str} {lo hi : Option Int} (h : z.length ≤ sizeLine) (q : Q (.str (cutS z lo hi)) H) : rSlS (.str z) lo hi H Q := ⟨z, rfl, h, q⟩
theorem w_inSeq {p : Addr} (h : SqL K H p xs ∨ SqT K H p xs) (hx : flatV s = true) (ha : xs.all flatV = true) (q : Q (.bl (inV s xs)) H) : rIn K false s (.ref p) H Q := ⟨p, xs, rfl, h, hx, ha, q⟩
theorem w_notInSeq {p : Addr} (h : SqL K H p xs ∨ SqT K H p xs) (hx : flatV s = true) (ha : xs.all flatV = true) (q : Q (.bl (!inV s xs)) H) : rIn K true s (.ref p) H Q := ⟨p, xs, rfl, h, hx, ha, q⟩
theorem w_eqD {x y : V} {d e : PyData} (hd : Dp K H x d) (he : Dp K H y e) (sd : SeqAt.shaped d = true) (se : SeqAt.shaped e = true) (q : Q (.bl (PyData.eqv d e)) H) : rEqD K x y H Q := ⟨d, e, hd, he, sd, se, q⟩
theorem w_neD {x y : V} {d e : PyData} (hd : Dp K H x d) (he : Dp K H y e) (sd : SeqAt.shaped d = true) (se : SeqAt.shaped e = true) (q : Q (.bl (!PyData.eqv d e)) H) : rNeD K x y H Q := ⟨d, e, hd, he, sd, se, q⟩
theorem w_iEnum {tr : TA} {R : It → Hp → Prop} (h : tr σ H fun vs H1 => ∃ a xs, vs = [.ref a] ∧ SqL K H1 a xs ∧ R (Ite K a) H1) : iEnum K tr σ H R := h
theorem w_iEnumR {a : Addr} {R : Addr → Prop} (h : SqL K H a xs) (q : R a) : ∃ b ys, [V.ref a] = [.ref b] ∧ SqL K H b ys ∧ R b := ⟨a, xs, rfl, h, q⟩
end
section
variable {X : Cx} {o e : Expr} {to te : TE}
theorem op_geStr : OpR X (compareOp .GtE) rGeStr := op_ge_str
theorem pe_joinN {apos pos : Pos} (ho : PE X o to) (he : PE X e te) (hs : starEach [e] X.env = [(false, eval e X.env)] := by rfl) (hbase : attributeBase o "join" X.env (eval o X.env) = eval o X.env := by rfl) (hline : (apos.endLine == pos.line) = true := by rfl) :
    PE X (.Call (.Attribute o "join" apos) [e] [] pos) (tM1 (rJoin X.K) to te) := pe_join ho he hs hbase hline
end
/-- a comprehension by an invariant: Pv by the list's place, the turn, what is made so far, the heap -/
theorem lc_inv {J : It} {n : Nat} {G : Hp → Prop} {Y : Nat → Hp → V → Hp → Prop} {σ : L2.St} {H : Hp} {g : TG} {te : TE} {tt : TT} {vs : List Nat} {Q : VK} (w : Walk J n G Y) (Pv : Addr → Nat → List V → Hp → Prop)
    (h0 : ∀ D H', H D = none → Same H H' → H' D = some (.lst []) → Pv D 0 [] H') (hG : ∀ D i acc H', i ≤ n → H D = none → H' D = some (.lst acc) → Pv D i acc H' → G H')
    (hs : ∀ D i acc x H1 H2 (N : VK) (M : Hp → Prop), i < n → H D = none → H1 D = some (.lst acc) → Pv D i acc H1 → Y i H1 x H2 →
      (∀ y H5 acc', H5 D = some (.lst acc') → acc'.length < sizeLine → (∀ H6, H6 D = some (.lst (acc' ++ [y])) → del H6 D = del H5 D → Pv D (i + 1) (acc' ++ [y]) H6) → N y H5) → (∀ H4 acc', H4 D = some (.lst acc') → Pv D (i + 1) acc' H4 → M H4) →
      g x (wipe σ vs) H2 fun σ2 H3 => wipe σ2 vs = wipe σ vs ∧ tt σ2 H3 fun b H4 => if b = true then te σ2 H4 N else M H4)
    (hd : ∀ D acc H', H D = none → H' D = some (.lst acc) → Pv D n acc H' → Q (.ref D) H') : lcGoal J g tt te vs σ H Q := by
  intro D hDn
  have hp := h0 D _ hDn (same_new hDn) upd_same
  refine ⟨fun i m H' => m = n - i ∧ i ≤ n ∧ ∃ acc, H' D = some (.lst acc) ∧ Pv D i acc H', ⟨n, by simp, Nat.zero_le _, [], upd_same, hp⟩, ?_⟩
  rintro i m H' ⟨rfl, hi, acc, e, p⟩
  have q := hG D i acc H' hi hDn e p
  by_cases hlt : i < n
  · refine .inr ⟨w.goes i H' hlt q, fun H4 => ∃ acc', H4 D = some (.lst acc') ∧ Pv D (i + 1) acc' H4, fun H4 ⟨acc', p1, p2⟩ => ⟨n - (i + 1), by omega, rfl, hlt, acc', p1, p2⟩, fun x H2 y => ?_⟩
    exact hs D i acc x H' H2 _ _ hlt hDn e p (w.yields i H' x H2 hlt q y) (fun v H5 acc' e5 sz k => ⟨acc', e5, sz, acc' ++ [v], upd_same, k _ upd_same del_upd⟩) fun H4 acc' e4 p4 => ⟨acc', e4, p4⟩
  · have e2 : i = n := by omega
    subst e2
    exact .inl ⟨w.stops H' q, hd D acc H' hDn e p⟩
section
variable {K : PySem.W.Frag} {σ : L2.St} {H : Hp} {Q : VK} {td ty tx : TE} {a : Addr} {kvs : List (Key × V)} {k : Key} {v z : V}
theorem w_dnewK (q : ∀ p H', H p = none → Same H H' → H' p = some (.dK []) → Q (.ref p) H') : tDNewK σ H Q := w_newO q
theorem w_dgetT (h : td σ H fun x H1 => ty σ H1 fun y H2 => ∃ a v, x = .ref a ∧ DGet H2 a y (some v) ∧ Q v H2) : tDGet td ty σ H Q := h
theorem w_dget {R : V → Prop} (h : H a = some (.dK kvs)) (e : valV kvs k = some v) (q : R v) : ∃ a' v', V.ref a = .ref a' ∧ DGet H a' (kV k) (some v') ∧ R v' := ⟨a, v, rfl, e ▸ DGet.k h, q⟩
theorem w_dsetdT (h : td σ H fun x H1 => ∃ a, x = .ref a ∧ IsD H1 a ∧ ty σ H1 fun y H2 => tx σ H2 fun z H3 => ∃ (kvs : List (Key × V)) (k : Key), H3 a = some (.dK kvs) ∧ y = kV k ∧ kvs.length < sizeLine ∧
  (∀ v, valV kvs k = some v → Q v H3) ∧ (valV kvs k = none → Q z (upd H3 a (.dK (putK kvs k z))))) : tDSetd td ty tx σ H Q := h
theorem w_dsetd {R : V → Hp → Prop} (h : H a = some (.dK kvs)) (sz : kvs.length ≤ 100000) (q : ∀ v H', H' a = some (.dK (if (valV kvs k).isSome = true then kvs else putK kvs k z)) → del H' a = del H a → R v H') :
    ∃ (kvs : List (Key × V)) (j : Key), H a = some (.dK kvs) ∧ kV k = kV j ∧ kvs.length < sizeLine ∧ (∀ v, valV kvs j = some v → R v H) ∧ (valV kvs j = none → R z (upd H a (.dK (putK kvs j z)))) := by
  refine ⟨kvs, k, h, rfl, Nat.lt_of_le_of_lt sz (by decide), fun v e => ?_, fun e => ?_⟩
  · exact q v H (by rw [e]; exact h) rfl
  · exact q z _ (by rw [e]; exact upd_same) del_upd
theorem w_isDK {R : Addr → Prop} (h : H a = some (.dK kvs)) (q : R a) : ∃ b, V.ref a = .ref b ∧ IsD H b ∧ R b := ⟨a, rfl, .inl ⟨kvs, .inl h⟩, q⟩
theorem w_index {xs : List V} {y z : V} {j : Nat} (h : SqL K H a xs) (hy : flatV y = true) (ha : xs.all flatV = true) (hz : xs[j]? = some z) (e : eqV z y = true) (hn : ∀ (i : Nat) w, i < j → xs[i]? = some w → eqV w y = false) (q : Q (.int (j : Int)) H) : rIndex K (.ref a) [y] H Q := ⟨a, xs, y, j, z, rfl, rfl, h, hy, ha, hz, e, hn, q⟩
end
theorem w_lenD {a : Addr} {kvs : List (Key × V)} {H : Hp} {Q : VK} (h : H a = some (.dK kvs)) (q : Q (.int kvs.length) H) : (fun xs H Q => ∃ a kvs, xs = [V.ref a] ∧ H a = some (.dK kvs) ∧ Q (.int kvs.length) H : List V → Hp → VK → Prop) [V.ref a] H Q := ⟨a, kvs, rfl, h, q⟩
def rLenD : List V → Hp → VK → Prop := fun xs H Q => ∃ d kvs, xs = [.ref d] ∧ H d = some (.dK kvs) ∧ Q (.int kvs.length) H
theorem w_lenDN {a : Addr} {kvs : List (Key × V)} {H : Hp} {Q : VK} (h : H a = some (.dK kvs)) (q : Q (.int kvs.length) H) : rLenD [V.ref a] H Q := ⟨a, kvs, rfl, h, q⟩
theorem call_lenDN {X : Cx} : CallR X (.builtin "len") rLenD := call_lenD
/-- the end of a law whose defs may raise -/
theorem walk_nc {l : PySem.W.OpenLaw} {n k : Nat} {q : Program} {loose : List Str} {XP : (Str → Option Value) → Heap → Prop} {YP : World → Heap → Prop} {d : DefRec} {x : Str}
    (hn : l.most = some n) (hn2 : n ≤ sizeLine) (hdf : d.params.defaults = []) (hr : Room k callerA)
    (F : ∀ (w : World) (mg : Str → Option Value) (fa : Addr) (h : Heap), YP w h → h.Ns mainGlobals mg → mg d.name = some (.ref fa) →
      ∃ (K : PySem.W.Frag) (fd : FuncData) (sp : Sp), K.In h ∧ (∀ (s : Shared) (u : Value), BindsTo s fd ⟨[u], []⟩ [(x, u)]) ∧
        (∀ (H : Hp) (a : Addr) (ns : List Int), ns.length ≤ n → (∀ z ∈ ns, Builtin.Int.intBits z ≤ 1048576) → Only H → SqL K H a (ns.map V.int) → sp [.ref a] H (fun v _ => v = .bl true) fun _ _ _ => False) ∧
        ∀ base : Heap, K.In base → base.Ns mainGlobals mg → FnOk l.prog w K mg base (L2.CX l.prog w) k fa fd [x] sp) :
    PySem.W.WalkO q loose XP YP l.row.toRowW d [] (fun f vs => PySem.call f vs) := by
  refine Att.attach_callB hn hdf fun w s₀ s₁ mg mb fa o pm cd doc a vs ns G Y ho hd hcd hmg hobj hints hlen hbits hg => ?_
  obtain ⟨K, fd, sp, KX, hb, hsp, hF⟩ := F w mg fa _ Y G.T.g hmg
  exact law_call KX G.T.g G.T.b G.T.builtins G.T.nolimit hg hobj hints (Nat.le_trans hlen hn2) hr hF hb (fun H hO hS => hsp H a ns hlen hbits hO hS) fun H e s' z => by
    obtain ⟨_, _, _, _, _, _, _, _, _, _, _, _, z⟩ := z
    exact z
end Nc

/-! # Rows: the mathematics -/
namespace Nc
open PySem PySem.Spec PyProof.Rows L2
abbrev Row := List (Str × Int)
def hapD (p : Str × Int) : PyData := .tuple [.str p.1, .int p.2]
def rowD (r : Row) : PyData := .list (r.map hapD)
def sg (c : Nat) : Str := ⟨#[c]⟩
def ofL (cs : List Nat) : Str := ⟨cs.toArray⟩
/-- the small letters -/
def LET : List Nat := (List.range 26).map (· + 97)
theorem let_eq : ("abcdefghijklmnopqrstuvwxyz" : Str).cps.toList = LET := by decide +kernel
structure GoodL (cs : List Nat) : Prop where
  one : 1 ≤ cs.length
  four : cs.length ≤ 4
  lets : ∀ c ∈ cs, c ∈ LET
  rise : cs.Pairwise (· < ·)
/-- a row of these kinds -/
structure GoodR (cs : List Nat) (r : Row) : Prop where
  len : r.length ≤ 40
  kind : ∀ p ∈ r, ∃ c ∈ cs, p.1 = sg c
  name : ∀ p ∈ r, 0 ≤ p.2
/-- one name more -/
def plStep (s : List Int × Row) (p : Str × Int) : List Int × Row :=
  let pool := if p.2 ∈ s.1 then s.1 else s.1 ++ [p.2]
  (pool, s.2 ++ [(p.1, (pool.idxOf p.2 : Int))])
def plFold (r : Row) : List Int × Row := r.foldl plStep ([], [])
def plainR (r : Row) : Row := (plFold r).2
theorem plFold_more {r : Row} {i : Nat} {p : Str × Int} (h : r[i]? = some p) : plFold (r.take (i + 1)) = plStep (plFold (r.take i)) p := by
  unfold plFold
  rw [List.take_add_one, h, List.foldl_append]
  rfl
theorem plFold_len (r : Row) : (plFold r).2.length = r.length := by
  have : ∀ (r : Row) (s : List Int × Row), (r.foldl plStep s).2.length = s.2.length + r.length := by
    intro r
    induction r with
    | nil => intro s; rfl
    | cons p r ih => intro s; rw [List.foldl_cons, ih]; simp [plStep]; omega
  have := this r ([], [])
  unfold plFold
  simpa using this
theorem plFold_pool_len (r : Row) : (plFold r).1.length ≤ r.length := by
  have : ∀ (r : Row) (s : List Int × Row), (r.foldl plStep s).1.length ≤ s.1.length + r.length := by
    intro r
    induction r with
    | nil => intro s; exact Nat.le_refl _
    | cons p r ih =>
      intro s
      rw [List.foldl_cons]
      refine Nat.le_trans (ih _) ?_
      simp only [plStep, List.length_cons]
      split
      · omega
      · rw [List.length_append, List.length_singleton]; omega
  have := this r ([], [])
  unfold plFold
  simpa using this
/-- numbering from a pool on -/
def plGo : List Int → Row → Row
  | _, [] => []
  | pool, p :: r =>
    let pool' := if p.2 ∈ pool then pool else pool ++ [p.2]
    (p.1, (pool'.idxOf p.2 : Int)) :: plGo pool' r
theorem plFold_go : ∀ (r : Row) (s : List Int × Row), (r.foldl plStep s).2 = s.2 ++ plGo s.1 r
  | [], s => by simp [plGo]
  | p :: r, s => by
    rw [List.foldl_cons, plFold_go r]
    simp [plStep, plGo]
theorem plainR_go (r : Row) : plainR r = plGo [] r := by
  unfold plainR plFold
  rw [plFold_go]
  simp
def ups (n : Nat) : List Int := (List.range n).map fun i : Nat => (i : Int)
theorem ups_len (n : Nat) : (ups n).length = n := by simp [ups]
theorem ups_nodup (n : Nat) : (ups n).Nodup := by
  refine List.Pairwise.map _ (fun i j (hij : i ≠ j) e => hij ?_) List.nodup_range
  exact Int.ofNat.inj e
theorem ups_succ (n : Nat) : ups (n + 1) = ups n ++ [(n : Int)] := by simp [ups, List.range_succ]
theorem mem_ups {n i : Nat} : ((i : Int) ∈ ups n) ↔ i < n := by
  simp only [ups, List.mem_map, List.mem_range]
  constructor
  · rintro ⟨a, h, e⟩; omega
  · intro h; exact ⟨i, h, rfl⟩
theorem idx_ups {n i : Nat} (h : i < n) : (ups n).idxOf (i : Int) = i := by
  induction n with
  | zero => omega
  | succ n ih =>
    rw [ups_succ]
    by_cases e : i < n
    · rw [List.idxOf_append, if_pos (mem_ups.mpr e)]; exact ih e
    · have e2 : i = n := by omega
      subst e2
      rw [List.idxOf_append, if_neg (by rw [mem_ups]; omega), ups_len]
      simp
theorem plGo_again : ∀ (r : Row) (pool : List Int), plGo (ups pool.length) (plGo pool r) = plGo pool r
  | [], _ => rfl
  | p :: r, pool => by
    simp only [plGo]
    by_cases h : p.2 ∈ pool
    · rw [if_pos h]
      have hi : pool.idxOf p.2 < pool.length := List.idxOf_lt_length_iff.mpr h
      rw [if_pos (mem_ups.mpr hi), idx_ups hi, plGo_again r pool]
    · rw [if_neg h]
      have hi : (pool ++ [p.2]).idxOf p.2 = pool.length := by
        rw [List.idxOf_append, if_neg h]; simp
      rw [hi, if_neg (by rw [mem_ups]; omega), ← ups_succ, idx_ups (Nat.lt_succ_self _)]
      have := plGo_again r (pool ++ [p.2])
      rw [List.length_append, List.length_singleton] at this
      rw [this]
theorem plainR_again (r : Row) : plainR (plainR r) = plainR r := by
  rw [plainR_go, plainR_go]
  exact plGo_again r []
theorem plGo_mem : ∀ (r : Row) (pool : List Int) (q : Str × Int), q ∈ plGo pool r → 0 ≤ q.2 ∧ ∃ p ∈ r, p.1 = q.1
  | [], _, _, h => by cases h
  | p :: r, pool, q, h => by
    simp only [plGo, List.mem_cons] at h
    rcases h with h | h
    · subst h
      exact ⟨by simp, p, List.mem_cons_self .., rfl⟩
    · obtain ⟨h1, p', h2, h3⟩ := plGo_mem r _ q h
      exact ⟨h1, p', List.mem_cons_of_mem _ h2, h3⟩
theorem plainR_len (r : Row) : (plainR r).length = r.length := plFold_len r
theorem GoodR.plain {cs : List Nat} {r : Row} (h : GoodR cs r) : GoodR cs (plainR r) where
  len := by rw [plainR_len]; exact h.len
  kind := fun q hq => by
    rw [plainR_go] at hq
    obtain ⟨_, p, hp, e⟩ := plGo_mem r [] q hq
    obtain ⟨c, hc, e2⟩ := h.kind p hp
    exact ⟨c, hc, by rw [← e, e2]⟩
  name := fun q hq => by
    rw [plainR_go] at hq
    exact (plGo_mem r [] q hq).1
/-! the dict of names by their numbers -/
def dOf (pool : List Int) : List (Key × V) := pool.zipIdx.map fun p => ((Sum.inl p.1 : Key), V.int (p.2 : Int))
theorem dOf_len (pool : List Int) : (dOf pool).length = pool.length := by simp [dOf]
theorem dOf_val (n : Int) : ∀ (pool : List Int) (k : Nat), valV ((pool.zipIdx k).map fun p => ((Sum.inl p.1 : Key), V.int (p.2 : Int))) (Sum.inl n) = if n ∈ pool then some (.int ((k + pool.idxOf n : Nat) : Int)) else none
  | [], _ => rfl
  | a :: r, k => by
    rw [List.zipIdx_cons, List.map_cons]
    by_cases e : a = n
    · subst e
      rw [valV_pos rfl, if_pos (List.mem_cons_self ..)]
      simp
    · rw [valV_neg (by intro q; exact e (Sum.inl.inj q)), dOf_val n r (k + 1)]
      have e2 : (a == n) = false := by simpa using e
      by_cases h : n ∈ r
      · rw [if_pos h, if_pos (List.mem_cons_of_mem _ h), List.idxOf_cons, e2]
        simp
        omega
      · rw [if_neg h, if_neg (by simp [h]; exact fun q => e q.symm)]
theorem dOf_get (n : Int) (pool : List Int) : valV (dOf pool) (Sum.inl n) = if n ∈ pool then some (.int (pool.idxOf n : Int)) else none := by
  have := dOf_val n pool 0
  rw [Nat.zero_add] at this
  exact this
theorem dOf_put {n : Int} {pool : List Int} (h : n ∉ pool) : putK (dOf pool) (Sum.inl n) (.int (pool.length : Int)) = dOf (pool ++ [n]) := by
  rw [putK_new _ (by rw [dOf_get, if_neg h])]
  unfold dOf
  rw [List.zipIdx_append, List.map_append]
  simp
/-! lists of numbers -/
theorem inV_ints (n : Int) (pool : List Int) : inV (.int n) (pool.map V.int) = decide (n ∈ pool) := by
  unfold inV
  induction pool with
  | nil => rfl
  | cons a r ih =>
    rw [List.map_cons, List.any_cons, ih]
    show ((a == n) || decide (n ∈ r)) = decide (n ∈ a :: r)
    by_cases e : a = n
    · subst e; simp
    · have e2 : (a == n) = false := by simpa using e
      rw [e2, Bool.false_or]
      have e3 : ¬ n = a := fun q => e q.symm
      simp [e3]
theorem flat_ints (pool : List Int) : (pool.map V.int).all flatV = true := by simp [flatV]
theorem idx_at {n : Int} {pool : List Int} (h : n ∈ pool) : (pool.map V.int)[pool.idxOf n]? = some (.int n) := by
  have hi := List.idxOf_lt_length_iff.mpr h
  rw [List.getElem?_map, List.getElem?_eq_getElem hi, List.getElem_idxOf hi]
  rfl
theorem idx_ahead {n : Int} : ∀ {pool : List Int} {i : Nat} {w : V}, i < pool.idxOf n → (pool.map V.int)[i]? = some w → eqV w (.int n) = false
  | [], i, w, h, _ => by simp at h
  | a :: r, i, w, h, e => by
    rw [List.idxOf_cons] at h
    by_cases q : a = n
    · subst q; simp at h
    · have q2 : (a == n) = false := by simpa using q
      rw [q2] at h
      cases i with
      | zero => cases e; exact q2
      | succ i => exact idx_ahead (pool := r) (i := i) (by simpa using h) e
/-! rows as data -/
section
variable {K : PySem.W.Frag} {H : Hp}
theorem hap_at {xs : List V} {r : Row} {i : Nat} {x : V} (h : DpAll K H xs (r.map hapD)) (e : xs[i]? = some x) : ∃ k n t, r[i]? = some (k, n) ∧ x = .ref t ∧ SqT K H t [.str k, .int n] := by
  obtain ⟨d, h1, h2⟩ := DpAll.get h e
  rw [List.getElem?_map] at h1
  cases q : r[i]? with
  | none => rw [q] at h1; cases h1
  | some p =>
    rw [q] at h1
    cases h1
    obtain ⟨t, ys, rfl, h3, h4⟩ := Dp.tupI h2
    cases h4 with
    | cons a b =>
      cases b with
      | cons c d =>
        cases d
        rw [Dp.strI a, Dp.intI c] at h3
        exact ⟨p.1, p.2, t, rfl, rfl, h3⟩
theorem hap_dp {t : Addr} {k : Str} {n : Int} (h : SqT K H t [.str k, .int n]) : Dp K H (.ref t) (hapD (k, n)) := .tup h (.cons (.str k) (.cons (.int n) .nil))
theorem hap_snoc {xs : List V} {r : Row} {t : Addr} {k : Str} {n : Int} (h : DpAll K H xs (r.map hapD)) (ht : SqT K H t [.str k, .int n]) : DpAll K H (xs ++ [.ref t]) ((r ++ [(k, n)]).map hapD) := by
  rw [List.map_append]
  exact DpAll.append h (.cons (hap_dp ht) .nil)
end
theorem get_ofL (cs : List Nat) (i : Nat) : (ofL cs).cps[i]? = cs[i]? := by simp [ofL]
theorem size_ofL (cs : List Nat) : (ofL cs).cps.size = cs.length := by simp [ofL]
theorem len_ofL (cs : List Nat) : (ofL cs).length = cs.length := by simp [ofL, Str.length]
theorem toL_ofL (cs : List Nat) : (ofL cs).cps.toList = cs := by simp [ofL]
theorem cutS_from (cs : List Nat) (n : Nat) : cutS (ofL cs) (some (n : Int)) none = ofL (cs.drop n) := by
  unfold cutS
  rw [toL_ofL, len_ofL, HT.sIx_none, HT.sIx_nat]
  unfold ofL
  congr 1
  by_cases h : n ≤ cs.length
  · rw [Nat.min_eq_left h, List.take_of_length_le (by rw [List.length_drop]; exact Nat.le_refl _)]
  · rw [Nat.min_eq_right (by omega), List.drop_length, List.drop_of_length_le (by omega), List.take_nil]
theorem hap_noL (r : Row) : noLs (r.map hapD) = true := by
  rw [noLs_iff]
  intro d hd
  obtain ⟨p, _, rfl⟩ := List.mem_map.mp hd
  rfl
theorem let_ok : ∀ c ∈ LET, PyData.canLay0 (.str (sg c)) = true := by decide +kernel
theorem row_lay {r : Row} (hk : ∀ p ∈ r, ∃ c ∈ LET, p.1 = sg c) : PyData.canLayAll0 (r.map hapD) = true ∧ PyData.depthAll (r.map hapD) ≤ 2 := by
  induction r with
  | nil => exact ⟨by simp [PyData.canLayAll0], by simp [PyData.depthAll]⟩
  | cons p r ih =>
    obtain ⟨i1, i2⟩ := ih fun q hq => hk q (List.mem_cons_of_mem _ hq)
    obtain ⟨c, hc, e⟩ := hk p (List.mem_cons_self ..)
    have h0 := let_ok c hc
    obtain ⟨k, n⟩ := p
    dsimp only at e
    subst e
    refine ⟨?_, ?_⟩
    · simp only [List.map_cons, PyData.canLayAll0, hapD, PyData.canLay0, Bool.and_true, Bool.and_eq_true] at i1 h0 ⊢
      exact ⟨h0, i1⟩
    · simp only [List.map_cons, PyData.depthAll, hapD, PyData.depth] at i2 ⊢
      omega
theorem row_shaped {r : Row} (hk : ∀ p ∈ r, ∃ c ∈ LET, p.1 = sg c) : SeqAt.shaped (rowD r) = true := by
  obtain ⟨h1, h2⟩ := row_lay hk
  unfold SeqAt.shaped rowD
  rw [Bool.and_eq_true]
  refine ⟨?_, decide_eq_true ?_⟩
  · simp only [PyData.canLay0]; exact h1
  · simp only [PyData.depth]; omega
theorem row_eqv {r : Row} (hk : ∀ p ∈ r, ∃ c ∈ LET, p.1 = sg c) : PyData.eqv (rowD r) (rowD r) = true :=
  SeqAt.eqv_refl _ (Bool.and_eq_true_iff.mp (row_shaped hk)).1
theorem GoodR.lets {cs : List Nat} {r : Row} (h : GoodR cs r) (hc : GoodL cs) : ∀ p ∈ r, ∃ c ∈ LET, p.1 = sg c := fun p hp =>
  let ⟨c, h1, h2⟩ := h.kind p hp
  ⟨c, hc.lets c h1, h2⟩
/-! texts of letters -/
theorem single_lt {c d : Nat} : (([c] : List Nat) < [d]) ↔ c < d := by
  constructor
  · intro h
    cases h with
    | rel h => exact h
    | cons h => cases h
  · intro h; exact List.Lex.rel h
theorem sum_sg : ∀ ks : List Nat, ((ks.map sg).map (·.length)).sum = ks.length
  | [] => rfl
  | c :: r => by
    show (1 : Nat) + ((r.map sg).map (·.length)).sum = r.length + 1
    rw [sum_sg r]
    omega
theorem joinL_sg : ∀ cs : List Nat, TL.joinL [] (cs.map fun c => [c]) = cs
  | [] => rfl
  | [_] => rfl
  | a :: b :: r => by
    show [a] ++ ([] ++ TL.joinL [] ((b :: r).map fun c => [c])) = _
    rw [joinL_sg (b :: r)]
    rfl
theorem join_sg (cs : List Nat) : Txt.join ("" : Str) (cs.map sg) = ofL cs := by
  refine PyProof.Rows.ext_toList ?_
  rw [TL.join_eq]
  refine (TL.tl_join _ _).trans ?_
  rw [List.map_map]
  exact joinL_sg cs
theorem sorted_sg : ∀ (cs : List Nat), sortedS (cs.map sg) = true → cs.Pairwise (· ≤ ·) := by
  have aux : ∀ (cs : List Nat) (c : Nat), risingS (sg c) (cs.map sg) = true → (c :: cs).Pairwise (· ≤ ·) := by
    intro cs
    induction cs with
    | nil => intro c _; exact List.pairwise_singleton _ _
    | cons d r ih =>
      intro c h
      have h' : (!ltCps [d] [c] && risingS (sg d) (r.map sg)) = true := h
      obtain ⟨h1, h2⟩ := Bool.and_eq_true_iff.mp h'
      have hp := ih d h2
      have hcd : c ≤ d := by
        have h3 : ltCps [d] [c] = false := by simpa using h1
        have h4 : (decide (d < c) || (d == c && ltCps [] [])) = false := h3
        simp at h4
        omega
      refine List.pairwise_cons.mpr ⟨fun x hx => ?_, hp⟩
      rcases List.mem_cons.mp hx with e | e
      · omega
      · have := (List.pairwise_cons.mp hp).1 x e
        omega
  intro cs h
  cases cs with
  | nil => exact List.Pairwise.nil
  | cons c r => exact aux r c h
theorem perm_map_inv {α β : Type} {f : α → β} {ys : List β} {xs : List α} (h : ys.Perm (xs.map f)) : ∃ zs : List α, ys = zs.map f ∧ zs.Perm xs := by
  generalize e : xs.map f = m at h
  induction h generalizing xs with
  | nil => exact ⟨[], rfl, by rw [List.map_eq_nil_iff.mp e]⟩
  | cons a _ ih =>
    cases xs with
    | nil => cases e
    | cons x xs =>
      injection e with e1 e2
      obtain ⟨zs, h1, h2⟩ := ih e2
      exact ⟨x :: zs, by rw [List.map_cons, e1, h1], h2.cons x⟩
  | swap a b l =>
    match xs, e with
    | x :: y :: r, e =>
      injection e with e1 e2
      injection e2 with e3 e4
      exact ⟨y :: x :: r, by rw [List.map_cons, List.map_cons, e1, e3, e4], List.Perm.swap x y r⟩
  | trans _ _ ih1 ih2 =>
    obtain ⟨zs, h1, h2⟩ := ih2 e
    obtain ⟨ws, h3, h4⟩ := ih1 h1.symm
    exact ⟨ws, h3, h4.trans h2⟩
theorem strict_of {cs : List Nat} (h : cs.Pairwise (· ≤ ·)) (hn : cs.Nodup) : cs.Pairwise (· < ·) := by
  refine (h.and hn).imp ?_
  intro a b ⟨h1, h2⟩
  exact Nat.lt_of_le_of_ne h1 h2
end Nc

/-! one step of a reading -/
local macro_rules | `(tactic| walk_at "sq") => `(tactic| first
  | assumption | exact L2.SqL.of (by assumption) | exact L2.SqL.of L2.upd_same | exact L2.Same.seq Nc.same_del (by assumption) | exact L2.SqT.of (by assumption) | exact L2.SqT.of L2.upd_same)
local macro_rules | `(tactic| walk_at "ar") => `(tactic| first
  | (show (0 : Int) < _; omega)
  | exact Or.inl ⟨by omega, by omega⟩
  | exact Or.inr ⟨by omega, by omega⟩
  | exact ⟨by omega, by assumption⟩
  | exact ⟨by omega, by decide⟩
  | exact ⟨by omega, by omega, by omega⟩)
local macro_rules | `(tactic| walk_at "n") => `(tactic| first
  | with_reducible refine Nc.w_asg ?_
  | with_reducible refine Nc.w_gName ?_
  | ((with_reducible refine Nc.w_var (v := ?v0) ?h1 ?h2); (case h1 => exact rfl))
  | with_reducible refine Nc.w_c ?_
  | with_reducible refine Nc.w_op ?_
  | with_reducible refine Nc.w_I0 ?_
  | with_reducible refine Nc.w_cons ?_
  | with_reducible refine Nc.w_nil ?_
  | with_reducible refine Nc.w_CB ?_
  | with_reducible refine Nc.w_call ?_
  | with_reducible refine Nc.w_if ?_
  | with_reducible refine Nc.w_tTest ?_
  | with_reducible refine Nc.w_tB ?_
  | with_reducible refine Nc.w_bl ?_
  | with_reducible refine Nc.w_tNot ?_
  | with_reducible refine Nc.w_tAnd ?_
  | with_reducible refine Nc.w_tOr ?_
  | with_reducible refine Nc.w_ret ?_
  | with_reducible refine Nc.w_drop ?_
  | with_reducible refine Nc.w_next ?_
  | with_reducible refine Nc.w_retN ?_
  | with_reducible refine Nc.w_tup ?_
  | with_reducible refine Nc.w_lst ?_
  | with_reducible refine Nc.w_ifE ?_
  | with_reducible refine Nc.w_andV ?_
  | with_reducible refine Nc.w_orV ?_
  | with_reducible refine Nc.w_notV ?_
  | with_reducible refine Nc.w_chain ?_
  | with_reducible refine Nc.w_sl ?_
  | with_reducible refine Nc.w_noPart ?_
  | with_reducible refine Nc.w_part ?_
  | with_reducible refine Nc.w_int ?_
  | with_reducible refine Nc.w_un ?_
  | with_reducible refine Nc.w_BM ?_
  | with_reducible refine Nc.w_BM0 ?_
  | with_reducible refine Nc.w_gSub ?_
  | with_reducible refine Nc.w_par ?_
  | with_reducible refine Nc.w_yes ?_
  | ((with_reducible refine Nc.w_ixL (xs := ?xs0) (v := ?v0) ?h1 ?h2 ?h3); (case h1 => walk_at "sq"); (case h2 => exact rfl))
  | ((with_reducible refine Nc.w_setL (xs := ?xs0) (j := ?j0) ?h1 ?h2 ?h3); (case h1 => assumption); (case h2 => exact rfl); intro _ _ _)
  | ((with_reducible refine Nc.w_len (xs := ?xs0) ?h1 ?h2); (case h1 => walk_at "sq"))
  | with_reducible refine L2.iteF ?_
  | with_reducible refine Nc.w_iteNT ?_
  | with_reducible refine Nc.w_iteNF ?_
  | with_reducible refine Nc.w_for ?_
  | with_reducible refine Nc.w_lc ?_
  | with_reducible refine Nc.w_iList ?_
  | with_reducible refine Nc.w_iStr ?_
  | with_reducible refine Nc.w_iStrR ?_
  | with_reducible refine Nc.w_iZipS ?_
  | with_reducible refine Nc.w_iRng1 ?_
  | with_reducible refine Nc.w_iEnum ?_
  | with_reducible refine Nc.w_isN_non ?_
  | with_reducible refine Nc.w_isN_int ?_
  | with_reducible refine Nc.w_isN_str ?_
  | with_reducible refine Nc.w_isN_bl ?_
  | with_reducible refine Nc.w_isN_ref ?_
  | with_reducible refine Nc.w_notN_non ?_
  | with_reducible refine Nc.w_notN_int ?_
  | with_reducible refine Nc.w_notN_str ?_
  | with_reducible refine Nc.w_notN_bl ?_
  | with_reducible refine Nc.w_notN_ref ?_
  | with_reducible refine Nc.w_dsetdT ?_
  | with_reducible refine Nc.w_dgetT ?_
  | ((with_reducible refine Nc.w_isDK (kvs := ?xs0) ?h1 ?h2); (case h1 => assumption))
  | ((with_reducible refine Nc.w_lenDN (kvs := ?xs0) ?h1 ?h2); (case h1 => assumption))
  | ((with_reducible refine Nc.w_isiInt (d := ?d0) ?h1 ?h2); (case h1 => assumption))
  | ((with_reducible refine Nc.w_isiBool (d := ?d0) ?h1 ?h2); (case h1 => assumption))
  | ((with_reducible refine Nc.w_isiStr (d := ?d0) ?h1 ?h2); (case h1 => assumption))
  | ((with_reducible refine Nc.w_isiTup (d := ?d0) ?h1 ?h2); (case h1 => assumption))
  | ((with_reducible refine Nc.w_isiList (d := ?d0) ?h1 ?h2); (case h1 => assumption))
  | ((with_reducible refine Nc.w_iRngR ?h1 ?h2 ?h3); (case h1 => omega); (case h2 => omega))
  | with_reducible refine Nc.w_M1 ?_
  | with_reducible refine Nc.w_strAnd ?_
  | with_reducible refine Nc.w_lstRg ?_
  | with_reducible refine Nc.w_rg1 ?_
  | with_reducible refine Nc.w_gCons ?_
  | with_reducible refine Nc.w_gNil ?_
  | with_reducible refine Nc.w_geStr ?_
  | ((with_reducible refine Nc.w_gTup (xs := ?xs0) ?h1 ?h2 ?h3); (case h1 => walk_at "sq"); (case h2 => exact rfl))
  | ((with_reducible refine Nc.w_tyL (xs := ?xs0) ?h1 ?h2); (case h1 => walk_at "sq"))
  | ((with_reducible refine Nc.w_iListR (xs := ?xs0) ?h1 ?h2); (case h1 => walk_at "sq"))
  | ((with_reducible refine Nc.w_iEnumR (xs := ?xs0) ?h1 ?h2); (case h1 => walk_at "sq"))
  | with_reducible refine L2.iteT ?_
  | with_reducible refine Nc.w_inSign ?_
  | with_reducible refine Nc.w_notInSign ?_
  | ((with_reducible refine Nc.w_I ?h1 ?h2); (case h1 => walk_at "ar"))
  | ((with_reducible refine Nc.w_EqSame ?h1 ?h2); (case h1 => exact rfl))
  | ((with_reducible refine Nc.w_NeSame ?h1 ?h2); (case h1 => exact rfl))
  | ((with_reducible refine Nc.w_Eq ?h1 ?h2); (case h1 => exact rfl))
  | ((with_reducible refine Nc.w_Ne ?h1 ?h2); (case h1 => exact rfl))
  | ((with_reducible refine Nc.w_iteT (b := Nc.isIntD _) ?h1 ?h2); (case h1 => exact rfl))
  | ((with_reducible refine Nc.w_iteF (b := Nc.isIntD _) ?h1 ?h2); (case h1 => exact rfl))
  | ((with_reducible refine Nc.w_iteT (b := Nc.isBoolD _) ?h1 ?h2); (case h1 => exact rfl))
  | ((with_reducible refine Nc.w_iteF (b := Nc.isBoolD _) ?h1 ?h2); (case h1 => exact rfl))
  | ((with_reducible refine Nc.w_iteT (b := Nc.isStrD _) ?h1 ?h2); (case h1 => exact rfl))
  | ((with_reducible refine Nc.w_iteF (b := Nc.isStrD _) ?h1 ?h2); (case h1 => exact rfl))
  | ((with_reducible refine Nc.w_iteT (b := Nc.isTupD _) ?h1 ?h2); (case h1 => exact rfl))
  | ((with_reducible refine Nc.w_iteF (b := Nc.isTupD _) ?h1 ?h2); (case h1 => exact rfl))
  | ((with_reducible refine Nc.w_iteT (b := Nc.isListD _) ?h1 ?h2); (case h1 => exact rfl))
  | ((with_reducible refine Nc.w_iteF (b := Nc.isListD _) ?h1 ?h2); (case h1 => exact rfl))
  | ((with_reducible refine Nc.w_iteT (b := (Nc.isBoolD _ || Nc.isBoolD _)) ?h1 ?h2); (case h1 => exact rfl))
  | ((with_reducible refine Nc.w_iteF (b := (Nc.isBoolD _ || Nc.isBoolD _)) ?h1 ?h2); (case h1 => exact rfl))
  | ((with_reducible refine Nc.w_iteT (b := (!Nc.isTupD _)) ?h1 ?h2); (case h1 => exact rfl))
  | ((with_reducible refine Nc.w_iteF (b := (!Nc.isTupD _)) ?h1 ?h2); (case h1 => exact rfl))
  | ((with_reducible refine Nc.w_iteT (b := (!Nc.isStrD _)) ?h1 ?h2); (case h1 => exact rfl))
  | ((with_reducible refine Nc.w_iteF (b := (!Nc.isStrD _)) ?h1 ?h2); (case h1 => exact rfl)))
local macro_rules | `(tactic| walk_at "s") => `(tactic| first | with_reducible refine Nc.w_seq ?_ | walk_at "n")
local macro_rules | `(tactic| walk_at "S") => `(tactic| ((repeat walk_at "s"); try dsimp only))
local macro_rules | `(tactic| walk_at "N") => `(tactic| ((repeat walk_at "n"); try dsimp only))
local macro_rules | `(tactic| walk_at "D") => `(tactic| dsimp only [L2.cxOf, L2.start, List.map_cons, List.map, List.map_nil, List.length_cons, List.length_nil, Nat.reduceAdd, Nat.reduceSub, List.replicate, List.cons_append, List.nil_append])
local macro_rules | `(tactic| walk_at "B") => `(tactic| (dsimp only [L2.cxOf, L2.start, List.map_cons, List.map, List.map_nil, List.length_cons, List.length_nil, Nat.reduceAdd, Nat.reduceSub, List.replicate, List.cons_append, List.nil_append]; walk_at "S"))

namespace Nc
open PySem PySem.Spec PyProof.Rows L2

def top (i : Nat) : Stmt := PySem.Challenge.pw_namecote_k02_rows_made_plain.main.body.getD i (.Pass ⟨0, 0, 0, 0⟩)
abbrev s_is_number : Stmt := top 9
abbrev s_is_letter : Stmt := top 10
abbrev s_need_kinds : Stmt := top 11
abbrev s_is_happening : Stmt := top 12
abbrev s_need_row : Stmt := top 13
abbrev s_numbered : Stmt := top 14
abbrev s_plain : Stmt := top 15
abbrev s__law_bag : Stmt := top 17
abbrev s__law_pick : Stmt := top 18
abbrev s__law_of : Stmt := top 19
abbrev s__law_shuffled : Stmt := top 20
abbrev s__law_same : Stmt := top 21
abbrev s__law_signs : Stmt := top 22
abbrev s__law_names : Stmt := top 23
abbrev s__law_row : Stmt := top 24
abbrev s__law_plain : Stmt := top 25
abbrev s_law : Stmt := top 26
def d_is_number : He.DefD := ⟨("is_number", none), "is_number", "is_number", defArgs s_is_number, defBody s_is_number, defScope s_is_number, [], []⟩
def d_is_letter : He.DefD := ⟨("is_letter", none), "is_letter", "is_letter", defArgs s_is_letter, defBody s_is_letter, defScope s_is_letter, [.str "abcdefghijklmnopqrstuvwxyz"], []⟩
def d_need_kinds : He.DefD := ⟨("need_kinds", none), "need_kinds", "need_kinds", defArgs s_need_kinds, defBody s_need_kinds, defScope s_need_kinds, [], []⟩
def d_is_happening : He.DefD := ⟨("is_happening", none), "is_happening", "is_happening", defArgs s_is_happening, defBody s_is_happening, defScope s_is_happening, [], []⟩
def d_need_row : He.DefD := ⟨("need_row", none), "need_row", "need_row", defArgs s_need_row, defBody s_need_row, defScope s_need_row, [], []⟩
def d_numbered : He.DefD := ⟨("numbered", none), "numbered", "numbered", defArgs s_numbered, defBody s_numbered, defScope s_numbered, [], []⟩
def d_plain : He.DefD := ⟨("plain", none), "plain", "plain", defArgs s_plain, defBody s_plain, defScope s_plain, [], []⟩
def d__law_bag : He.DefD := ⟨("_law_bag", none), "_law_bag", "_law_bag", defArgs s__law_bag, defBody s__law_bag, defScope s__law_bag, [], []⟩
def d__law_pick : He.DefD := ⟨("_law_pick", none), "_law_pick", "_law_pick", defArgs s__law_pick, defBody s__law_pick, defScope s__law_pick, [], []⟩
def d__law_of : He.DefD := ⟨("_law_of", none), "_law_of", "_law_of", defArgs s__law_of, defBody s__law_of, defScope s__law_of, [], []⟩
def d__law_shuffled : He.DefD := ⟨("_law_shuffled", none), "_law_shuffled", "_law_shuffled", defArgs s__law_shuffled, defBody s__law_shuffled, defScope s__law_shuffled, [], []⟩
def d__law_same : He.DefD := ⟨("_law_same", none), "_law_same", "_law_same", defArgs s__law_same, defBody s__law_same, defScope s__law_same, [], []⟩
def d__law_signs : He.DefD := ⟨("_law_signs", none), "_law_signs", "_law_signs", defArgs s__law_signs, defBody s__law_signs, defScope s__law_signs, [], []⟩
def d__law_names : He.DefD := ⟨("_law_names", none), "_law_names", "_law_names", defArgs s__law_names, defBody s__law_names, defScope s__law_names, [], []⟩
def d__law_row : He.DefD := ⟨("_law_row", none), "_law_row", "_law_row", defArgs s__law_row, defBody s__law_row, defScope s__law_row, [], []⟩
def d__law_plain : He.DefD := ⟨("_law_plain", none), "_law_plain", "_law_plain", defArgs s__law_plain, defBody s__law_plain, defScope s__law_plain, [], []⟩
def d_law : He.DefD := ⟨("law", none), "law", "law", defArgs s_law, defBody s_law, defScope s_law, [], []⟩
def fn : List He.DefD := [d_is_number, d_is_letter, d_need_kinds, d_is_happening, d_need_row, d_numbered, d_plain, d__law_bag, d__law_pick, d__law_of, d__law_shuffled, d__law_same, d__law_signs, d__law_names, d__law_row, d__law_plain, d_law]
def fa : List He.Fa := [.glo "_law_bag", .glo "_law_names", .glo "_law_of", .glo "_law_pick", .glo "_law_plain", .glo "_law_row", .glo "_law_same", .glo "_law_shuffled", .glo "_law_signs", .glo "is_happening", .glo "is_letter", .glo "is_number", .glo "law", .glo "need_kinds", .glo "need_row", .glo "numbered", .glo "plain", .free "all", .free "any", .free "bool", .free "enumerate", .free "int", .free "isinstance", .free "len", .free "list", .free "range", .free "sorted", .free "str", .free "tuple", .free "zip", .str "LETTERS" "abcdefghijklmnopqrstuvwxyz", .int "MOST_KINDS" 4, .int "MOST_ROW" 40]
structure Txt (K : PySem.W.Frag) (mg : Str → Option Value) : Prop where
  c : He.SaysD fa fn K
  ex : ∃ h : Heap, K.In h ∧ h.Ns mainGlobals mg
section
variable {P : Program} {w : World} {K : PySem.W.Frag} {mg : Str → Option Value} {base : Heap}
theorem g__law_bag (T : Txt K mg) : mg "_law_bag" = some (.ref (He.fAd K ("_law_bag", none))) := let ⟨_, X, G⟩ := T.ex; He.glo_ok X G (T.c.fact 0 (f := .glo "_law_bag") rfl)
theorem g__law_names (T : Txt K mg) : mg "_law_names" = some (.ref (He.fAd K ("_law_names", none))) := let ⟨_, X, G⟩ := T.ex; He.glo_ok X G (T.c.fact 1 (f := .glo "_law_names") rfl)
theorem g__law_of (T : Txt K mg) : mg "_law_of" = some (.ref (He.fAd K ("_law_of", none))) := let ⟨_, X, G⟩ := T.ex; He.glo_ok X G (T.c.fact 2 (f := .glo "_law_of") rfl)
theorem g__law_pick (T : Txt K mg) : mg "_law_pick" = some (.ref (He.fAd K ("_law_pick", none))) := let ⟨_, X, G⟩ := T.ex; He.glo_ok X G (T.c.fact 3 (f := .glo "_law_pick") rfl)
theorem g__law_plain (T : Txt K mg) : mg "_law_plain" = some (.ref (He.fAd K ("_law_plain", none))) := let ⟨_, X, G⟩ := T.ex; He.glo_ok X G (T.c.fact 4 (f := .glo "_law_plain") rfl)
theorem g__law_row (T : Txt K mg) : mg "_law_row" = some (.ref (He.fAd K ("_law_row", none))) := let ⟨_, X, G⟩ := T.ex; He.glo_ok X G (T.c.fact 5 (f := .glo "_law_row") rfl)
theorem g__law_same (T : Txt K mg) : mg "_law_same" = some (.ref (He.fAd K ("_law_same", none))) := let ⟨_, X, G⟩ := T.ex; He.glo_ok X G (T.c.fact 6 (f := .glo "_law_same") rfl)
theorem g__law_shuffled (T : Txt K mg) : mg "_law_shuffled" = some (.ref (He.fAd K ("_law_shuffled", none))) := let ⟨_, X, G⟩ := T.ex; He.glo_ok X G (T.c.fact 7 (f := .glo "_law_shuffled") rfl)
theorem g__law_signs (T : Txt K mg) : mg "_law_signs" = some (.ref (He.fAd K ("_law_signs", none))) := let ⟨_, X, G⟩ := T.ex; He.glo_ok X G (T.c.fact 8 (f := .glo "_law_signs") rfl)
theorem g_is_happening (T : Txt K mg) : mg "is_happening" = some (.ref (He.fAd K ("is_happening", none))) := let ⟨_, X, G⟩ := T.ex; He.glo_ok X G (T.c.fact 9 (f := .glo "is_happening") rfl)
theorem g_is_letter (T : Txt K mg) : mg "is_letter" = some (.ref (He.fAd K ("is_letter", none))) := let ⟨_, X, G⟩ := T.ex; He.glo_ok X G (T.c.fact 10 (f := .glo "is_letter") rfl)
theorem g_is_number (T : Txt K mg) : mg "is_number" = some (.ref (He.fAd K ("is_number", none))) := let ⟨_, X, G⟩ := T.ex; He.glo_ok X G (T.c.fact 11 (f := .glo "is_number") rfl)
theorem g_law (T : Txt K mg) : mg "law" = some (.ref (He.fAd K ("law", none))) := let ⟨_, X, G⟩ := T.ex; He.glo_ok X G (T.c.fact 12 (f := .glo "law") rfl)
theorem g_need_kinds (T : Txt K mg) : mg "need_kinds" = some (.ref (He.fAd K ("need_kinds", none))) := let ⟨_, X, G⟩ := T.ex; He.glo_ok X G (T.c.fact 13 (f := .glo "need_kinds") rfl)
theorem g_need_row (T : Txt K mg) : mg "need_row" = some (.ref (He.fAd K ("need_row", none))) := let ⟨_, X, G⟩ := T.ex; He.glo_ok X G (T.c.fact 14 (f := .glo "need_row") rfl)
theorem g_numbered (T : Txt K mg) : mg "numbered" = some (.ref (He.fAd K ("numbered", none))) := let ⟨_, X, G⟩ := T.ex; He.glo_ok X G (T.c.fact 15 (f := .glo "numbered") rfl)
theorem g_plain (T : Txt K mg) : mg "plain" = some (.ref (He.fAd K ("plain", none))) := let ⟨_, X, G⟩ := T.ex; He.glo_ok X G (T.c.fact 16 (f := .glo "plain") rfl)
theorem fr_all (T : Txt K mg) : mg "all" = none := let ⟨_, X, G⟩ := T.ex; He.free_ok X G (T.c.fact 17 (f := .free "all") rfl)
theorem fr_any (T : Txt K mg) : mg "any" = none := let ⟨_, X, G⟩ := T.ex; He.free_ok X G (T.c.fact 18 (f := .free "any") rfl)
theorem fr_bool (T : Txt K mg) : mg "bool" = none := let ⟨_, X, G⟩ := T.ex; He.free_ok X G (T.c.fact 19 (f := .free "bool") rfl)
theorem fr_enumerate (T : Txt K mg) : mg "enumerate" = none := let ⟨_, X, G⟩ := T.ex; He.free_ok X G (T.c.fact 20 (f := .free "enumerate") rfl)
theorem fr_int (T : Txt K mg) : mg "int" = none := let ⟨_, X, G⟩ := T.ex; He.free_ok X G (T.c.fact 21 (f := .free "int") rfl)
theorem fr_isinstance (T : Txt K mg) : mg "isinstance" = none := let ⟨_, X, G⟩ := T.ex; He.free_ok X G (T.c.fact 22 (f := .free "isinstance") rfl)
theorem fr_len (T : Txt K mg) : mg "len" = none := let ⟨_, X, G⟩ := T.ex; He.free_ok X G (T.c.fact 23 (f := .free "len") rfl)
theorem fr_list (T : Txt K mg) : mg "list" = none := let ⟨_, X, G⟩ := T.ex; He.free_ok X G (T.c.fact 24 (f := .free "list") rfl)
theorem fr_range (T : Txt K mg) : mg "range" = none := let ⟨_, X, G⟩ := T.ex; He.free_ok X G (T.c.fact 25 (f := .free "range") rfl)
theorem fr_sorted (T : Txt K mg) : mg "sorted" = none := let ⟨_, X, G⟩ := T.ex; He.free_ok X G (T.c.fact 26 (f := .free "sorted") rfl)
theorem fr_str (T : Txt K mg) : mg "str" = none := let ⟨_, X, G⟩ := T.ex; He.free_ok X G (T.c.fact 27 (f := .free "str") rfl)
theorem fr_tuple (T : Txt K mg) : mg "tuple" = none := let ⟨_, X, G⟩ := T.ex; He.free_ok X G (T.c.fact 28 (f := .free "tuple") rfl)
theorem fr_zip (T : Txt K mg) : mg "zip" = none := let ⟨_, X, G⟩ := T.ex; He.free_ok X G (T.c.fact 29 (f := .free "zip") rfl)
theorem gv_LETTERS (T : Txt K mg) : ∃ u, mg "LETTERS" = some u ∧ RelV (V.str "abcdefghijklmnopqrstuvwxyz") u := let ⟨_, X, G⟩ := T.ex; let ⟨t, e⟩ := He.str_ok X G (T.c.fact 30 (f := .str "LETTERS" "abcdefghijklmnopqrstuvwxyz") rfl); ⟨_, e, t, rfl⟩
theorem gv_MOST_KINDS (T : Txt K mg) : ∃ u, mg "MOST_KINDS" = some u ∧ RelV (V.int 4) u := let ⟨_, X, G⟩ := T.ex; let ⟨t, e⟩ := He.int_ok X G (T.c.fact 31 (f := .int "MOST_KINDS" 4) rfl); ⟨_, e, t, rfl⟩
theorem gv_MOST_ROW (T : Txt K mg) : ∃ u, mg "MOST_ROW" = some u ∧ RelV (V.int 40) u := let ⟨_, X, G⟩ := T.ex; let ⟨t, e⟩ := He.int_ok X G (T.c.fact 32 (f := .int "MOST_ROW" 40) rfl); ⟨_, e, t, rfl⟩
theorem F_is_number (T : Txt K mg) : FunD K "is_number" "is_number" (defArgs s_is_number) (defBody s_is_number) (defScope s_is_number) (d_is_number.dvs K) [] (He.fAd K ("is_number", none)) (fdF K ("is_number", none)) := funD_fd (T.c.def_ 0 (d := d_is_number) rfl)
theorem kp_is_number (T : Txt K mg) : PySem.W.keepIn K (.ref (He.fAd K ("is_number", none))) = true := (F_is_number T).kp
theorem sc_is_number : FnScope ["thing"] ["thing"] (defScope s_is_number) := ⟨rfl, rfl, rfl, by decide +kernel, rfl, by decide +kernel, by decide +kernel⟩
theorem b_is_number (T : Txt K mg) : Binds K (fdF K ("is_number", none)) ["thing"] [] := FunD.bindsN (F_is_number T) fun _ _ _ _ _ _ us hl => match us, hl with | [_], _ => rfl
theorem F_is_letter (T : Txt K mg) : FunD K "is_letter" "is_letter" (defArgs s_is_letter) (defBody s_is_letter) (defScope s_is_letter) (d_is_letter.dvs K) [] (He.fAd K ("is_letter", none)) (fdF K ("is_letter", none)) := funD_fd (T.c.def_ 1 (d := d_is_letter) rfl)
theorem kp_is_letter (T : Txt K mg) : PySem.W.keepIn K (.ref (He.fAd K ("is_letter", none))) = true := (F_is_letter T).kp
theorem sc_is_letter : FnScope ["thing", "some"] ["thing", "some"] (defScope s_is_letter) := ⟨rfl, rfl, rfl, by decide +kernel, rfl, by decide +kernel, by decide +kernel⟩
theorem b_is_letter_1 (T : Txt K mg) : ∃ ds, Vals [V.str "abcdefghijklmnopqrstuvwxyz"] ds ∧ Binds K (fdF K ("is_letter", none)) ["thing", "some"] ds := FunD.binds1 (F_is_letter T) 1 0 (by simp [d_is_letter, He.DefD.dvs]) rfl fun _ _ _ _ _ _ _ us its h1 h2 => match us, its, h1, h2 with | [_], [_], _, _ => ⟨_, rfl, rfl⟩
theorem b_is_letter (T : Txt K mg) : Binds K (fdF K ("is_letter", none)) ["thing", "some"] [] := funD_bindsD (F_is_letter T) (by simp [d_is_letter, He.DefD.dvs]) fun _ _ _ _ _ _ _ us hl => match us, hl with | [_, _], _ => ⟨_, rfl, fun its hl => match its, hl with | [_], _ => rfl⟩
theorem F_need_kinds (T : Txt K mg) : FunD K "need_kinds" "need_kinds" (defArgs s_need_kinds) (defBody s_need_kinds) (defScope s_need_kinds) (d_need_kinds.dvs K) [] (He.fAd K ("need_kinds", none)) (fdF K ("need_kinds", none)) := funD_fd (T.c.def_ 2 (d := d_need_kinds) rfl)
theorem kp_need_kinds (T : Txt K mg) : PySem.W.keepIn K (.ref (He.fAd K ("need_kinds", none))) = true := (F_need_kinds T).kp
theorem sc_need_kinds : FnScope ["kinds", "one", "other", "sign"] ["kinds"] (defScope s_need_kinds) := ⟨rfl, rfl, rfl, by decide +kernel, rfl, by decide +kernel, by decide +kernel⟩
theorem b_need_kinds (T : Txt K mg) : Binds K (fdF K ("need_kinds", none)) ["kinds"] [] := FunD.bindsN (F_need_kinds T) fun _ _ _ _ _ _ us hl => match us, hl with | [_], _ => rfl
theorem F_is_happening (T : Txt K mg) : FunD K "is_happening" "is_happening" (defArgs s_is_happening) (defBody s_is_happening) (defScope s_is_happening) (d_is_happening.dvs K) [] (He.fAd K ("is_happening", none)) (fdF K ("is_happening", none)) := funD_fd (T.c.def_ 3 (d := d_is_happening) rfl)
theorem kp_is_happening (T : Txt K mg) : PySem.W.keepIn K (.ref (He.fAd K ("is_happening", none))) = true := (F_is_happening T).kp
theorem sc_is_happening : FnScope ["kinds", "thing"] ["kinds", "thing"] (defScope s_is_happening) := ⟨rfl, rfl, rfl, by decide +kernel, rfl, by decide +kernel, by decide +kernel⟩
theorem b_is_happening (T : Txt K mg) : Binds K (fdF K ("is_happening", none)) ["kinds", "thing"] [] := FunD.bindsN (F_is_happening T) fun _ _ _ _ _ _ us hl => match us, hl with | [_, _], _ => rfl
theorem F_need_row (T : Txt K mg) : FunD K "need_row" "need_row" (defArgs s_need_row) (defBody s_need_row) (defScope s_need_row) (d_need_row.dvs K) [] (He.fAd K ("need_row", none)) (fdF K ("need_row", none)) := funD_fd (T.c.def_ 4 (d := d_need_row) rfl)
theorem kp_need_row (T : Txt K mg) : PySem.W.keepIn K (.ref (He.fAd K ("need_row", none))) = true := (F_need_row T).kp
theorem sc_need_row : FnScope ["kinds", "row", "at", "thing"] ["kinds", "row"] (defScope s_need_row) := ⟨rfl, rfl, rfl, by decide +kernel, rfl, by decide +kernel, by decide +kernel⟩
theorem b_need_row (T : Txt K mg) : Binds K (fdF K ("need_row", none)) ["kinds", "row"] [] := FunD.bindsN (F_need_row T) fun _ _ _ _ _ _ us hl => match us, hl with | [_, _], _ => rfl
theorem F_numbered (T : Txt K mg) : FunD K "numbered" "numbered" (defArgs s_numbered) (defBody s_numbered) (defScope s_numbered) (d_numbered.dvs K) [] (He.fAd K ("numbered", none)) (fdF K ("numbered", none)) := funD_fd (T.c.def_ 5 (d := d_numbered) rfl)
theorem kp_numbered (T : Txt K mg) : PySem.W.keepIn K (.ref (He.fAd K ("numbered", none))) = true := (F_numbered T).kp
theorem sc_numbered : FnScope ["row", "numbers", "found", "kind", "name"] ["row"] (defScope s_numbered) := ⟨rfl, rfl, rfl, by decide +kernel, rfl, by decide +kernel, by decide +kernel⟩
theorem b_numbered (T : Txt K mg) : Binds K (fdF K ("numbered", none)) ["row"] [] := FunD.bindsN (F_numbered T) fun _ _ _ _ _ _ us hl => match us, hl with | [_], _ => rfl
theorem F_plain (T : Txt K mg) : FunD K "plain" "plain" (defArgs s_plain) (defBody s_plain) (defScope s_plain) (d_plain.dvs K) [] (He.fAd K ("plain", none)) (fdF K ("plain", none)) := funD_fd (T.c.def_ 6 (d := d_plain) rfl)
theorem kp_plain (T : Txt K mg) : PySem.W.keepIn K (.ref (He.fAd K ("plain", none))) = true := (F_plain T).kp
theorem sc_plain : FnScope ["kinds", "row"] ["kinds", "row"] (defScope s_plain) := ⟨rfl, rfl, rfl, by decide +kernel, rfl, by decide +kernel, by decide +kernel⟩
theorem b_plain (T : Txt K mg) : Binds K (fdF K ("plain", none)) ["kinds", "row"] [] := FunD.bindsN (F_plain T) fun _ _ _ _ _ _ us hl => match us, hl with | [_, _], _ => rfl
theorem F__law_bag (T : Txt K mg) : FunD K "_law_bag" "_law_bag" (defArgs s__law_bag) (defBody s__law_bag) (defScope s__law_bag) (d__law_bag.dvs K) [] (He.fAd K ("_law_bag", none)) (fdF K ("_law_bag", none)) := funD_fd (T.c.def_ 7 (d := d__law_bag) rfl)
theorem kp__law_bag (T : Txt K mg) : PySem.W.keepIn K (.ref (He.fAd K ("_law_bag", none))) = true := (F__law_bag T).kp
theorem sc__law_bag : FnScope ["_law_script"] ["_law_script"] (defScope s__law_bag) := ⟨rfl, rfl, rfl, by decide +kernel, rfl, by decide +kernel, by decide +kernel⟩
theorem b__law_bag (T : Txt K mg) : Binds K (fdF K ("_law_bag", none)) ["_law_script"] [] := FunD.bindsN (F__law_bag T) fun _ _ _ _ _ _ us hl => match us, hl with | [_], _ => rfl
theorem F__law_pick (T : Txt K mg) : FunD K "_law_pick" "_law_pick" (defArgs s__law_pick) (defBody s__law_pick) (defScope s__law_pick) (d__law_pick.dvs K) [] (He.fAd K ("_law_pick", none)) (fdF K ("_law_pick", none)) := funD_fd (T.c.def_ 8 (d := d__law_pick) rfl)
theorem kp__law_pick (T : Txt K mg) : PySem.W.keepIn K (.ref (He.fAd K ("_law_pick", none))) = true := (F__law_pick T).kp
theorem sc__law_pick : FnScope ["_law_bag_here", "_law_top", "_law_cell", "_law_digit"] ["_law_bag_here", "_law_top"] (defScope s__law_pick) := ⟨rfl, rfl, rfl, by decide +kernel, rfl, by decide +kernel, by decide +kernel⟩
theorem b__law_pick (T : Txt K mg) : Binds K (fdF K ("_law_pick", none)) ["_law_bag_here", "_law_top"] [] := FunD.bindsN (F__law_pick T) fun _ _ _ _ _ _ us hl => match us, hl with | [_, _], _ => rfl
theorem F__law_of (T : Txt K mg) : FunD K "_law_of" "_law_of" (defArgs s__law_of) (defBody s__law_of) (defScope s__law_of) (d__law_of.dvs K) [] (He.fAd K ("_law_of", none)) (fdF K ("_law_of", none)) := funD_fd (T.c.def_ 9 (d := d__law_of) rfl)
theorem kp__law_of (T : Txt K mg) : PySem.W.keepIn K (.ref (He.fAd K ("_law_of", none))) = true := (F__law_of T).kp
theorem sc__law_of : FnScope ["_law_bag_here", "_law_some"] ["_law_bag_here", "_law_some"] (defScope s__law_of) := ⟨rfl, rfl, rfl, by decide +kernel, rfl, by decide +kernel, by decide +kernel⟩
theorem b__law_of (T : Txt K mg) : Binds K (fdF K ("_law_of", none)) ["_law_bag_here", "_law_some"] [] := FunD.bindsN (F__law_of T) fun _ _ _ _ _ _ us hl => match us, hl with | [_, _], _ => rfl
theorem F__law_shuffled (T : Txt K mg) : FunD K "_law_shuffled" "_law_shuffled" (defArgs s__law_shuffled) (defBody s__law_shuffled) (defScope s__law_shuffled) (d__law_shuffled.dvs K) [] (He.fAd K ("_law_shuffled", none)) (fdF K ("_law_shuffled", none)) := funD_fd (T.c.def_ 10 (d := d__law_shuffled) rfl)
theorem kp__law_shuffled (T : Txt K mg) : PySem.W.keepIn K (.ref (He.fAd K ("_law_shuffled", none))) = true := (F__law_shuffled T).kp
theorem sc__law_shuffled : FnScope ["_law_bag_here", "_law_some", "_law_left", "_law_found", "_law_step"] ["_law_bag_here", "_law_some"] (defScope s__law_shuffled) := ⟨rfl, rfl, rfl, by decide +kernel, rfl, by decide +kernel, by decide +kernel⟩
theorem b__law_shuffled (T : Txt K mg) : Binds K (fdF K ("_law_shuffled", none)) ["_law_bag_here", "_law_some"] [] := FunD.bindsN (F__law_shuffled T) fun _ _ _ _ _ _ us hl => match us, hl with | [_, _], _ => rfl
theorem F__law_same (T : Txt K mg) : FunD K "_law_same" "_law_same" (defArgs s__law_same) (defBody s__law_same) (defScope s__law_same) (d__law_same.dvs K) [] (He.fAd K ("_law_same", none)) (fdF K ("_law_same", none)) := funD_fd (T.c.def_ 11 (d := d__law_same) rfl)
theorem kp__law_same (T : Txt K mg) : PySem.W.keepIn K (.ref (He.fAd K ("_law_same", none))) = true := (F__law_same T).kp
theorem sc__law_same : FnScope ["_law_found", "_law_due", "_law_spot"] ["_law_found", "_law_due"] (defScope s__law_same) := ⟨rfl, rfl, rfl, by decide +kernel, rfl, by decide +kernel, by decide +kernel⟩
theorem b__law_same (T : Txt K mg) : Binds K (fdF K ("_law_same", none)) ["_law_found", "_law_due"] [] := FunD.bindsN (F__law_same T) fun _ _ _ _ _ _ us hl => match us, hl with | [_, _], _ => rfl
theorem F__law_signs (T : Txt K mg) : FunD K "_law_signs" "_law_signs" (defArgs s__law_signs) (defBody s__law_signs) (defScope s__law_signs) (d__law_signs.dvs K) [] (He.fAd K ("_law_signs", none)) (fdF K ("_law_signs", none)) := funD_fd (T.c.def_ 12 (d := d__law_signs) rfl)
theorem kp__law_signs (T : Txt K mg) : PySem.W.keepIn K (.ref (He.fAd K ("_law_signs", none))) = true := (F__law_signs T).kp
theorem sc__law_signs : FnScope ["_law_bag_here", "_law_cap", "_law_left"] ["_law_bag_here", "_law_cap"] (defScope s__law_signs) := ⟨rfl, rfl, rfl, by decide +kernel, rfl, by decide +kernel, by decide +kernel⟩
theorem b__law_signs (T : Txt K mg) : Binds K (fdF K ("_law_signs", none)) ["_law_bag_here", "_law_cap"] [] := FunD.bindsN (F__law_signs T) fun _ _ _ _ _ _ us hl => match us, hl with | [_, _], _ => rfl
theorem F__law_names (T : Txt K mg) : FunD K "_law_names" "_law_names" (defArgs s__law_names) (defBody s__law_names) (defScope s__law_names) (d__law_names.dvs K) [] (He.fAd K ("_law_names", none)) (fdF K ("_law_names", none)) := funD_fd (T.c.def_ 13 (d := d__law_names) rfl)
theorem kp__law_names (T : Txt K mg) : PySem.W.keepIn K (.ref (He.fAd K ("_law_names", none))) = true := (F__law_names T).kp
theorem sc__law_names : FnScope ["_law_bag_here", "_law_many", "_law_base", "_law_step", "_law_k"] ["_law_bag_here", "_law_many"] (defScope s__law_names) := ⟨rfl, rfl, rfl, by decide +kernel, rfl, by decide +kernel, by decide +kernel⟩
theorem b__law_names (T : Txt K mg) : Binds K (fdF K ("_law_names", none)) ["_law_bag_here", "_law_many"] [] := FunD.bindsN (F__law_names T) fun _ _ _ _ _ _ us hl => match us, hl with | [_, _], _ => rfl
theorem F__law_row (T : Txt K mg) : FunD K "_law_row" "_law_row" (defArgs s__law_row) (defBody s__law_row) (defScope s__law_row) (d__law_row.dvs K) [] (He.fAd K ("_law_row", none)) (fdF K ("_law_row", none)) := funD_fd (T.c.def_ 14 (d := d__law_row) rfl)
theorem kp__law_row (T : Txt K mg) : PySem.W.keepIn K (.ref (He.fAd K ("_law_row", none))) = true := (F__law_row T).kp
theorem sc__law_row : FnScope ["_law_bag_here", "_law_kinds", "_law_cap", "_law_pool", "_law_k"] ["_law_bag_here", "_law_kinds", "_law_cap"] (defScope s__law_row) := ⟨rfl, rfl, rfl, by decide +kernel, rfl, by decide +kernel, by decide +kernel⟩
theorem b__law_row (T : Txt K mg) : Binds K (fdF K ("_law_row", none)) ["_law_bag_here", "_law_kinds", "_law_cap"] [] := FunD.bindsN (F__law_row T) fun _ _ _ _ _ _ us hl => match us, hl with | [_, _, _], _ => rfl
theorem F__law_plain (T : Txt K mg) : FunD K "_law_plain" "_law_plain" (defArgs s__law_plain) (defBody s__law_plain) (defScope s__law_plain) (d__law_plain.dvs K) [] (He.fAd K ("_law_plain", none)) (fdF K ("_law_plain", none)) := funD_fd (T.c.def_ 15 (d := d__law_plain) rfl)
theorem kp__law_plain (T : Txt K mg) : PySem.W.keepIn K (.ref (He.fAd K ("_law_plain", none))) = true := (F__law_plain T).kp
theorem sc__law_plain : FnScope ["_law_seq", "_law_pool", "_law_found", "_law_kind", "_law_name"] ["_law_seq"] (defScope s__law_plain) := ⟨rfl, rfl, rfl, by decide +kernel, rfl, by decide +kernel, by decide +kernel⟩
theorem b__law_plain (T : Txt K mg) : Binds K (fdF K ("_law_plain", none)) ["_law_seq"] [] := FunD.bindsN (F__law_plain T) fun _ _ _ _ _ _ us hl => match us, hl with | [_], _ => rfl
theorem F_law (T : Txt K mg) : FunD K "law" "law" (defArgs s_law) (defBody s_law) (defScope s_law) (d_law.dvs K) [] (He.fAd K ("law", none)) (fdF K ("law", none)) := funD_fd (T.c.def_ 16 (d := d_law) rfl)
theorem kp_law (T : Txt K mg) : PySem.W.keepIn K (.ref (He.fAd K ("law", none))) = true := (F_law T).kp
theorem sc_law : FnScope ["_law_script", "_law_bag_here", "_law_turn", "_law_kinds", "_law_row_here", "_law_handed", "_law_step", "_law_found"] ["_law_script"] (defScope s_law) := ⟨rfl, rfl, rfl, by decide +kernel, rfl, by decide +kernel, by decide +kernel⟩
theorem b_law (T : Txt K mg) : Binds K (fdF K ("law", none)) ["_law_script"] [] := FunD.bindsN (F_law T) fun _ _ _ _ _ _ us hl => match us, hl with | [_], _ => rfl
/-! ### is_number -/
def isNumD : PyData → Bool
  | .int _ => true
  | _ => false
def sp_is_number (K : PySem.W.Frag) : Sp := fun vs H Q _ => ∃ (v : V) (d : PyData), vs = [v] ∧ Dp K H v d ∧ Q (.bl (isNumD d)) H
theorem ok_is_number (T : Txt K mg) : FnOk P w K mg base (L2.CX P w) 1 (He.fAd K ("is_number", none)) (fdF K ("is_number", none)) ["thing"] (sp_is_number K) := by
  refine (F_is_number T).ok (k := 0) sc_is_number (fun vs H Q E h => by obtain ⟨_, _, rfl, _⟩ := h; rfl) (fun cdv A outer s H vs Q E hr h => ?_)
  refine ⟨_, (pss_one (ps_ret (pe_and (pe_callB call_isi (by rfl) (fr_isinstance T) (by decide +kernel) (pa_cons (pv 0) (pa_cons (pe_bty (n := "int") (by rfl) (fr_int T) (by decide +kernel)) pa_nil))) (pe_one (pe_not (pe_callB call_isi (by rfl) (fr_isinstance T) (by decide +kernel) (pa_cons (pv 0) (pa_cons (pe_bty (n := "bool") (by rfl) (fr_bool T) (by decide +kernel)) pa_nil)))))))), ?_⟩
  obtain ⟨v, d, rfl, hd, k⟩ := h
  cases d <;> (walk_at "B"; exact k)
/-! ### is_letter -/
def isLetD (z : Str) : PyData → Bool
  | .str x => (match x.cps.toList with | [c] => decide (c ∈ z.cps.toList) | _ => false)
  | _ => false
/-- texts that are not too long -/
def StrOk (d : PyData) : Prop := ∀ x, d = .str x → x.length ≤ sizeLine
def sp_is_letter (K : PySem.W.Frag) : Sp := fun vs H Q _ => ∃ (v : V) (d : PyData) (z : Str), vs = [v, .str z] ∧ Dp K H v d ∧ StrOk d ∧ Q (.bl (isLetD z d)) H
theorem ok_is_letter (T : Txt K mg) : FnOk P w K mg base (L2.CX P w) 1 (He.fAd K ("is_letter", none)) (fdF K ("is_letter", none)) ["thing", "some"] (sp_is_letter K) := by
  refine (F_is_letter T).ok (k := 0) sc_is_letter (fun vs H Q E h => by obtain ⟨_, _, _, rfl, _⟩ := h; rfl) (fun cdv A outer s H vs Q E hr h => ?_)
  refine ⟨_, (pss_one (ps_ret (pe_and (pe_callB call_isi (by rfl) (fr_isinstance T) (by decide +kernel) (pa_cons (pv 0) (pa_cons (pe_bty (n := "str") (by rfl) (fr_str T) (by decide +kernel)) pa_nil))) (pe_and (pe_cmpR op_eq (pe_callB call_lenStr (by rfl) (fr_len T) (by decide +kernel) (pa_cons (pv 0) pa_nil)) pe_int (nomark _)) (pe_one (pe_cmpR op_inSign (pv 0) (pv 1) (by rfl))))))), ?_⟩
  obtain ⟨v, d, z, rfl, hd, ok, k⟩ := h
  walk_at "B"
  cases d with
  | str x =>
    have e := Dp.strI hd
    subst e
    obtain ⟨⟨l⟩⟩ := x
    walk_at "S"
    refine w_lenStr (ok _ rfl) ?_
    walk_at "S"
    match l, k with
    | [], k => exact k
    | [c], k =>
      refine iteT ?_
      walk_at "S"
      exact k
    | c0 :: c1 :: r, k =>
      have e : (decide (V.int (((⟨⟨c0 :: c1 :: r⟩⟩ : Str).length : Nat) : Int) = V.int 1)) = false := by
        refine decide_eq_false fun q => ?_
        injection q with q
        simp [Str.length] at q
        omega
      rw [e]
      walk_at "S"
      exact k
  | _ => walk_at "S"; exact k
/-! ### need_kinds -/
def sp_need_kinds (K : PySem.W.Frag) : Sp := fun vs H Q _ => ∃ cs : List Nat, vs = [.str (ofL cs)] ∧ GoodL cs ∧ ∀ H', Same H H' → Q .non H'
theorem ok_need_kinds (T : Txt K mg) : FnOk P w K mg base (L2.CX P w) 1 (He.fAd K ("need_kinds", none)) (fdF K ("need_kinds", none)) ["kinds"] (sp_need_kinds K) := by
  refine (F_need_kinds T).ok (k := 0) sc_need_kinds (fun vs H Q E h => by obtain ⟨_, rfl, _⟩ := h; rfl) (fun cdv A outer s H vs Q E hr h => ?_)
  refine ⟨_, (pss_cons (ps_if (PW.pt (pw_or (pt_not (pt_chain op_le op_le pe_int (pe_callB call_lenStr (by rfl) (fr_len T) (by decide +kernel) (pa_cons (pv 0) pa_nil)) (pe_gv (gv_MOST_KINDS T) rfl))) (pw_or1 (pt_not (pt_val (pe_callB (cr_all (by rfl)) (by rfl) (fr_all T) (by decide +kernel) (pa_cons (pe_lc (own := [("sign", 3)]) (g := (gName 3)) (tt := tYes)  (by rfl) sc_need_kinds.nd (pi_str (pv 0)) (blkOk_by (own := [("sign", 3)]) (N := ["kinds", "one", "other", "sign"]) (sc := defScope s_need_kinds) (by decide +kernel)) (fun _ _ _ _ _ => (pg_name (i := 3) sc_need_kinds.nd rfl (by first | exact Or.inl rfl | exact Or.inr rfl))) (fun _ _ _ _ _ => pts_nil) (fun _ _ _ _ _ => (pe_cmpR op_inSign (pv 3) (pe_gv (gv_LETTERS T) rfl) (by rfl)))) pa_nil))))))) (pss_one ps_never) pss_nil)
    (pss_one (ps_if (pt_val (pe_callB (cr_any (by rfl)) (by rfl) (fr_any T) (by decide +kernel) (pa_cons (pe_lc (own := [("one", 1), ("other", 2)]) (g := (gTup K 2 (gCons (gName 1) (gCons (gName 2) gNil)))) (tt := tYes)  (by rfl) sc_need_kinds.nd (pi_zipS (by rfl) (fr_zip T) (pa_cons (pv 0) (pa_cons (pe_slice sl_str (pv 0) (po_some pe_int) po_none) pa_nil))) (blkOk_by (own := [("one", 1), ("other", 2)]) (N := ["kinds", "one", "other", "sign"]) (sc := defScope s_need_kinds) (by decide +kernel)) (fun _ _ _ _ _ => (pg_tup (by rfl) (pgs_cons (pg_name (i := 1) sc_need_kinds.nd rfl (by first | exact Or.inl rfl | exact Or.inr rfl)) (pgs_cons (pg_name (i := 2) sc_need_kinds.nd rfl (by first | exact Or.inl rfl | exact Or.inr rfl)) pgs_nil)))) (fun _ _ _ _ _ => pts_nil) (fun _ _ _ _ _ => (pe_cmpR op_geStr (pv 1) (pv 2) (nomark _)))) pa_nil))) (pss_one ps_never) pss_nil))), ?_⟩
  obtain ⟨cs, rfl, hc, k⟩ := h
  have h1 := hc.one
  have h4 := hc.four
  have hz : (ofL cs).length ≤ sizeLine := Nat.le_trans (show (ofL cs).length ≤ 4 by simpa [ofL, Str.length] using h4) (by decide)
  have e1 : decide ((1 : Int) ≤ ((ofL cs).length : Nat)) = true := decide_eq_true (by simp [ofL, Str.length]; omega)
  have e4 : decide ((((ofL cs).length : Nat) : Int) ≤ 4) = true := decide_eq_true (by simp [ofL, Str.length]; omega)
  walk_at "B"
  refine w_lenStr hz ?_
  walk_at "S"
  rw [e1]
  walk_at "S"
  rw [e4]
  walk_at "S"
  have es : (cs.map fun c => V.bl (decide (c ∈ LET))) = (cs.map fun c => decide (c ∈ LET)).map V.bl := by simp
  have e5 : (cs.map fun c => decide (c ∈ LET)).all id = true := by simp; exact hc.lets
  have sz4 : (ofL cs).cps.size ≤ 4 := by rw [size_ofL]; exact h4
  refine lc_map (ys := cs.map fun c => V.bl (decide (c ∈ LET))) walk_str (by rw [size_ofL, List.length_map]) (Nat.le_trans sz4 (by decide)) (fun _ _ => trivial) ystr_same ?_ ?_
  · rintro i x H1 H2 N hi s1 ⟨rfl, c, hc1, rfl⟩ hN
    rw [get_ofL] at hc1
    walk_at "S"
    refine ⟨rfl, ?_⟩
    walk_at "S"
    exact hN _ _ (by rw [let_eq, List.getElem?_map, hc1]; rfl) (Same.refl _)
  · intro D1 H1 hD s1 hD1
    rw [es] at hD1
    walk_at "S"
    refine w_all (SqL.of hD1) ?_
    rw [e5]
    walk_at "S"
    refine w_slS hz ?_
    rw [show ((1 : Int)) = ((1 : Nat) : Int) from rfl, cutS_from]
    walk_at "S"
    refine ⟨_, _, rfl, ?_⟩
    have szm : min (ofL cs).cps.size (ofL (cs.drop 1)).cps.size = cs.length - 1 := by
      rw [size_ofL, size_ofL, List.length_drop]; omega
    refine lc_map (ys := List.replicate (cs.length - 1) (V.bl false)) walk_zipS (by rw [List.length_replicate, szm]) (Nat.le_trans (show _ ≤ 4 by rw [szm]; omega) (by decide)) (fun _ _ => trivial) ypair_same ?_ ?_
    · rintro i x H2 H3 N hi s2 ⟨t, a, b, rfl, ht, e3, ea, eb⟩ hN
      have hT : H3 t = some (.tup [a, b]) := by rw [e3]; exact upd_same
      dsimp only at ea eb
      rw [get_ofL] at ea eb
      rw [szm] at hi
      rw [List.getElem?_drop] at eb
      have e1 : cs[i]? = some cs[i] := List.getElem?_eq_getElem (by omega)
      have e2 : cs[1 + i]? = some cs[1 + i] := List.getElem?_eq_getElem (by omega)
      rw [e1] at ea
      rw [e2] at eb
      cases ea
      cases eb
      walk_at "S"
      refine ⟨rfl, ?_⟩
      walk_at "S"
      refine hN _ _ ?_ (Same.refl _)
      have lt : cs[i] < cs[1 + i] := List.pairwise_iff_getElem.mp hc.rise i (1 + i) (by omega) (by omega) (by omega)
      have e3 : decide (([cs[i]] : List Nat) < [cs[1 + i]]) = true := decide_eq_true (single_lt.mpr lt)
      rw [List.getElem?_replicate, if_pos hi]
      show some (V.bl false) = some (V.bl (!decide (([cs[i]] : List Nat) < [cs[1 + i]])))
      rw [e3]
      rfl
    · intro D2 H2 hD2 s2 hD2'
      rw [show List.replicate (cs.length - 1) (V.bl false) = (List.replicate (cs.length - 1) false).map V.bl by simp] at hD2'
      walk_at "S"
      refine w_any (SqL.of hD2') ?_
      rw [show (List.replicate (cs.length - 1) false).any id = false by simp]
      walk_at "S"
      exact k _ (s1.trans s2)
/-! ### is_happening -/
def nnD : PyData → Bool
  | .int i => decide (0 ≤ i)
  | _ => false
def isHapD (z : Str) : PyData → Bool
  | .tuple [k, n] => isLetD z k && (isNumD n && nnD n)
  | _ => false
def HapOk : PyData → Prop
  | .tuple [k, _] => StrOk k
  | _ => True
def sp_is_happening (K : PySem.W.Frag) : Sp := fun vs H Q _ => ∃ (v : V) (d : PyData) (z : Str), vs = [.str z, v] ∧ Dp K H v d ∧ HapOk d ∧ Q (.bl (isHapD z d)) H
theorem ok_is_happening (T : Txt K mg) : FnOk P w K mg base (L2.CX P w) 2 (He.fAd K ("is_happening", none)) (fdF K ("is_happening", none)) ["kinds", "thing"] (sp_is_happening K) := by
  refine (F_is_happening T).ok (k := 1) sc_is_happening (fun vs H Q E h => by obtain ⟨_, _, _, rfl, _⟩ := h; rfl) (fun cdv A outer s H vs Q E hr h => ?_)
  refine ⟨_, (pss_cons (ps_if (PW.pt (pw_or (pt_not (pt_val (pe_callB call_isi (by rfl) (fr_isinstance T) (by decide +kernel) (pa_cons (pv 1) (pa_cons (pe_bty (n := "tuple") (by rfl) (fr_tuple T) (by decide +kernel)) pa_nil))))) (pw_or1 (pt_cmpR op_ne (pe_callB call_lenS (by rfl) (fr_len T) (by decide +kernel) (pa_cons (pv 1) pa_nil)) pe_int (nomark _))))) (pss_one (ps_ret pe_bl)) pss_nil)
    (pss_one (ps_ret (pe_and (pe_call (ok_is_letter T) (hr.mono (by first | decide | omega)) (by rfl) (g_is_letter T) (kp_is_letter T) (b_is_letter T) .nil (passes_call (takes_of rfl rfl rfl rfl) (fun _ _ _ _ h => h)) (pa_cons (pe_ix ix_tup (pv 1) pe_int (fun _ _ => rfl)) (pa_cons (pv 0) pa_nil))) (pe_and (pe_call (ok_is_number T) (hr.mono (by first | decide | omega)) (by rfl) (g_is_number T) (kp_is_number T) (b_is_number T) .nil (passes_call (takes_of rfl rfl rfl rfl) (fun _ _ _ _ h => h)) (pa_cons (pe_ix ix_tup (pv 1) pe_int (fun _ _ => rfl)) pa_nil)) (pe_one (pe_cmpR op_ge (pe_ix ix_tup (pv 1) pe_int (fun _ _ => rfl)) pe_int (nomark _)))))))), ?_⟩
  obtain ⟨v, d, z, rfl, hd, ok, k⟩ := h
  cases d with
  | tuple ds =>
    obtain ⟨a, xs, rfl, ha, hx⟩ := Dp.tupI hd
    have hl := DpAll.len hx
    walk_at "B"
    refine w_lenT ha ?_
    walk_at "S"
    by_cases e2 : ds.length = 2
    · rw [show decide (V.int (xs.length : Int) = V.int 2) = true from decide_eq_true (by rw [hl, e2]; rfl)]
      walk_at "S"
      obtain ⟨kd, nd, rfl⟩ : ∃ kd nd, ds = [kd, nd] := by
        match ds, e2 with
        | [kd, nd], _ => exact ⟨kd, nd, rfl⟩
      cases hx with
      | @cons vk vr _ _ hk hx =>
      cases hx with
      | @cons vn _ _ _ hn hx =>
      cases hx
      walk_at "S"
      refine w_ixT ha (show atI [vk, vn] ((0 : Nat) : Int) = some vk from atI_nat rfl) ?_
      walk_at "S"
      refine ⟨vk, kd, z, rfl, hk, ok, ?_⟩
      have k' : Q (.bl (isLetD z kd && (isNumD nd && nnD nd))) H := k
      walk_at "S"
      refine w_iteB (fun c => ?_) (fun c => ?_)
      · rw [c, Bool.true_and] at k'
        walk_at "S"
        refine w_ixT ha (show atI [vk, vn] ((1 : Nat) : Int) = some vn from atI_nat rfl) ?_
        walk_at "S"
        refine ⟨vn, nd, rfl, hn, ?_⟩
        walk_at "S"
        cases nd with
        | int i =>
          cases Dp.intI hn
          refine iteT ?_
          walk_at "S"
          refine w_ixT ha (show atI [vk, V.int i] ((1 : Nat) : Int) = some (V.int i) from atI_nat rfl) ?_
          walk_at "S"
          exact k'
        | _ => exact iteF k'
      · rw [c, Bool.false_and] at k'
        exact k'
    · rw [show decide (V.int (xs.length : Int) = V.int 2) = false from decide_eq_false (by intro q; injection q with q; omega)]
      walk_at "S"
      have e : isHapD z (.tuple ds) = false := by
        match ds, e2 with
        | [], _ => rfl
        | [_], _ => rfl
        | _ :: _ :: _ :: _, _ => rfl
      rw [e] at k
      exact k
  | _ => walk_at "B"; exact k
/-! ### need_row -/
def sp_need_row (K : PySem.W.Frag) : Sp := fun vs H Q _ => ∃ (cs : List Nat) (v : V) (r : Row), vs = [.str (ofL cs), v] ∧ Dp K H v (rowD r) ∧ GoodR cs r ∧ ∀ H', Same H H' → Q .non H'
theorem goodR_hap {cs : List Nat} {r : Row} (h : GoodR cs r) {p : Str × Int} (hp : p ∈ r) : isHapD (ofL cs) (hapD p) = true ∧ HapOk (hapD p) := by
  obtain ⟨c, hc, e⟩ := h.kind p hp
  have hn := h.name p hp
  obtain ⟨k, n⟩ := p
  dsimp only at e hn
  subst e
  refine ⟨?_, ?_⟩
  · show (decide (c ∈ (ofL cs).cps.toList) && (true && decide (0 ≤ n))) = true
    rw [toL_ofL, decide_eq_true hc, decide_eq_true hn]
    rfl
  · intro x e
    cases e
    show 1 ≤ sizeLine
    decide
theorem ok_need_row (T : Txt K mg) : FnOk P w K mg base (L2.CX P w) 3 (He.fAd K ("need_row", none)) (fdF K ("need_row", none)) ["kinds", "row"] (sp_need_row K) := by
  refine (F_need_row T).ok (k := 2) sc_need_row (fun vs H Q E h => by obtain ⟨_, _, _, rfl, _⟩ := h; rfl) (fun cdv A outer s H vs Q E hr h => ?_)
  refine ⟨_, (pss_cons (ps_if (pt_cmpR op_gt (pe_callB call_lenS (by rfl) (fr_len T) (by decide +kernel) (pa_cons (pv 1) pa_nil)) (pe_gv (gv_MOST_ROW T) rfl) (nomark _)) (pss_one ps_never) pss_nil)
    (pss_one (ps_for (passes_of rfl) (by rfl) (pi_enum (by rfl) (fr_enumerate T) (pa_cons (pv 1) pa_nil)) (pg_tup (by rfl) (pgs_cons (pg_name (i := 2) sc_need_row.nd rfl (by first | exact Or.inl rfl | exact Or.inr rfl)) (pgs_cons (pg_name (i := 3) sc_need_row.nd rfl (by first | exact Or.inl rfl | exact Or.inr rfl)) pgs_nil))) (pss_one (ps_if (pt_not (pt_val (pe_call (ok_is_happening T) (hr.mono (by first | decide | omega)) (by rfl) (g_is_happening T) (kp_is_happening T) (b_is_happening T) .nil (passes_call (takes_of rfl rfl rfl rfl) (fun _ _ _ _ h => h)) (pa_cons (pv 0) (pa_cons (pv 3) pa_nil))))) (pss_one ps_never) pss_nil))))), ?_⟩
  obtain ⟨cs, v, r, rfl, hd, hg, k⟩ := h
  obtain ⟨a, xs, rfl, ha, hx⟩ := Dp.lstI hd
  have hl := DpAll.len hx
  rw [List.length_map] at hl
  have h40 := hg.len
  walk_at "B"
  rw [show decide ((40 : Int) < (xs.length : Int)) = false from decide_eq_false (by omega)]
  walk_at "S"
  refine for_inv walk_enum (fun i σ H' => ∃ (s1 s2 : Option V), σ = [some (.str (ofL cs)), some (.ref a), s1, s2] ∧ Same H H') ⟨none, none, rfl, Same.refl _⟩ (fun i σ H' _ ⟨_, _, _, s⟩ => s.seq ha) ?_ ?_
  · rintro i x σ H1 H2 hi ⟨v1, v2, rfl, s1⟩ ⟨t, x1, x2, rfl, ht, e2, ex1, ex2⟩
    have hT : H2 t = some (.tup [x1, x2]) := by rw [e2]; exact upd_same
    have s2 : Same H H2 := by rw [e2]; exact s1.trans (same_new ht)
    obtain ⟨d, hdi, hdx⟩ := DpAll.get (Same.dpAll s2 hx) ex2
    rw [List.getElem?_map] at hdi
    obtain ⟨p, hp, rfl⟩ := Option.map_eq_some_iff.mp hdi
    obtain ⟨g1, g2⟩ := goodR_hap hg (List.mem_of_getElem? hp)
    walk_at "S"
    refine ⟨_, _, _, rfl, hdx, g2, ?_⟩
    rw [g1]
    walk_at "S"
    exact ⟨_, _, rfl, s2⟩
  · rintro σ H1 ⟨v1, v2, rfl, s1⟩
    exact k _ s1
/-! ### numbered -/
/-- a new list of a row's happenings -/
def NewRow (K : PySem.W.Frag) (H : Hp) (r : Row) (Q : VK) : Prop := ∀ p H' xs, H p = none → Same H H' → H' p = some (.lst xs) → DpAll K H' xs (r.map hapD) → Q (.ref p) H'
def sp_numbered (K : PySem.W.Frag) : Sp := fun vs H Q _ => ∃ (v : V) (r : Row), vs = [v] ∧ Dp K H v (rowD r) ∧ r.length ≤ 1000 ∧ NewRow K H (plainR r) Q
theorem ok_numbered (T : Txt K mg) : FnOk P w K mg base (L2.CX P w) 1 (He.fAd K ("numbered", none)) (fdF K ("numbered", none)) ["row"] (sp_numbered K) := by
  refine (F_numbered T).ok (k := 0) sc_numbered (fun vs H Q E h => by obtain ⟨_, _, rfl, _⟩ := h; rfl) (fun cdv A outer s H vs Q E hr h => ?_)
  refine ⟨_, (pss_cons (ps_set (i := 1) sc_numbered.nd rfl (by first | exact Or.inl rfl | exact Or.inr rfl) (pe_dnewK))
    (pss_cons (ps_set (i := 2) sc_numbered.nd rfl (by first | exact Or.inl rfl | exact Or.inr rfl) (pe_lst pa_nil))
    (pss_cons (ps_for (passes_of rfl) (by rfl) (pi_list (pv 0)) (pg_tup (by rfl) (pgs_cons (pg_name (i := 3) sc_numbered.nd rfl (by first | exact Or.inl rfl | exact Or.inr rfl)) (pgs_cons (pg_name (i := 4) sc_numbered.nd rfl (by first | exact Or.inl rfl | exact Or.inr rfl)) pgs_nil))) (pss_cons (ps_expr (pe_dsetd (pv 1) (pv 4) (pe_callB call_lenDN (by rfl) (fr_len T) (by decide +kernel) (pa_cons (pv 1) pa_nil)) (by constructor <;> rfl)))
    (pss_one (ps_expr (pe_bm PySem.F.plainAttrs_list PySem.F.slot_list_append PySem.F.type_list_append mt_append (pv 2) (pa_cons (pe_tup (pa_cons (pv 3) (pa_cons (pe_dget (hu_of hr) (pv 1) (pv 4) (fun _ _ => rfl)) pa_nil))) pa_nil))))))
    (pss_one (ps_ret (pv 2)))))), ?_⟩
  obtain ⟨v, r, rfl, hd, hl, k⟩ := h
  obtain ⟨a, xs, rfl, ha, hx⟩ := Dp.lstI hd
  have hxl : xs.length = r.length := by rw [DpAll.len hx, List.length_map]
  walk_at "B"
  refine w_dnewK fun dn H1 hdn s1 hdn1 => ?_
  walk_at "S"
  refine w_newL (by simp) fun f H2 hf s2 hf2 => ?_
  have s02 := s1.trans s2
  have hdn2 := s2 _ _ hdn1
  have nfd : f ≠ dn := (ne_of_none hdn1 hf).symm
  have ha2 := s02.seq ha
  walk_at "S"
  refine for_inv walk_list (fun i σ H' => ∃ (s1 s2 : Option V) (ys : List V), σ = [some (.ref a), some (.ref dn), some (.ref f), s1, s2] ∧ Same H H' ∧ H' dn = some (.dK (dOf (plFold (r.take i)).1)) ∧ H' f = some (.lst ys) ∧ DpAll K H' ys ((plFold (r.take i)).2.map hapD))
    ⟨none, none, [], rfl, s02, hdn2, hf2, .nil⟩ (fun i σ H' _ ⟨_, _, _, _, s3, _⟩ => s3.seq ha) ?_ ?_
  · rintro i x σ H3 H4 hi ⟨v1, v2, ys, rfl, s3, hd3, hf3, hy3⟩ ⟨rfl, hx3⟩
    obtain ⟨kk, n, t, hr3, rfl, ht3⟩ := hap_at (Same.dpAll s3 hx) hx3
    have step := plFold_more hr3
    have hpl : (plFold (r.take i)).1.length ≤ 1000 := Nat.le_trans (plFold_pool_len _) (by rw [List.length_take]; omega)
    have hyl : ys.length ≤ 1000 := by rw [DpAll.len hy3, List.length_map, plFold_len, List.length_take]; omega
    generalize plFold (r.take i) = st at step hd3 hy3 hpl
    walk_at "S"
    refine w_dsetd (k := Sum.inl n) hd3 (by rw [dOf_len]; omega) fun vv H5 hd5 e5 => ?_
    obtain ⟨pool, out⟩ := st
    have hf5 : H5 f = some (.lst ys) := by rw [del_get e5 nfd]; exact hf3
    have hnew : H5 dn = some (.dK (dOf (if n ∈ pool then pool else pool ++ [n]))) := by
      rw [hd5, dOf_get]
      by_cases c : n ∈ pool
      · rw [if_pos c, if_pos c]; rfl
      · rw [if_neg c, if_neg c, dOf_len, dOf_put c]; rfl
    have hget : valV (dOf (if n ∈ pool then pool else pool ++ [n])) (Sum.inl n) = some (.int ((if n ∈ pool then pool else pool ++ [n]).idxOf n : Int)) := by
      rw [dOf_get, if_pos]
      split
      · assumption
      · simp
    have s5 : Same H H5 := fun b o e => by
      have h3 := s3 b o e
      by_cases c : b = dn
      · rw [c, s1.free hf |> fun _ => hdn] at e; cases e
      · rw [del_get e5 c]; exact h3
    walk_at "S"
    refine w_dget (k := Sum.inl n) hnew hget ?_
    walk_at "S"
    refine w_newT (by show 2 ≤ sizeLine; decide) fun t6 H6 ht6 s6 htt6 => ?_
    have hf6 := s6 _ _ hf5
    walk_at "S"
    refine w_append hf6 (by omega) fun H7 hf7 e7 => ?_
    have nft : t6 ≠ f := (ne_of_none hf5 ht6).symm
    have hdn6 := s6 _ _ hnew
    have s7 : Same H H7 := fun b o e => by
      by_cases c : b = f
      · rw [c, s1.free hf] at e; cases e
      · rw [del_get e7 c]; exact s6 _ _ (s5 b o e)
    walk_at "S"
    refine ⟨_, _, _, rfl, s7, ?_, hf7, ?_⟩
    · rw [del_get e7 nfd.symm, step]; exact hdn6
    · rw [step]
      refine hap_snoc (dpAll_wr (p := f) (by rw [hf6]; trivial) e7 (Same.dpAll s6 (dpAll_wr (p := dn) (by rw [hd3]; trivial) e5 hy3 (hap_noL _))) (hap_noL _)) (SqT.of ?_)
      rw [del_get e7 nft]; exact htt6
  · rintro σ H3 ⟨v1, v2, ys, rfl, s3, hd3, hf3, hy3⟩
    rw [hxl, List.take_length] at hy3
    walk_at "S"
    exact k f H3 ys (s1.free hf) s3 hf3 hy3
/-! ### plain -/
def sp_plain (K : PySem.W.Frag) : Sp := fun vs H Q _ => ∃ (cs : List Nat) (v : V) (r : Row), vs = [.str (ofL cs), v] ∧ GoodL cs ∧ Dp K H v (rowD r) ∧ GoodR cs r ∧ NewRow K H (plainR r) Q
theorem NewRow.ahead {K : PySem.W.Frag} {H H1 : Hp} {r : Row} {Q : VK} (h : NewRow K H r Q) (s : Same H H1) : NewRow K H1 r Q := fun p H' xs h1 h2 h3 h4 => h p H' xs (s.free h1) (s.trans h2) h3 h4
theorem ok_plain (T : Txt K mg) : FnOk P w K mg base (L2.CX P w) 4 (He.fAd K ("plain", none)) (fdF K ("plain", none)) ["kinds", "row"] (sp_plain K) := by
  refine (F_plain T).ok (k := 3) sc_plain (fun vs H Q E h => by obtain ⟨_, _, _, rfl, _⟩ := h; rfl) (fun cdv A outer s H vs Q E hr h => ?_)
  refine ⟨_, (pss_cons (ps_expr (pe_call (ok_need_kinds T) (hr.mono (by first | decide | omega)) (by rfl) (g_need_kinds T) (kp_need_kinds T) (b_need_kinds T) .nil (passes_call (takes_of rfl rfl rfl rfl) (fun _ _ _ _ h => h)) (pa_cons (pv 0) pa_nil)))
    (pss_cons (ps_expr (pe_call (ok_need_row T) (hr.mono (by first | decide | omega)) (by rfl) (g_need_row T) (kp_need_row T) (b_need_row T) .nil (passes_call (takes_of rfl rfl rfl rfl) (fun _ _ _ _ h => h)) (pa_cons (pv 0) (pa_cons (pv 1) pa_nil))))
    (pss_one (ps_ret (pe_call (ok_numbered T) (hr.mono (by first | decide | omega)) (by rfl) (g_numbered T) (kp_numbered T) (b_numbered T) .nil (passes_call (takes_of rfl rfl rfl rfl) (fun _ _ _ _ h => h)) (pa_cons (pv 1) pa_nil)))))), ?_⟩
  obtain ⟨cs, v, r, rfl, hc, hd, hg, k⟩ := h
  walk_at "B"
  refine ⟨cs, rfl, hc, fun H1 s1 => ?_⟩
  walk_at "S"
  refine ⟨cs, v, r, rfl, Same.dp s1 hd, hg, fun H2 s2 => ?_⟩
  walk_at "S"
  exact ⟨v, r, rfl, Same.dp (s1.trans s2) hd, Nat.le_trans hg.len (by decide), k.ahead (s1.trans s2)⟩
/-! ### _law_bag -/
abbrev sp__law_bag (K : PySem.W.Frag) : Sp := sp_bag K
theorem ok__law_bag (T : Txt K mg) : FnOk P w K mg base (L2.CX P w) 1 (He.fAd K ("_law_bag", none)) (fdF K ("_law_bag", none)) ["_law_script"] (sp__law_bag K) := by
  refine (F__law_bag T).ok (k := 0) sc__law_bag (fun vs H Q E h => by obtain ⟨_, _, rfl, _⟩ := h; rfl) (fun cdv A outer s H vs Q E hr h => ?_)
  refine ⟨_, (pss_one (ps_ret (pe_lst (pa_cons (pe_callTy call_listOf (by rfl) (fr_list T) (by decide +kernel) (pa_cons (pe_slice sl_list (pv 0) po_none (po_some pe_int)) pa_nil)) (pa_cons pe_int (pa_cons pe_int (pa_cons (pe_op op_add pe_int (pe_callB call_lenS (by rfl) (fr_len T) (by decide +kernel) (pa_cons (pe_slice sl_list (pv 0) po_none (po_some pe_int)) pa_nil))) (pa_cons pe_int pa_nil)))))))), ?_⟩
  obtain ⟨a, ns, rfl, hS, hl, k⟩ := h
  have ec : cutV (ns.map V.int) none (some 63) = ns.map V.int := (cutV_to (n := 63)).trans (List.take_of_length_le (by rw [List.length_map]; exact hl))
  walk_at "B"
  refine w_slL hS fun p H1 hp s1 h1 => ?_
  walk_at "S"
  refine w_listOf (.inl (SqL.of h1)) fun q H2 hq s2 h2 => ?_
  walk_at "S"
  refine w_slL (s2.seq (s1.seq hS)) fun r H3 hr s3 h3 => ?_
  walk_at "S"
  refine w_newL (by show 5 ≤ sizeLine; decide) fun b H4 hb s4 h4 => ?_
  have hq4 := s4 _ _ (s3 _ _ h2)
  rw [ec] at hq4
  exact k b q H4 (((s1.trans s2).trans s3).trans s4) (((s1.trans s2).trans s3).free hb) ⟨0, 0, _, 1, h4, hq4, ne_of_none (s3 _ _ h2) hb, Nat.zero_le _, by omega, by rw [ec, List.length_map]; omega⟩
/-! ### _law_pick -/
abbrev sp__law_pick : Sp := sp_pick
theorem bag_mod (x : Int) : 0 ≤ x % 2147483399 ∧ x % 2147483399 < 2147483399 := ⟨Int.emod_nonneg _ (by decide), Int.emod_lt_of_pos _ (by decide)⟩
theorem ok__law_pick (T : Txt K mg) : FnOk P w K mg base (L2.CX P w) 1 (He.fAd K ("_law_pick", none)) (fdF K ("_law_pick", none)) ["_law_bag_here", "_law_top"] (sp__law_pick) := by
  refine (F__law_pick T).ok (k := 0) sc__law_pick (fun vs H Q E h => by obtain ⟨_, _, _, _, rfl, _⟩ := h; rfl) (fun cdv A outer s H vs Q E hr h => ?_)
  refine ⟨_, (pss_cons (ps_if (PW.pt (pw_and (pt_cmpR op_lt (pe_ix ix_list (pv 0) pe_int (fun _ _ => rfl)) (pv 1) (nomark _)) (pw_and1 (pt_cmpR op_lt (pe_ix ix_list (pv 0) pe_int (fun _ _ => rfl)) (pe_callB call_lenS (by rfl) (fr_len T) (by decide +kernel) (pa_cons (pe_ix ix_list (pv 0) pe_int (fun _ _ => rfl)) pa_nil)) (nomark _))))) (pss_cons (ps_set (i := 2) sc__law_pick.nd rfl (by first | exact Or.inl rfl | exact Or.inr rfl) (pe_ix ix_list (pe_ix ix_list (pv 0) pe_int (fun _ _ => rfl)) (pe_ix ix_list (pv 0) pe_int (fun _ _ => rfl)) (fun _ _ => rfl)))
    (pss_cons (ps_asg (pe_op op_add (pe_ix ix_list (pv 0) pe_int (fun _ _ => rfl)) pe_int) (pg_sub (pv 0) pe_int set_list))
    (pss_cons (ps_asg (pe_op op_mod (pe_op op_add (pe_op op_add (pe_op op_mul (pe_ix ix_list (pv 0) pe_int (fun _ _ => rfl)) pe_int) (pv 2)) (pe_op op_mul pe_int (pe_ix ix_list (pv 0) pe_int (fun _ _ => rfl)))) pe_int) (pg_sub (pv 0) pe_int set_list))
    (pss_one (ps_asg (pe_ifExp (pt_cmpR op_ge (pv 2) (pe_op op_pow pe_int pe_int) (nomark _)) (pv 2) pe_int) (pg_sub (pv 0) pe_int set_list)))))) pss_nil)
    (pss_cons (ps_if (pt_cmpR op_ge (pe_ix ix_list (pv 0) pe_int (fun _ _ => rfl)) (pv 1) (nomark _)) (pss_cons (ps_set (i := 3) sc__law_pick.nd rfl (by first | exact Or.inl rfl | exact Or.inr rfl) (pe_op op_mod (pe_ix ix_list (pv 0) pe_int (fun _ _ => rfl)) (pv 1)))
    (pss_cons (ps_asg (pe_op op_fdivW (pe_ix ix_list (pv 0) pe_int (fun _ _ => rfl)) (pv 1)) (pg_sub (pv 0) pe_int set_list))
    (pss_one (ps_ret (pv 3))))) pss_nil)
    (pss_cons (ps_asg (pe_op op_add (pe_ix ix_list (pv 0) pe_int (fun _ _ => rfl)) pe_int) (pg_sub (pv 0) pe_int set_list))
    (pss_cons (ps_asg (pe_op op_mod (pe_op op_add (pe_op op_add (pe_op op_add (pe_op op_pow (pe_ix ix_list (pv 0) pe_int (fun _ _ => rfl)) pe_int) (pe_op op_mul pe_int (pe_ix ix_list (pv 0) pe_int (fun _ _ => rfl)))) (pe_op op_fdivW (pe_ix ix_list (pv 0) pe_int (fun _ _ => rfl)) pe_int)) pe_int) pe_int) (pg_sub (pv 0) pe_int set_list))
    (pss_one (ps_ret (pe_op op_mod (pe_op op_fdivW (pe_ix ix_list (pv 0) pe_int (fun _ _ => rfl)) pe_int) (pv 1)))))))), ?_⟩
  obtain ⟨b, top, l, ns, rfl, ⟨i, h, s, n, hb, hl, ne, hi, hs0, hs1⟩, ht, htb, k⟩ := h
  refine w_seqJ (fun σ' H' => ∃ (c : Option V) (i : Nat) (h s : Int), σ' = [some (.ref b), some (.int top), c, none] ∧ H' b = some (.lst (bagL l i h s n)) ∧ del H' b = del H b ∧ i ≤ ns.length ∧ 0 ≤ s ∧ s < 2147483399) ?_ ?_
  · rintro σ' H1 ⟨c, i, h, s, rfl, hb1, e1, hi, hs0, hs1⟩
    have fin : ∀ (d : Int) (i : Nat) (h s n : Int) H2, 0 ≤ d → d < top → H2 b = some (.lst (bagL l i h s n)) → del H2 b = del H b → i ≤ ns.length → 0 ≤ s → s < 2147483399 → Q (.int d) H2 :=
      fun d i h s n H2 d0 d1 hb2 e2 hi h0 h1 => k d H2 d0 d1 ⟨i, h, s, n, hb2, by rw [del_get e2 ne]; exact hl, ne, hi, h0, h1⟩ e2
    have ht2 : (0 : Int) < top := by omega
    walk_at "B"
    refine ite2 (fun c1 => ?_) (fun c1 => ?_)
    · walk_at "S"
      exact fin _ i _ s n _ (Int.emod_nonneg _ (by omega)) (Int.emod_lt_of_pos _ ht2) (by assumption) (by simp only [*]) hi hs0 hs1
    · walk_at "S"
      exact fin _ i h _ (n + 1) _ (Int.emod_nonneg _ (by omega)) (Int.emod_lt_of_pos _ ht2) (by assumption) (by simp only [*]) hi (bag_mod _).1 (bag_mod _).2
  · intro N hN
    have stay : N [some (.ref b), some (.int top), none, none] H := hN _ _ ⟨none, i, h, s, rfl, hb, rfl, hi, hs0, hs1⟩
    walk_at "B"
    refine ite2 (fun c1 => ?_) (fun c1 => ?_)
    · walk_at "S"
      refine ite2 (fun c2 => ?_) (fun c2 => ?_)
      · have hlt : i < ns.length := by have := of_decide_eq_true c2; rw [List.length_map] at this; omega
        walk_at "S"
        refine w_ixL (SqL.of hl) (atI_nat (v := .int ns[i]) (by simp [hlt])) ?_
        walk_at "S"
        refine ite2 (fun c3 => ?_) (fun c3 => ?_)
        all_goals
          walk_at "S"
          exact hN _ _ ⟨_, i + 1, _, _, rfl, by assumption, by simp only [*], hlt, (bag_mod _).1, (bag_mod _).2⟩
      · walk_at "S"
        exact stay
    · walk_at "S"
      exact stay
/-! ### _law_of -/
def sp__law_of (K : PySem.W.Frag) : Sp := fun vs H Q _ => ∃ (b l : Addr) (ns : List Int) (s : V) (xs : List V), vs = [.ref b, s] ∧ BagX l ns H b ∧ IsSeq K (del H b) s xs ∧ 1 ≤ xs.length ∧ xs.length ≤ 100000 ∧
  ∀ v H', v ∈ xs → BagX l ns H' b → del H' b = del H b → Q v H'
theorem ok__law_of (T : Txt K mg) : FnOk P w K mg base (L2.CX P w) 2 (He.fAd K ("_law_of", none)) (fdF K ("_law_of", none)) ["_law_bag_here", "_law_some"] (sp__law_of K) := by
  refine (F__law_of T).ok (k := 1) sc__law_of (fun vs H Q E h => by obtain ⟨_, _, _, _, _, rfl, _⟩ := h; rfl) (fun cdv A outer s H vs Q E hr h => ?_)
  refine ⟨_, (pss_one (ps_ret (pe_ix ix_seq (pv 1) (pe_call (ok__law_pick T) (hr.mono (by first | decide | omega)) (by rfl) (g__law_pick T) (kp__law_pick T) (b__law_pick T) .nil (passes_call (takes_of rfl rfl rfl rfl) (fun _ _ _ _ h => h)) (pa_cons (pv 0) (pa_cons (pe_callB call_lenA (by rfl) (fr_len T) (by decide +kernel) (pa_cons (pv 1) pa_nil)) pa_nil))) (fun _ _ => rfl)))), ?_⟩
  obtain ⟨b, l, ns, s, xs, rfl, hB, hs, h1, h2, k⟩ := h
  walk_at "B"
  refine w_lenA (hs.same same_del) ?_
  walk_at "S"
  refine ⟨b, _, l, ns, rfl, hB, by omega, log_le (by omega) (by omega), fun d H1 d0 d1 hB1 e1 => ?_⟩
  obtain ⟨j, rfl⟩ := Int.eq_ofNat_of_zero_le d0
  have hj : j < xs.length := by omega
  refine w_ixA (hs.same (Same.trans (same_of_del e1) same_del)) (List.getElem?_eq_getElem hj) ?_
  exact k _ H1 (List.getElem_mem hj) hB1 e1
/-! ### _law_shuffled -/
def sp__law_shuffled (K : PySem.W.Frag) : Sp := fun vs H Q _ => ∃ (b l a : Addr) (ns : List Int) (xs : List V), vs = [.ref b, .ref a] ∧ BagX l ns H b ∧ SqL K (del H b) a xs ∧ xs.length ≤ 1000 ∧
  ∀ ys p H', ys.Perm xs → BagX l ns H' b → Same (del H b) (del H' b) → del H b p = none → p ≠ b → H' p = some (.lst ys) → Q (.ref p) H'
theorem ok__law_shuffled (T : Txt K mg) : FnOk P w K mg base (L2.CX P w) 2 (He.fAd K ("_law_shuffled", none)) (fdF K ("_law_shuffled", none)) ["_law_bag_here", "_law_some"] (sp__law_shuffled K) := by
  refine (F__law_shuffled T).ok (k := 1) sc__law_shuffled (fun vs H Q E h => by obtain ⟨_, _, _, _, _, rfl, _⟩ := h; rfl) (fun cdv A outer s H vs Q E hr h => ?_)
  refine ⟨_, (pss_cons (ps_set (i := 2) sc__law_shuffled.nd rfl (by first | exact Or.inl rfl | exact Or.inr rfl) (pe_callTy call_listOf (by rfl) (fr_list T) (by decide +kernel) (pa_cons (pv 1) pa_nil)))
    (pss_cons (ps_set (i := 3) sc__law_shuffled.nd rfl (by first | exact Or.inl rfl | exact Or.inr rfl) (pe_lst pa_nil))
    (pss_cons (ps_for (passes_of rfl) (by rfl) (pi_range1 (by rfl) (fr_range T) (pa_cons (pe_callB call_lenS (by rfl) (fr_len T) (by decide +kernel) (pa_cons (pv 1) pa_nil)) pa_nil)) (pg_name (i := 4) sc__law_shuffled.nd rfl (by first | exact Or.inl rfl | exact Or.inr rfl)) (pss_one (ps_expr (pe_bm PySem.F.plainAttrs_list PySem.F.slot_list_append PySem.F.type_list_append mt_append (pv 3) (pa_cons (pe_bm PySem.F.plainAttrs_list PySem.F.slot_list_pop PySem.F.type_list_pop mt_popAt (pv 2) (pa_cons (pe_call (ok__law_pick T) (hr.mono (by first | decide | omega)) (by rfl) (g__law_pick T) (kp__law_pick T) (b__law_pick T) .nil (passes_call (takes_of rfl rfl rfl rfl) (fun _ _ _ _ h => h)) (pa_cons (pv 0) (pa_cons (pe_callB call_lenS (by rfl) (fr_len T) (by decide +kernel) (pa_cons (pv 2) pa_nil)) pa_nil))) pa_nil)) pa_nil)))))
    (pss_one (ps_ret (pv 3)))))), ?_⟩
  obtain ⟨b, l, a, ns, xs, rfl, hB, ha, hl, k⟩ := h
  walk_at "B"
  refine w_listOf (.inl (same_del.seq ha)) fun p H1 hp s1 hp1 => ?_
  walk_at "S"
  refine w_newL (by simp) fun f H2 hf s2 hf2 => ?_
  have hB1 := hB.same s1
  have hB2 := hB1.same s2
  have npb := (hB.neB hp).1
  have npl := (hB.neB hp).2
  have nfb := (hB1.neB hf).1
  have nfl := (hB1.neB hf).2
  have nfp : f ≠ p := (ne_of_none hp1 hf).symm
  have s02 : Same (del H b) (del H2 b) := same_b_of (s1.trans s2)
  have dp : del H b p = none := by rw [del_ne npb]; exact hp
  have df : del H b f = none := by rw [del_ne nfb]; exact s1.free hf
  walk_at "S"
  refine w_len (same_del.seq (s02.seq ha)) ?_
  walk_at "S"
  refine for_inv (walk_range) (fun i σ H' => ∃ (st : Option V) (lf fd : List V), σ = [some (.ref b), some (.ref a), some (.ref p), some (.ref f), st] ∧ BagX l ns H' b ∧ Same (del H b) (del H' b) ∧ H' p = some (.lst lf) ∧ H' f = some (.lst fd) ∧ (fd ++ lf).Perm xs ∧ fd.length = i)
    ⟨none, xs, [], rfl, hB2, s02, s2 _ _ hp1, hf2, by simp, rfl⟩ (fun _ _ _ _ _ => trivial) ?_ ?_
  · rintro i x σ H3 H4 hi ⟨st, lf, fd, rfl, hB3, s3, hp3, hf3, pm, hfl⟩ ⟨rfl, rfl⟩
    have hln := pm.length_eq
    rw [List.length_append] at hln
    have hi2 : i < xs.length := by omega
    walk_at "S"
    refine ⟨b, _, l, ns, rfl, hB3, by omega, log_le (by omega) (by omega), fun d H5 d0 d1 hB5 e5 => ?_⟩
    obtain ⟨j, rfl⟩ := Int.eq_ofNat_of_zero_le d0
    have hj : j < lf.length := by omega
    have hp5 : H5 p = some (.lst lf) := by rw [del_get e5 npb]; exact hp3
    have hf5 : H5 f = some (.lst fd) := by rw [del_get e5 nfb]; exact hf3
    walk_at "S"
    refine w_popAt hp5 (by omega) (List.getElem?_eq_getElem hj) fun H6 hp6 e6 => ?_
    have hB6 := hB5.wr e6 npb npl
    have hf6 : H6 f = some (.lst fd) := by rw [del_get e6 nfp]; exact hf5
    walk_at "S"
    refine w_append hf6 (by omega) fun H7 hf7 e7 => ?_
    have hB7 := hB6.wr e7 nfb nfl
    walk_at "S"
    refine ⟨_, lf.eraseIdx j, fd ++ [lf[j]], rfl, hB7, ?_, ?_, hf7, ?_, by simp [hfl]⟩
    · rw [← e5] at s3
      exact same_wr (same_wr s3 dp e6) df e7
    · rw [del_get e7 nfp.symm]; exact hp6
    · refine List.Perm.trans ?_ pm
      rw [List.append_assoc]
      refine List.Perm.append_left fd ?_
      exact perm_erase hj
  · rintro σ H3 ⟨st, lf, fd, rfl, hB3, s3, hp3, hf3, pm, hfl⟩
    walk_at "S"
    have hln := pm.length_eq
    rw [List.length_append] at hln
    have e : lf = [] := List.eq_nil_of_length_eq_zero (by omega)
    subst e
    rw [List.append_nil] at pm
    exact k fd f H3 pm hB3 s3 df nfb hf3
/-! ### _law_same -/
def dlt : Nat → PyData → Prop
  | _, .none => True
  | _, .bool _ => True
  | _, .int _ => True
  | _, .str _ => True
  | 0, _ => False
  | _, .dict _ => False
  | n + 1, .list ds => ds.length ≤ 1000 ∧ ∀ d ∈ ds, dlt n d
  | n + 1, .tuple ds => ds.length ≤ 1000 ∧ ∀ d ∈ ds, dlt n d
/-- alike data are told alike -/
def sp__law_same (K : PySem.W.Frag) : Nat → Sp
  | 0 => fun _ _ _ _ => False
  | n + 1 => fun vs H Q _ => ∃ (v u : V) (d : PyData), vs = [v, u] ∧ Dp K H v d ∧ Dp K H u d ∧ dlt n d ∧ ∀ H', Same H H' → Q (.bl true) H'
theorem ok__law_same (T : Txt K mg) : ∀ n, FnOk P w K mg base (L2.CX P w) n (He.fAd K ("_law_same", none)) (fdF K ("_law_same", none)) ["_law_found", "_law_due"] (sp__law_same K n)
  | 0 => ⟨fun vs H Q E h => False.elim h, fun _ _ _ _ _ _ _ _ _ _ _ _ _ h => False.elim h⟩
  | n + 1 => by
    have ih : FnOk P w K mg base (L2.CX P w) n (He.fAd K ("_law_same", none)) (fdF K ("_law_same", none)) ["_law_found", "_law_due"] (sp__law_same K n) := ok__law_same T n
    refine (F__law_same T).ok (k := n) sc__law_same (fun vs H Q E h => by obtain ⟨_, _, _, rfl, _⟩ := h; rfl) (fun cdv A outer s H vs Q E hr h => ?_)
    refine ⟨_, (pss_cons (ps_if (pt_cmpR op_isN0 (pv 1) pe_non (nomark _)) (pss_one (ps_ret (pe_cmpR op_isN0 (pv 0) pe_non (nomark _)))) pss_nil)
    (pss_cons (ps_if (PW.pt (pw_or (pt_val (pe_callB call_isi (by rfl) (fr_isinstance T) (by decide +kernel) (pa_cons (pv 1) (pa_cons (pe_bty (n := "bool") (by rfl) (fr_bool T) (by decide +kernel)) pa_nil)))) (pw_or1 (pt_val (pe_callB call_isi (by rfl) (fr_isinstance T) (by decide +kernel) (pa_cons (pv 0) (pa_cons (pe_bty (n := "bool") (by rfl) (fr_bool T) (by decide +kernel)) pa_nil))))))) (pss_one (ps_ret (pe_and (pe_callB call_isi (by rfl) (fr_isinstance T) (by decide +kernel) (pa_cons (pv 1) (pa_cons (pe_bty (n := "bool") (by rfl) (fr_bool T) (by decide +kernel)) pa_nil))) (pe_and (pe_callB call_isi (by rfl) (fr_isinstance T) (by decide +kernel) (pa_cons (pv 0) (pa_cons (pe_bty (n := "bool") (by rfl) (fr_bool T) (by decide +kernel)) pa_nil))) (pe_one (pe_cmpR op_eq (pv 0) (pv 1) (nomark _))))))) pss_nil)
    (pss_cons (ps_if (pt_val (pe_callB call_isiT (by rfl) (fr_isinstance T) (by decide +kernel) (pa_cons (pv 1) (pa_cons (pe_tup (pa_cons (pe_bty (n := "int") (by rfl) (fr_int T) (by decide +kernel)) (pa_cons (pe_bty (n := "str") (by rfl) (fr_str T) (by decide +kernel)) pa_nil))) pa_nil)))) (pss_one (ps_ret (pe_and (pe_callB call_isiT (by rfl) (fr_isinstance T) (by decide +kernel) (pa_cons (pv 0) (pa_cons (pe_tup (pa_cons (pe_bty (n := "int") (by rfl) (fr_int T) (by decide +kernel)) (pa_cons (pe_bty (n := "str") (by rfl) (fr_str T) (by decide +kernel)) pa_nil))) pa_nil))) (pe_and (pe_cmpR op_eq (pe_callB call_isi (by rfl) (fr_isinstance T) (by decide +kernel) (pa_cons (pv 0) (pa_cons (pe_bty (n := "int") (by rfl) (fr_int T) (by decide +kernel)) pa_nil))) (pe_callB call_isi (by rfl) (fr_isinstance T) (by decide +kernel) (pa_cons (pv 1) (pa_cons (pe_bty (n := "int") (by rfl) (fr_int T) (by decide +kernel)) pa_nil))) (nomark _)) (pe_one (pe_cmpR op_eq (pv 0) (pv 1) (nomark _))))))) pss_nil)
    (pss_cons (ps_if (PW.pt (pw_or (pt_cmpR op_ne (pe_callB call_isi (by rfl) (fr_isinstance T) (by decide +kernel) (pa_cons (pv 1) (pa_cons (pe_bty (n := "list") (by rfl) (fr_list T) (by decide +kernel)) pa_nil))) (pe_callB call_isi (by rfl) (fr_isinstance T) (by decide +kernel) (pa_cons (pv 0) (pa_cons (pe_bty (n := "list") (by rfl) (fr_list T) (by decide +kernel)) pa_nil))) (nomark _)) (pw_or1 (pt_cmpR op_ne (pe_callB call_isi (by rfl) (fr_isinstance T) (by decide +kernel) (pa_cons (pv 1) (pa_cons (pe_bty (n := "tuple") (by rfl) (fr_tuple T) (by decide +kernel)) pa_nil))) (pe_callB call_isi (by rfl) (fr_isinstance T) (by decide +kernel) (pa_cons (pv 0) (pa_cons (pe_bty (n := "tuple") (by rfl) (fr_tuple T) (by decide +kernel)) pa_nil))) (nomark _))))) (pss_one (ps_ret pe_bl)) pss_nil)
    (pss_cons (ps_if (PW.pt (pw_or (pt_not (pt_val (pe_callB call_isiT (by rfl) (fr_isinstance T) (by decide +kernel) (pa_cons (pv 0) (pa_cons (pe_tup (pa_cons (pe_bty (n := "list") (by rfl) (fr_list T) (by decide +kernel)) (pa_cons (pe_bty (n := "tuple") (by rfl) (fr_tuple T) (by decide +kernel)) pa_nil))) pa_nil))))) (pw_or1 (pt_cmpR op_ne (pe_callB call_lenS (by rfl) (fr_len T) (by decide +kernel) (pa_cons (pv 0) pa_nil)) (pe_callB call_lenS (by rfl) (fr_len T) (by decide +kernel) (pa_cons (pv 1) pa_nil)) (nomark _))))) (pss_one (ps_ret pe_bl)) pss_nil)
    (pss_one (ps_ret (pe_callB (cr_all (by rfl)) (by rfl) (fr_all T) (by decide +kernel) (pa_cons (pe_lc (own := [("_law_spot", 2)]) (g := (gName 2)) (tt := tYes)  (by rfl) sc__law_same.nd (pi_range1 (by rfl) (fr_range T) (pa_cons (pe_callB call_lenS (by rfl) (fr_len T) (by decide +kernel) (pa_cons (pv 1) pa_nil)) pa_nil)) (blkOk_by (own := [("_law_spot", 2)]) (N := ["_law_found", "_law_due", "_law_spot"]) (sc := defScope s__law_same) (by decide +kernel)) (fun _ _ _ _ _ => (pg_name (i := 2) sc__law_same.nd rfl (by first | exact Or.inl rfl | exact Or.inr rfl))) (fun _ _ _ _ _ => pts_nil) (fun _ _ _ _ _ => (pe_call ih (hr.mono (by first | decide | omega)) (by rfl) (g__law_same T) (kp__law_same T) (b__law_same T) .nil passL (pa_cons (pe_ix (show IxR _ (rIx K) from ix_seq) (pv 0) (pv 2) (fun _ _ => rfl)) (pa_cons (pe_ix (show IxR _ (rIx K) from ix_seq) (pv 1) (pv 2) (fun _ _ => rfl)) pa_nil))))) pa_nil))))))))), ?_⟩
    obtain ⟨v, u, d, rfl, hv, hu, hd, k⟩ := h
    cases d with
    | none =>
      cases Dp.nonI hv
      cases Dp.nonI hu
      walk_at "B"
      exact k _ (Same.refl _)
    | bool b =>
      cases Dp.blI hv
      cases Dp.blI hu
      walk_at "B"
      exact k _ (Same.refl _)
    | int i =>
      cases Dp.intI hv
      cases Dp.intI hu
      walk_at "B"
      refine w_isiIntStr (.int i) fun H1 s1 => ?_
      walk_at "S"
      refine iteT ?_
      walk_at "S"
      refine w_isiIntStr (.int i) fun H2 s2 => ?_
      walk_at "S"
      refine iteT ?_
      walk_at "S"
      refine w_isi (d := .int i) (.int i) (by decide) ?_
      walk_at "S"
      refine w_isi (d := .int i) (.int i) (by decide) ?_
      walk_at "S"
      exact k _ (s1.trans s2)
    | str z =>
      cases Dp.strI hv
      cases Dp.strI hu
      walk_at "B"
      refine w_isiIntStr (.str z) fun H1 s1 => ?_
      walk_at "S"
      refine iteT ?_
      walk_at "S"
      refine w_isiIntStr (.str z) fun H2 s2 => ?_
      walk_at "S"
      refine iteT ?_
      walk_at "S"
      refine w_isi (d := .str z) (.str z) (by decide) ?_
      walk_at "S"
      refine w_isi (d := .str z) (.str z) (by decide) ?_
      walk_at "S"
      exact k _ (s1.trans s2)
    | dict _ => cases hv
    | list ds =>
      cases n with
      | zero => exact (show False from hd).elim
      | succ m =>
      obtain ⟨hdl, hdd⟩ := (show ds.length ≤ 1000 ∧ ∀ d ∈ ds, dlt m d from hd)
      obtain ⟨a, xs, rfl, ha, hxs⟩ := Dp.lstI hv
      obtain ⟨b, ys, rfl, hb, hys⟩ := Dp.lstI hu
      have lx := DpAll.len hxs
      have ly := DpAll.len hys
      walk_at "B"
      refine w_isiIntStr hu fun H1 s1 => ?_
      have hv1 := Same.dp s1 hv
      have hu1 := Same.dp s1 hu
      walk_at "S"
      refine iteF ?_
      walk_at "S"
      refine w_isiListTup hv1 fun H2 s2 => ?_
      have s02 := s1.trans s2
      have ha2 := s02.seq ha
      have hb2 := s02.seq hb
      walk_at "S"
      refine w_iteF rfl ?_
      walk_at "S"
      
      walk_at "S"
      
      walk_at "S"
      refine w_iteF (by rw [lx, ly]; simp) ?_
      walk_at "S"
      
      walk_at "S"
      have szl : (((ys.length : Nat) : Int)).toNat = ds.length := by omega
      refine lc_map (ys := (List.replicate ds.length true).map V.bl) walk_range (by rw [List.length_map, List.length_replicate, szl]) (Nat.le_trans (show _ ≤ 1000 by rw [szl]; exact hdl) (by decide)) (fun _ _ => trivial) yfn_same ?_ ?_
      · rintro i x H3 H4 N hi s3 ⟨rfl, rfl⟩ hN
        rw [szl] at hi
        have s4 := s02.trans s3
        have hdi : ds[i]? = some ds[i] := List.getElem?_eq_getElem hi
        obtain ⟨xv, ex, hxd⟩ := DpAll.get' (Same.dpAll s4 hxs) hdi
        obtain ⟨yv, ey, hyd⟩ := DpAll.get' (Same.dpAll s4 hys) hdi
        dsimp only
        rw [Int.zero_add]
        walk_at "S"
        refine ⟨rfl, ?_⟩
        walk_at "S"
        refine w_ixA (.inl ⟨a, rfl, s4.seq ha⟩) ex ?_
        walk_at "S"
        refine w_ixA (.inl ⟨b, rfl, s4.seq hb⟩) ey ?_
        walk_at "S"
        refine ⟨xv, yv, ds[i], rfl, hxd, hyd, hdd _ (List.getElem_mem hi), fun H5 s5 => hN _ _ ?_ s5⟩
        rw [List.getElem?_map, List.getElem?_replicate, if_pos hi]
        rfl
      · intro D H3 hD s3 h3
        walk_at "S"
        refine w_all (SqL.of h3) ?_
        rw [show (List.replicate ds.length true).all id = true by simp]
        exact k _ (s02.trans s3)
    | tuple ds =>
      cases n with
      | zero => exact (show False from hd).elim
      | succ m =>
      obtain ⟨hdl, hdd⟩ := (show ds.length ≤ 1000 ∧ ∀ d ∈ ds, dlt m d from hd)
      obtain ⟨a, xs, rfl, ha, hxs⟩ := Dp.tupI hv
      obtain ⟨b, ys, rfl, hb, hys⟩ := Dp.tupI hu
      have lx := DpAll.len hxs
      have ly := DpAll.len hys
      walk_at "B"
      refine w_isiIntStr hu fun H1 s1 => ?_
      have hv1 := Same.dp s1 hv
      have hu1 := Same.dp s1 hu
      walk_at "S"
      refine iteF ?_
      walk_at "S"
      refine w_isiListTup hv1 fun H2 s2 => ?_
      have s02 := s1.trans s2
      have ha2 := Same.tup s02 ha
      have hb2 := Same.tup s02 hb
      walk_at "S"
      refine w_iteF rfl ?_
      walk_at "S"
      refine w_lenT ha2 ?_
      walk_at "S"
      refine w_lenT hb2 ?_
      walk_at "S"
      refine w_iteF (by rw [lx, ly]; simp) ?_
      walk_at "S"
      refine w_lenT hb2 ?_
      walk_at "S"
      have szl : (((ys.length : Nat) : Int)).toNat = ds.length := by omega
      refine lc_map (ys := (List.replicate ds.length true).map V.bl) walk_range (by rw [List.length_map, List.length_replicate, szl]) (Nat.le_trans (show _ ≤ 1000 by rw [szl]; exact hdl) (by decide)) (fun _ _ => trivial) yfn_same ?_ ?_
      · rintro i x H3 H4 N hi s3 ⟨rfl, rfl⟩ hN
        rw [szl] at hi
        have s4 := s02.trans s3
        have hdi : ds[i]? = some ds[i] := List.getElem?_eq_getElem hi
        obtain ⟨xv, ex, hxd⟩ := DpAll.get' (Same.dpAll s4 hxs) hdi
        obtain ⟨yv, ey, hyd⟩ := DpAll.get' (Same.dpAll s4 hys) hdi
        dsimp only
        rw [Int.zero_add]
        walk_at "S"
        refine ⟨rfl, ?_⟩
        walk_at "S"
        refine w_ixA (.inr (.inl ⟨a, rfl, Same.tup s4 ha⟩)) ex ?_
        walk_at "S"
        refine w_ixA (.inr (.inl ⟨b, rfl, Same.tup s4 hb⟩)) ey ?_
        walk_at "S"
        refine ⟨xv, yv, ds[i], rfl, hxd, hyd, hdd _ (List.getElem_mem hi), fun H5 s5 => hN _ _ ?_ s5⟩
        rw [List.getElem?_map, List.getElem?_replicate, if_pos hi]
        rfl
      · intro D H3 hD s3 h3
        walk_at "S"
        refine w_all (SqL.of h3) ?_
        rw [show (List.replicate ds.length true).all id = true by simp]
        exact k _ (s02.trans s3)
/-! ### _law_signs -/
def sp__law_signs (K : PySem.W.Frag) : Sp := fun vs H Q _ => ∃ (b l : Addr) (ns : List Int) (cap : Nat), vs = [.ref b, .int (cap : Int)] ∧ BagX l ns H b ∧ 1 ≤ cap ∧ cap ≤ 4 ∧
  ∀ cs H', GoodL cs → cs.length ≤ cap → BagX l ns H' b → Same (del H b) (del H' b) → Q (.str (ofL cs)) H'
theorem ok__law_signs (T : Txt K mg) : FnOk P w K mg base (L2.CX P w) 3 (He.fAd K ("_law_signs", none)) (fdF K ("_law_signs", none)) ["_law_bag_here", "_law_cap"] (sp__law_signs K) := by
  refine (F__law_signs T).ok (k := 2) sc__law_signs (fun vs H Q E h => by obtain ⟨_, _, _, _, rfl, _⟩ := h; rfl) (fun cdv A outer s H vs Q E hr h => ?_)
  refine ⟨_, (pss_cons (ps_set (i := 2) sc__law_signs.nd rfl (by first | exact Or.inl rfl | exact Or.inr rfl) (pe_callTy (call_list_text (by rfl)) (by rfl) (fr_list T) (by decide +kernel) (pa_cons pe_str pa_nil)))
    (pss_cons (ps_if (pt_cmpR op_eq (pe_call (ok__law_pick T) (hr.mono (by first | decide | omega)) (by rfl) (g__law_pick T) (kp__law_pick T) (b__law_pick T) .nil (passes_call (takes_of rfl rfl rfl rfl) (fun _ _ _ _ h => h)) (pa_cons (pv 0) (pa_cons pe_int pa_nil))) pe_int (nomark _)) (pss_one (ps_set (i := 2) sc__law_signs.nd rfl (by first | exact Or.inl rfl | exact Or.inr rfl) (pe_slice sl_list (pv 2) po_none (po_some pe_int)))) pss_nil)
    (pss_one (ps_ret (pe_joinN pe_str (pe_callB cr_sortedS (by rfl) (fr_sorted T) (by decide +kernel) (pa_cons (pe_slice sl_list (pe_call (ok__law_shuffled T) (hr.mono (by first | decide | omega)) (by rfl) (g__law_shuffled T) (kp__law_shuffled T) (b__law_shuffled T) .nil (passes_call (takes_of rfl rfl rfl rfl) (fun _ _ _ _ h => h)) (pa_cons (pv 0) (pa_cons (pv 2) pa_nil))) po_none (po_some (pe_op op_add pe_int (pe_call (ok__law_pick T) (hr.mono (by first | decide | omega)) (by rfl) (g__law_pick T) (kp__law_pick T) (b__law_pick T) .nil (passes_call (takes_of rfl rfl rfl rfl) (fun _ _ _ _ h => h)) (pa_cons (pv 0) (pa_cons (pv 1) pa_nil)))))) pa_nil))))))), ?_⟩
  obtain ⟨b, l, ns, cap, rfl, hB, hc1, hc4, k⟩ := h
  walk_at "D"
  walk_at "s"
  walk_at "N"
  refine w_listText (by decide) fun p H1 hp s1 hp1 => ?_
  rw [let_eq] at hp1
  walk_at "N"
  refine w_seqJ (fun σ' H' => ∃ (q : Addr) (ls : List Nat), σ' = [some (.ref b), some (.int cap), some (.ref q)] ∧ H' q = some (.lst (ls.map fun c => V.str (sg c))) ∧ q ≠ b ∧ BagX l ns H' b ∧ Same (del H b) (del H' b) ∧ ls.Nodup ∧ (∀ c ∈ ls, c ∈ LET) ∧ 5 ≤ ls.length ∧ ls.length ≤ 26) ?_ ?_
  · rintro σ' H2 ⟨q, ls, rfl, hq, nqb, hB2, s2, nd, hL, l5, l26⟩
    have hq2 : del H2 b q = some (.lst (ls.map fun c => V.str (sg c))) := by rw [del_ne nqb]; exact hq
    walk_at "S"
    refine ⟨b, l, q, ns, _, rfl, hB2, SqL.of hq2, by rw [List.length_map]; omega, fun ys p1 H3 pm hB3 s3 hp3 np3 hy3 => ?_⟩
    have e0 : (ls.map fun c => V.str (sg c)) = (ls.map sg).map V.str := by rw [List.map_map]; rfl
    rw [e0] at pm
    obtain ⟨zs, rfl, pmz⟩ := perm_map_inv (f := V.str) pm
    obtain ⟨us, rfl, pmu⟩ := perm_map_inv (f := sg) pmz
    have lu : us.length = ls.length := pmu.length_eq
    walk_at "S"
    refine ⟨b, _, l, ns, rfl, hB3, by omega, log_le (by omega) (by omega), fun d H4 d0 d1 hB4 e4 => ?_⟩
    obtain ⟨j, rfl⟩ := Int.eq_ofNat_of_zero_le d0
    have hy4 : H4 p1 = some (.lst ((us.map sg).map V.str)) := by rw [del_get e4 np3]; exact hy3
    walk_at "S"
    refine w_slL (SqL.of hy4) fun p2 H5 hp5 s5 h5 => ?_
    rw [show (1 : Int) + (j : Int) = ((1 + j : Nat) : Int) by omega, cutV_to, ← List.map_take, ← List.map_take] at h5
    walk_at "S"
    have hln : ((us.take (1 + j)).map sg).length = 1 + j := by rw [List.length_map, List.length_take]; omega
    refine w_sortedS (SqL.of h5) (by omega) fun ws p3 H6 pm6 so6 hp6 s6 h6 => ?_
    obtain ⟨ks, rfl, pmk⟩ := perm_map_inv (f := sg) pm6
    have lk : ks.length = 1 + j := by rw [pmk.length_eq, List.length_take]; omega
    walk_at "S"
    refine w_join (SqL.of h6) ?_ ?_
    · rw [sum_sg, List.length_map]
      show ks.length + ks.length * 0 ≤ _
      omega
    · rw [join_sg]
      have ndk : ks.Nodup := pmk.nodup_iff.mpr ((pmu.nodup_iff.mpr nd).sublist (List.take_sublist _ _))
      have s36 : Same (del H3 b) (del H6 b) := by
        have := same_of_del e4
        exact this.trans (same_b_of (s5.trans s6))
      exact k ks H6 ⟨by omega, by omega, fun c hc => hL c (pmu.mem_iff.mp (List.mem_of_mem_take (pmk.mem_iff.mp hc))), strict_of (sorted_sg ks so6) ndk⟩ (by omega) ((hB4.same s5).same s6) ((s2.trans s3).trans s36)
  · intro N hN
    have hB1 := hB.same s1
    have npb := (hB.neB hp).1
    have hp1' : H1 p = some (.lst (LET.map fun c => V.str (sg c))) := hp1
    walk_at "S"
    refine ⟨b, 2, l, ns, rfl, hB1, by decide, log_le (by decide) (by decide), fun d H2 d0 d1 hB2 e2 => ?_⟩
    have hp2 : H2 p = some (.lst (LET.map fun c => V.str (sg c))) := by rw [del_get e2 npb]; exact hp1'
    have s02 : Same (del H b) (del H2 b) := (same_b_of s1).trans (same_of_del e2)
    walk_at "S"
    refine w_iteB (fun c => ?_) (fun c => ?_)
    · walk_at "S"
      refine w_slL (SqL.of hp2) fun q H3 hq s3 h3 => ?_
      rw [show (5 : Int) = ((5 : Nat) : Int) from rfl, cutV_to, ← List.map_take] at h3
      walk_at "S"
      refine hN _ _ ⟨q, LET.take 5, rfl, h3, (hB2.neB hq).1, hB2.same s3, s02.trans (same_b_of s3), by decide, by decide, by decide, by decide⟩
    · walk_at "S"
      exact hN _ _ ⟨p, LET, rfl, hp2, npb, hB2, s02, by decide, fun c h => h, by decide, by decide⟩
/-! ### _law_names -/
def sp__law_names (K : PySem.W.Frag) : Sp := fun vs H Q _ => ∃ (b l : Addr) (ns : List Int) (many : Nat), vs = [.ref b, .int (many : Int)] ∧ BagX l ns H b ∧ many ≤ 1000 ∧
  ∀ (zs : List Int) p H', zs.length = many → (∀ z ∈ zs, 0 ≤ z) → zs.Nodup → BagX l ns H' b → Same (del H b) (del H' b) → del H b p = none → p ≠ b → H' p = some (.lst (zs.map V.int)) → Q (.ref p) H'
theorem ok__law_names (T : Txt K mg) : FnOk P w K mg base (L2.CX P w) 3 (He.fAd K ("_law_names", none)) (fdF K ("_law_names", none)) ["_law_bag_here", "_law_many"] (sp__law_names K) := by
  refine (F__law_names T).ok (k := 2) sc__law_names (fun vs H Q E h => by obtain ⟨_, _, _, _, rfl, _⟩ := h; rfl) (fun cdv A outer s H vs Q E hr h => ?_)
  refine ⟨_, (pss_cons (ps_if (pt_cmpR op_eq (pe_call (ok__law_pick T) (hr.mono (by first | decide | omega)) (by rfl) (g__law_pick T) (kp__law_pick T) (b__law_pick T) .nil (passes_call (takes_of rfl rfl rfl rfl) (fun _ _ _ _ h => h)) (pa_cons (pv 0) (pa_cons pe_int pa_nil))) pe_int (nomark _)) (pss_one (ps_ret (pe_call (ok__law_shuffled T) (hr.mono (by first | decide | omega)) (by rfl) (g__law_shuffled T) (kp__law_shuffled T) (b__law_shuffled T) .nil (passes_call (takes_of rfl rfl rfl rfl) (fun _ _ _ _ h => h)) (pa_cons (pv 0) (pa_cons (pe_listRg (by rfl) (by rfl) (fr_list T) (prg_1 (by rfl) (fr_range T) (pv 1))) pa_nil))))) pss_nil)
    (pss_cons (ps_asg (pe_tup (pa_cons (pe_call (ok__law_pick T) (hr.mono (by first | decide | omega)) (by rfl) (g__law_pick T) (kp__law_pick T) (b__law_pick T) .nil (passes_call (takes_of rfl rfl rfl rfl) (fun _ _ _ _ h => h)) (pa_cons (pv 0) (pa_cons (pe_op op_pow pe_int pe_int) pa_nil))) (pa_cons (pe_op op_add pe_int (pe_call (ok__law_pick T) (hr.mono (by first | decide | omega)) (by rfl) (g__law_pick T) (kp__law_pick T) (b__law_pick T) .nil (passes_call (takes_of rfl rfl rfl rfl) (fun _ _ _ _ h => h)) (pa_cons (pv 0) (pa_cons (pe_op op_pow pe_int pe_int) pa_nil)))) pa_nil))) (pg_tup (by rfl) (pgs_cons (pg_name (i := 2) sc__law_names.nd rfl (by first | exact Or.inl rfl | exact Or.inr rfl)) (pgs_cons (pg_name (i := 3) sc__law_names.nd rfl (by first | exact Or.inl rfl | exact Or.inr rfl)) pgs_nil))))
    (pss_one (ps_ret (pe_call (ok__law_shuffled T) (hr.mono (by first | decide | omega)) (by rfl) (g__law_shuffled T) (kp__law_shuffled T) (b__law_shuffled T) .nil (passes_call (takes_of rfl rfl rfl rfl) (fun _ _ _ _ h => h)) (pa_cons (pv 0) (pa_cons (pe_lc (own := [("_law_k", 4)]) (g := (gName 4)) (tt := tYes)  (by rfl) sc__law_names.nd (pi_range1 (by rfl) (fr_range T) (pa_cons (pv 1) pa_nil)) (blkOk_by (own := [("_law_k", 4)]) (N := ["_law_bag_here", "_law_many", "_law_base", "_law_step", "_law_k"]) (sc := defScope s__law_names) (by decide +kernel)) (fun _ _ _ _ _ => (pg_name (i := 4) sc__law_names.nd rfl (by first | exact Or.inl rfl | exact Or.inr rfl))) (fun _ _ _ _ _ => pts_nil) (fun _ _ _ _ _ => (pe_op op_add (pv 2) (pe_op op_mul (pv 4) (pv 3))))) pa_nil))))))), ?_⟩
  obtain ⟨b, l, ns, many, rfl, hB, hm, k⟩ := h
  walk_at "B"
  refine ⟨b, 2, l, ns, rfl, hB, by decide, log_le (by decide) (by decide), fun d H1 d0 d1 hB1 e1 => ?_⟩
  have s1 := same_of_del e1
  walk_at "S"
  refine w_iteB (fun c => ?_) (fun c => ?_)
  · walk_at "S"
    refine w_rgNew (RgOk.of_le (by omega) (by omega) (by omega) (by omega)) fun p H2 hp s2 h2 => ?_
    have npb := (hB1.neB hp).1
    walk_at "S"
    have e0 : rgV 0 (many : Int) = (ups many).map V.int := by
      unfold rgV ups
      rw [List.map_map]
      simp
    rw [e0] at h2
    refine ⟨b, l, p, ns, _, rfl, hB1.same s2, SqL.of (by rw [del_ne npb]; exact h2), by rw [List.length_map, ups_len]; omega, fun ys q H3 pm hB3 s3 hq nq h3 => ?_⟩
    obtain ⟨zs, rfl, pmz⟩ := perm_map_inv pm
    have s2b := same_b_of (b := b) s2
    exact k zs q H3 (by rw [pmz.length_eq, ups_len]) (fun z hz => by
      have := pmz.mem_iff.mp hz
      simp only [ups, List.mem_map] at this
      obtain ⟨i, _, rfl⟩ := this
      omega) (pmz.nodup_iff.mpr (ups_nodup many)) hB3 ((s1.trans s2b).trans s3) ((s1.trans s2b).free hq) nq h3
  · walk_at "S"
    refine ⟨b, _, l, ns, rfl, hB1, by decide, log_le (by decide) (by decide), fun base H2 b0 b1 hB2 e2 => ?_⟩
    walk_at "S"
    refine ⟨b, _, l, ns, rfl, hB2, by decide, log_le (by decide) (by decide), fun st H3 st0 st1 hB3 e3 => ?_⟩
    walk_at "S"
    refine w_newT (by show 2 ≤ sizeLine; decide) fun t H4 ht s4 h4 => ?_
    have s04 : Same (del H b) (del H4 b) := ((s1.trans (same_of_del e2)).trans (same_of_del e3)).trans (same_b_of s4)
    walk_at "S"
    refine lc_map (ys := (List.range many).map fun i : Nat => V.int (base + (i : Int) * (1 + st))) walk_range (by simp) (Nat.le_trans hm (by decide)) (fun _ _ => trivial) yfn_same ?_ ?_
    · rintro i x H5 H6 N hi s5 ⟨rfl, rfl⟩ hN
      have hi2 : i < many := by omega
      walk_at "S"
      refine ⟨rfl, ?_⟩
      walk_at "S"
      refine hN _ _ ?_ (Same.refl _)
      rw [List.getElem?_map, List.getElem?_range hi2]
      simp
    · intro D H5 hD s5 h5
      walk_at "S"
      have nDb := ((hB3.same s4).neB hD).1
      have e0 : ((List.range many).map fun i : Nat => V.int (base + (i : Int) * (1 + st))) = ((List.range many).map fun i : Nat => base + (i : Int) * (1 + st)).map V.int := by rw [List.map_map]; rfl
      rw [e0] at h5
      refine ⟨b, l, D, ns, _, rfl, (hB3.same s4).same s5, SqL.of (by rw [del_ne nDb]; exact h5), by simp; omega, fun ys q H6 pm hB6 s6 hq nq h6 => ?_⟩
      obtain ⟨zs, rfl, pmz⟩ := perm_map_inv pm
      have s5b := same_b_of (b := b) s5
      refine k zs q H6 (by rw [pmz.length_eq]; simp) (fun z hz => ?_) (pmz.nodup_iff.mpr ?_) hB6 ((s04.trans s5b).trans s6) ((s04.trans s5b).free hq) nq h6
      · have := pmz.mem_iff.mp hz
        simp only [List.mem_map] at this
        obtain ⟨i, _, rfl⟩ := this
        exact Int.add_nonneg b0 (Int.mul_nonneg (by omega) (by omega))
      · refine List.Pairwise.map _ (fun i j (hij : i ≠ j) e => hij ?_) List.nodup_range
        have e2 : (i : Int) * (1 + st) = (j : Int) * (1 + st) := by omega
        have := Int.eq_of_mul_eq_mul_right (by omega) e2
        omega
/-! ### _law_row -/
def sp__law_row (K : PySem.W.Frag) : Sp := fun vs H Q _ => ∃ (b l : Addr) (ns : List Int) (cs : List Nat) (cap : Nat), vs = [.ref b, .str (ofL cs), .int (cap : Int)] ∧ BagX l ns H b ∧ GoodL cs ∧ cap ≤ 1000 ∧
  ∀ (r : Row) (xs : List V) p H', r.length ≤ cap → (∀ q ∈ r, ∃ c ∈ cs, q.1 = sg c) → (∀ q ∈ r, 0 ≤ q.2) → BagX l ns H' b → Same (del H b) (del H' b) → del H b p = none → p ≠ b → H' p = some (.lst xs) → DpAll K (del H' b) xs (r.map hapD) → Q (.ref p) H'
theorem ok__law_row (T : Txt K mg) : FnOk P w K mg base (L2.CX P w) 4 (He.fAd K ("_law_row", none)) (fdF K ("_law_row", none)) ["_law_bag_here", "_law_kinds", "_law_cap"] (sp__law_row K) := by
  refine (F__law_row T).ok (k := 3) sc__law_row (fun vs H Q E h => by obtain ⟨_, _, _, _, _, rfl, _⟩ := h; rfl) (fun cdv A outer s H vs Q E hr h => ?_)
  refine ⟨_, (pss_cons (ps_set (i := 3) sc__law_row.nd rfl (by first | exact Or.inl rfl | exact Or.inr rfl) (pe_call (ok__law_names T) (hr.mono (by first | decide | omega)) (by rfl) (g__law_names T) (kp__law_names T) (b__law_names T) .nil (passes_call (takes_of rfl rfl rfl rfl) (fun _ _ _ _ h => h)) (pa_cons (pv 0) (pa_cons (pe_op op_add pe_int (pe_call (ok__law_pick T) (hr.mono (by first | decide | omega)) (by rfl) (g__law_pick T) (kp__law_pick T) (b__law_pick T) .nil (passes_call (takes_of rfl rfl rfl rfl) (fun _ _ _ _ h => h)) (pa_cons (pv 0) (pa_cons pe_int pa_nil)))) pa_nil))))
    (pss_one (ps_ret (pe_lc (own := [("_law_k", 4)]) (g := (gName 4)) (tt := tYes)  (by rfl) sc__law_row.nd (pi_range1 (by rfl) (fr_range T) (pa_cons (pe_call (ok__law_pick T) (hr.mono (by first | decide | omega)) (by rfl) (g__law_pick T) (kp__law_pick T) (b__law_pick T) .nil (passes_call (takes_of rfl rfl rfl rfl) (fun _ _ _ _ h => h)) (pa_cons (pv 0) (pa_cons (pe_op op_add (pv 2) pe_int) pa_nil))) pa_nil)) (blkOk_by (own := [("_law_k", 4)]) (N := ["_law_bag_here", "_law_kinds", "_law_cap", "_law_pool", "_law_k"]) (sc := defScope s__law_row) (by decide +kernel)) (fun _ _ _ _ _ => (pg_name (i := 4) sc__law_row.nd rfl (by first | exact Or.inl rfl | exact Or.inr rfl))) (fun _ _ _ _ _ => pts_nil) (fun _ _ _ _ _ => (pe_tup (pa_cons (pe_call (ok__law_of T) (hr.mono (by first | decide | omega)) (by rfl) (g__law_of T) (kp__law_of T) (b__law_of T) .nil passL (pa_cons (pv 0) (pa_cons (pv 1) pa_nil))) (pa_cons (pe_call (ok__law_of T) (hr.mono (by first | decide | omega)) (by rfl) (g__law_of T) (kp__law_of T) (b__law_of T) .nil passL (pa_cons (pv 0) (pa_cons (pv 3) pa_nil))) pa_nil)))))))), ?_⟩
  obtain ⟨b, l, ns, cs, cap, rfl, hB, hc, hcap, k⟩ := h
  have hl4 : (ofL cs).length ≤ sizeLine := by rw [len_ofL]; exact Nat.le_trans hc.four (by decide)
  have hseqK : ∀ H, IsSeq K H (.str (ofL cs)) (cs.map fun c => V.str (sg c)) := fun H => .inr (.inr ⟨_, rfl, hl4, by rw [toL_ofL]; rfl⟩)
  walk_at "B"
  refine ⟨b, _, l, ns, rfl, hB, by decide, log_le (by decide) (by decide), fun d H1 d0 d1 hB1 e1 => ?_⟩
  have s1 := same_of_del e1
  walk_at "S"
  refine ⟨b, l, ns, (1 + d).toNat, by rw [Int.toNat_of_nonneg (by omega)]; rfl, hB1, by omega, fun zs p H2 hz hz0 _ hB2 s2 hp np h2 => ?_⟩
  walk_at "S"
  refine ⟨b, _, l, ns, rfl, hB2, by omega, log_le (by omega) (by omega), fun m H3 m0 m1 hB3 e3 => ?_⟩
  have s03 := (s1.trans s2).trans (same_of_del e3)
  have h3 : del H3 b p = some (.lst (zs.map V.int)) := by rw [e3, del_ne np]; exact h2
  walk_at "S"
  refine lc_inv walk_range (fun D i acc H' => BagX l ns H' b ∧ Same (del H b) (del H' b) ∧ ∃ r : Row, r.length = i ∧ DpAll K (del H' b) acc (r.map hapD) ∧ (∀ q ∈ r, ∃ c ∈ cs, q.1 = sg c) ∧ (∀ q ∈ r, 0 ≤ q.2) ∧ del H' b p = some (.lst (zs.map V.int)))
    (fun D H' hD s _ => ⟨hB3.same s, s03.trans (same_b_of s), [], rfl, .nil, by simp, by simp, same_b_of s _ _ h3⟩) (fun _ _ _ _ _ _ _ _ => trivial) ?_ ?_
  · rintro D i acc x H40 H4 N M hi hD hD4 ⟨hB4, s4, r, hr, hda, hk, hn, hp4⟩ ⟨rfl, rfl⟩ hN hM
    have nDb : D ≠ b := (hB3.neB hD).1
    have nDl : D ≠ l := (hB3.neB hD).2
    walk_at "S"
    refine ⟨rfl, ?_⟩
    walk_at "S"
    refine ⟨b, l, ns, _, _, rfl, hB4, hseqK _, by rw [List.length_map]; exact hc.one, by rw [List.length_map]; have := hc.four; omega, fun v H6 hv hB6 e6 => ?_⟩
    obtain ⟨c, hcm, rfl⟩ := List.mem_map.mp hv
    walk_at "S"
    refine ⟨b, l, ns, .ref p, zs.map V.int, rfl, hB6, .inl ⟨p, rfl, SqL.of (by rw [e6]; exact hp4)⟩, by rw [List.length_map]; omega, by rw [List.length_map]; omega, fun v H7 hv hB7 e7 => ?_⟩
    obtain ⟨z, hzm, rfl⟩ := List.mem_map.mp hv
    walk_at "S"
    refine w_newT (by show 2 ≤ sizeLine; decide) fun t H8 ht s8 h8 => ?_
    have e47 : del H7 b = del H4 b := e7.trans e6
    have hD7 : H7 D = some (.lst acc) := by rw [del_get e47 nDb]; exact hD4
    have hlen : acc.length = i := by rw [DpAll.len hda, List.length_map, hr]
    refine hN _ _ _ (s8 _ _ hD7) (Nat.lt_of_lt_of_le (show acc.length < 100000 by omega) (by decide)) fun H9 h9 e9 => ?_
    have ntb : t ≠ b := (hB7.neB ht).1
    have ntD : t ≠ D := (ne_of_none hD7 ht).symm
    have s48 : Same (del H4 b) (del H8 b) := by rw [← e47]; exact same_b_of s8
    have ebD : del (del H9 b) D = del (del H8 b) D := by rw [del_comm, e9, del_comm]
    have mu : Mut ((del H8 b) D) := by rw [del_ne nDb, s8 _ _ hD7]; trivial
    refine ⟨(hB7.same s8).wr e9 nDb nDl, ?_, r ++ [(sg c, z)], by simp [hr], ?_, ?_, ?_, ?_⟩
    · exact same_wr (s4.trans s48) (s03.free (by rw [del_ne nDb]; exact hD)) e9
    · refine hap_snoc (dpAll_wr mu ebD (Same.dpAll s48 hda) (hap_noL _)) (SqT.of ?_)
      rw [del_ne ntb, del_get e9 ntD]
      exact h8
    · intro q hq
      rcases List.mem_append.mp hq with h | h
      · exact hk q h
      · rw [List.mem_singleton.mp h]; exact ⟨c, hcm, rfl⟩
    · intro q hq
      rcases List.mem_append.mp hq with h | h
      · exact hn q h
      · rw [List.mem_singleton.mp h]; exact hz0 z hzm
    · have npD : p ≠ D := by
        intro e
        rw [e, del_ne nDb, hD] at h3
        cases h3
      have h8p := s48 _ _ hp4
      rw [del_ne np] at h8p ⊢
      rw [del_get e9 npD]
      exact h8p
  · rintro D acc H4 hD hD4 ⟨hB4, s4, r, hr, hda, hk, hn, hp4⟩
    have nDb : D ≠ b := (hB3.neB hD).1
    exact k r acc D H4 (by omega) hk hn hB4 s4 (s03.free (by rw [del_ne nDb]; exact hD)) nDb hD4 hda
/-! ### _law_plain -/
def sp__law_plain (K : PySem.W.Frag) : Sp := fun vs H Q _ => ∃ (v : V) (r : Row), vs = [v] ∧ Dp K H v (rowD r) ∧ r.length ≤ 1000 ∧ NewRow K H (plainR r) Q
theorem ok__law_plain (T : Txt K mg) : FnOk P w K mg base (L2.CX P w) 1 (He.fAd K ("_law_plain", none)) (fdF K ("_law_plain", none)) ["_law_seq"] (sp__law_plain K) := by
  refine (F__law_plain T).ok (k := 0) sc__law_plain (fun vs H Q E h => by obtain ⟨_, _, rfl, _⟩ := h; rfl) (fun cdv A outer s H vs Q E hr h => ?_)
  refine ⟨_, (pss_cons (ps_set (i := 1) sc__law_plain.nd rfl (by first | exact Or.inl rfl | exact Or.inr rfl) (pe_lst pa_nil))
    (pss_cons (ps_set (i := 2) sc__law_plain.nd rfl (by first | exact Or.inl rfl | exact Or.inr rfl) (pe_lst pa_nil))
    (pss_cons (ps_for (passes_of rfl) (by rfl) (pi_list (pv 0)) (pg_tup (by rfl) (pgs_cons (pg_name (i := 3) sc__law_plain.nd rfl (by first | exact Or.inl rfl | exact Or.inr rfl)) (pgs_cons (pg_name (i := 4) sc__law_plain.nd rfl (by first | exact Or.inl rfl | exact Or.inr rfl)) pgs_nil))) (pss_cons (ps_if (pt_cmpR op_notIn_seq (pv 4) (pv 1) (by rfl)) (pss_one (ps_expr (pe_bm PySem.F.plainAttrs_list PySem.F.slot_list_append PySem.F.type_list_append mt_append (pv 1) (pa_cons (pv 4) pa_nil)))) pss_nil)
    (pss_one (ps_expr (pe_bm PySem.F.plainAttrs_list PySem.F.slot_list_append PySem.F.type_list_append mt_append (pv 2) (pa_cons (pe_tup (pa_cons (pv 3) (pa_cons (pe_bm PySem.F.plainAttrs_list PySem.F.slot_list_index PySem.F.type_list_index mt_index (pv 1) (pa_cons (pv 4) pa_nil)) pa_nil))) pa_nil))))))
    (pss_one (ps_ret (pv 2)))))), ?_⟩
  obtain ⟨v, r, rfl, hd, hl, k⟩ := h
  obtain ⟨a, xs, rfl, ha, hx⟩ := Dp.lstI hd
  have hxl : xs.length = r.length := by rw [DpAll.len hx, List.length_map]
  walk_at "B"
  refine w_newL (by simp) fun po H1 hpo s1 h1 => ?_
  walk_at "S"
  refine w_newL (by simp) fun f H2 hf s2 hf2 => ?_
  have s02 := s1.trans s2
  have ha2 := s02.seq ha
  have nfp : f ≠ po := (ne_of_none h1 hf).symm
  walk_at "S"
  refine for_inv walk_list (fun i σ H' => ∃ (s1 s2 : Option V) (ys : List V), σ = [some (.ref a), some (.ref po), some (.ref f), s1, s2] ∧ Same H H' ∧ H' po = some (.lst ((plFold (r.take i)).1.map V.int)) ∧ H' f = some (.lst ys) ∧ DpAll K H' ys ((plFold (r.take i)).2.map hapD))
    ⟨none, none, [], rfl, s02, s2 _ _ h1, hf2, .nil⟩ (fun i σ H' _ ⟨_, _, _, _, s3, _⟩ => s3.seq ha) ?_ ?_
  · rintro i x σ H3 H4 hi ⟨v1, v2, ys, rfl, s3, hp3, hf3, hy3⟩ ⟨rfl, hx3⟩
    obtain ⟨kk, n, t, hr3, rfl, ht3⟩ := hap_at (Same.dpAll s3 hx) hx3
    have step := plFold_more hr3
    have hpl : (plFold (r.take i)).1.length ≤ 1000 := Nat.le_trans (plFold_pool_len _) (by rw [List.length_take]; omega)
    have hyl : ys.length ≤ 1000 := by rw [DpAll.len hy3, List.length_map, plFold_len, List.length_take]; omega
    generalize plFold (r.take i) = st at step hp3 hy3 hpl
    obtain ⟨pool, out⟩ := st
    have hNpo : H po = none := hpo
    have hNf : H f = none := s1.free hf
    walk_at "D"
    refine w_gTup ht3 rfl ?_
    walk_at "n"
    walk_at "n"
    walk_at "n"
    walk_at "n"
    walk_at "n"
    with_reducible refine w_seqJ (fun σ' H5 => σ' = [some (.ref a), some (.ref po), some (.ref f), some (.str kk), some (.int n)] ∧ H5 po = some (.lst ((if n ∈ pool then pool else pool ++ [n]).map V.int)) ∧ H5 f = some (.lst ys) ∧ Same H H5 ∧ DpAll K H5 ys (out.map hapD)) ?_ ?_
    · rintro σ' H5 ⟨rfl, hp5, hf5, s5, hy5⟩
      have hmem : n ∈ (if n ∈ pool then pool else pool ++ [n]) := by
        split
        · assumption
        · simp
      walk_at "S"
      refine w_index (SqL.of hp5) rfl (flat_ints _) (idx_at hmem) (by simp [eqV]) (fun i w => idx_ahead) ?_
      walk_at "S"
      refine w_newT (by show 2 ≤ sizeLine; decide) fun t6 H6 ht6 s6 htt6 => ?_
      have hf6 := s6 _ _ hf5
      walk_at "S"
      refine w_append hf6 (by omega) fun H7 hf7 e7 => ?_
      have nft : t6 ≠ f := (ne_of_none hf5 ht6).symm
      have s7 : Same H H7 := fun b o e => by
        by_cases c : b = f
        · rw [c, hNf] at e; cases e
        · rw [del_get e7 c]; exact s6 _ _ (s5 b o e)
      walk_at "S"
      refine ⟨_, _, _, rfl, s7, ?_, hf7, ?_⟩
      · rw [del_get e7 nfp.symm, step]; exact s6 _ _ hp5
      · rw [step]
        refine hap_snoc (dpAll_wr (p := f) (by rw [hf6]; trivial) e7 (Same.dpAll s6 hy5) (hap_noL _)) (SqT.of ?_)
        rw [del_get e7 nft]; exact htt6
    · intro N hN
      walk_at "S"
      refine w_notInSeq (.inl (SqL.of hp3)) rfl (flat_ints _) ?_
      rw [inV_ints]
      walk_at "S"
      refine w_iteN (fun c => ?_) (fun c => ?_)
      · have hn := of_decide_eq_false c
        walk_at "S"
        refine w_append hp3 (by rw [List.length_map]; omega) fun H5 hp5 e5 => ?_
        walk_at "S"
        refine hN _ _ ⟨rfl, ?_, ?_, ?_, ?_⟩
        · rw [hp5, if_neg hn, List.map_append]; rfl
        · rw [del_get e5 nfp]; exact hf3
        · intro b o e
          by_cases c : b = po
          · rw [c, hNpo] at e; cases e
          · rw [del_get e5 c]; exact s3 b o e
        · exact dpAll_wr (p := po) (by rw [hp3]; trivial) e5 hy3 (hap_noL _)
      · have hn := of_decide_eq_true c
        walk_at "S"
        exact hN _ _ ⟨rfl, by rw [if_pos hn]; exact hp3, hf3, s3, hy3⟩
  · rintro σ H3 ⟨v1, v2, ys, rfl, s3, hp3, hf3, hy3⟩
    rw [hxl, List.take_length] at hy3
    walk_at "S"
    exact k f H3 ys (s1.free hf) s3 hf3 hy3
/-! ### law -/
def sp_law (K : PySem.W.Frag) : Sp := fun vs H Q _ => ∃ (a : Addr) (ns : List Int), vs = [.ref a] ∧ SqL K H a (ns.map V.int) ∧ ns.length ≤ 63 ∧ ∀ H', Q (.bl true) H'
theorem dlt_row {r : Row} (h : r.length ≤ 1000) : dlt 3 (rowD r) := by
  refine ⟨by rw [List.length_map]; exact h, fun d hd => ?_⟩
  obtain ⟨p, _, rfl⟩ := List.mem_map.mp hd
  refine ⟨by show 2 ≤ 1000; decide, fun d hd => ?_⟩
  rcases List.mem_cons.mp hd with e | hd
  · rw [e]; exact trivial
  · rcases List.mem_cons.mp hd with e | hd
    · rw [e]; exact trivial
    · cases hd
theorem ok_law (T : Txt K mg) : FnOk P w K mg base (L2.CX P w) 7 (He.fAd K ("law", none)) (fdF K ("law", none)) ["_law_script"] (sp_law K) := by
  refine (F_law T).ok (k := 6) sc_law (fun vs H Q E h => by obtain ⟨_, _, rfl, _⟩ := h; rfl) (fun cdv A outer s H vs Q E hr h => ?_)
  refine ⟨_, (pss_cons (ps_set (i := 1) sc_law.nd rfl (by first | exact Or.inl rfl | exact Or.inr rfl) (pe_call (ok__law_bag T) (hr.mono (by first | decide | omega)) (by rfl) (g__law_bag T) (kp__law_bag T) (b__law_bag T) .nil (passes_call (takes_of rfl rfl rfl rfl) (fun _ _ _ _ h => h)) (pa_cons (pv 0) pa_nil)))
    (pss_cons (ps_for (passes_of rfl) (by rfl) (pi_range1 (by rfl) (fr_range T) (pa_cons pe_int pa_nil)) (pg_name (i := 2) sc_law.nd rfl (by first | exact Or.inl rfl | exact Or.inr rfl)) (pss_cons (ps_set (i := 3) sc_law.nd rfl (by first | exact Or.inl rfl | exact Or.inr rfl) (pe_call (ok__law_signs T) (hr.mono (by first | decide | omega)) (by rfl) (g__law_signs T) (kp__law_signs T) (b__law_signs T) .nil (passes_call (takes_of rfl rfl rfl rfl) (fun _ _ _ _ h => h)) (pa_cons (pv 1) (pa_cons pe_int pa_nil))))
    (pss_cons (ps_set (i := 4) sc_law.nd rfl (by first | exact Or.inl rfl | exact Or.inr rfl) (pe_call (ok__law_row T) (hr.mono (by first | decide | omega)) (by rfl) (g__law_row T) (kp__law_row T) (b__law_row T) .nil (passes_call (takes_of rfl rfl rfl rfl) (fun _ _ _ _ h => h)) (pa_cons (pv 1) (pa_cons (pv 3) (pa_cons pe_int pa_nil)))))
    (pss_cons (ps_set (i := 5) sc_law.nd rfl (by first | exact Or.inl rfl | exact Or.inr rfl) (pe_callTy call_listOf (by rfl) (fr_list T) (by decide +kernel) (pa_cons (pv 4) pa_nil)))
    (pss_cons (ps_for (passes_of rfl) (by rfl) (pi_range1 (by rfl) (fr_range T) (pa_cons pe_int pa_nil)) (pg_name (i := 6) sc_law.nd rfl (by first | exact Or.inl rfl | exact Or.inr rfl)) (pss_cons (ps_set (i := 7) sc_law.nd rfl (by first | exact Or.inl rfl | exact Or.inr rfl) (pe_call (ok_plain T) (hr.mono (by first | decide | omega)) (by rfl) (g_plain T) (kp_plain T) (b_plain T) .nil (passes_call (takes_of rfl rfl rfl rfl) (fun _ _ _ _ h => h)) (pa_cons (pv 3) (pa_cons (pv 5) pa_nil))))
    (pss_cons (ps_if (PW.pt (pw_or (pt_not (pt_val (pe_call (ok__law_same T 4) (hr.mono (by first | decide | omega)) (by rfl) (g__law_same T) (kp__law_same T) (b__law_same T) .nil (passes_call (takes_of rfl rfl rfl rfl) (fun _ _ _ _ h => h)) (pa_cons (pv 7) (pa_cons (pe_call (ok__law_plain T) (hr.mono (by first | decide | omega)) (by rfl) (g__law_plain T) (kp__law_plain T) (b__law_plain T) .nil (passes_call (takes_of rfl rfl rfl rfl) (fun _ _ _ _ h => h)) (pa_cons (pv 4) pa_nil)) pa_nil))))) (pw_or1 (pt_cmpR (op_neD hr.units) (pv 5) (pv 4) (nomark _))))) (pss_one (ps_ret pe_bl)) pss_nil)
    (pss_one (ps_expr (pe_bm PySem.F.plainAttrs_list PySem.F.slot_list_append PySem.F.type_list_append mt_append (pv 7) (pa_cons (pe_tup (pa_cons pe_str (pa_cons pe_int pa_nil))) pa_nil)))))))
    (pss_one (ps_if (pt_not (pt_val (pe_call (ok__law_same T 4) (hr.mono (by first | decide | omega)) (by rfl) (g__law_same T) (kp__law_same T) (b__law_same T) .nil (passes_call (takes_of rfl rfl rfl rfl) (fun _ _ _ _ h => h)) (pa_cons (pe_call (ok_plain T) (hr.mono (by first | decide | omega)) (by rfl) (g_plain T) (kp_plain T) (b_plain T) .nil (passes_call (takes_of rfl rfl rfl rfl) (fun _ _ _ _ h => h)) (pa_cons (pv 3) (pa_cons (pe_call (ok__law_plain T) (hr.mono (by first | decide | omega)) (by rfl) (g__law_plain T) (kp__law_plain T) (b__law_plain T) .nil (passes_call (takes_of rfl rfl rfl rfl) (fun _ _ _ _ h => h)) (pa_cons (pv 4) pa_nil)) pa_nil))) (pa_cons (pe_call (ok__law_plain T) (hr.mono (by first | decide | omega)) (by rfl) (g__law_plain T) (kp__law_plain T) (b__law_plain T) .nil (passes_call (takes_of rfl rfl rfl rfl) (fun _ _ _ _ h => h)) (pa_cons (pv 4) pa_nil)) pa_nil))))) (pss_one (ps_ret pe_bl)) pss_nil)))))))
    (pss_one (ps_ret (pe_call (ok__law_same T 4) (hr.mono (by first | decide | omega)) (by rfl) (g__law_same T) (kp__law_same T) (b__law_same T) .nil (passes_call (takes_of rfl rfl rfl rfl) (fun _ _ _ _ h => h)) (pa_cons (pe_call (ok_plain T) (hr.mono (by first | decide | omega)) (by rfl) (g_plain T) (kp_plain T) (b_plain T) .nil (passes_call (takes_of rfl rfl rfl rfl) (fun _ _ _ _ h => h)) (pa_cons pe_str (pa_cons (pe_lst pa_nil) pa_nil))) (pa_cons (pe_lst pa_nil) pa_nil))))))), ?_⟩
  obtain ⟨a, ns, rfl, hS, hl, k⟩ := h
  walk_at "B"
  refine ⟨a, ns, rfl, hS, hl, fun b l H1 s1 hb hB1 => ?_⟩
  walk_at "S"
  refine for_inv walk_range (fun i σ H' => ∃ (o1 o2 o3 o4 o5 o6 : Option V), σ = [some (.ref a), some (.ref b), o1, o2, o3, o4, o5, o6] ∧ BagX l ns H' b) ⟨_, _, _, _, _, _, rfl, hB1⟩ (fun _ _ _ _ _ => trivial) ?_ ?_
  · rintro i x σ H3 H2 hi ⟨o1, o2, o3, o4, o5, o6, rfl, hB2⟩ ⟨rfl, rfl⟩
    walk_at "S"
    refine ⟨b, l, ns, 4, rfl, hB2, by decide, by decide, fun cs H3 hc hc4 hB3 s3 => ?_⟩
    walk_at "S"
    refine ⟨b, l, ns, cs, 40, rfl, hB3, hc, by decide, fun r xs p H4 hr hk hn hB4 s4 hp np h4 hx4 => ?_⟩
    have hg : GoodR cs r := ⟨hr, hk, hn⟩
    have h4' : del H4 b p = some (.lst xs) := by rw [del_ne np]; exact h4
    have hg2 : GoodR cs (plainR r) := hg.plain
    have dl : ∀ r' : Row, r'.length = r.length → dlt 3 (rowD r') := fun r' e => dlt_row (by omega)
    walk_at "S"
    refine w_listOf (.inl (SqL.of h4)) fun hq H5 hhq s5 h5 => ?_
    have hx5 : DpAll K H5 xs (r.map hapD) := Same.dpAll s5 (Same.dpAll same_del hx4)
    have dR : Dp K H5 (.ref p) (rowD r) := .lst (SqL.of (s5 _ _ h4)) hx5
    have dH : Dp K H5 (.ref hq) (rowD r) := .lst (SqL.of h5) hx5
    have hB5 := hB4.same s5
    walk_at "N"
    with_reducible refine w_seqJ (fun σ' H' => ∃ (o1 o2 o3 : Option V), σ' = [some (.ref a), some (.ref b), o1, some (.str (ofL cs)), some (.ref p), some (.ref hq), o2, o3] ∧ Same H5 H') ?_ ?_
    · rintro σ' H6 ⟨o1, o2, o3, rfl, s6⟩
      walk_at "S"
      refine ⟨.ref p, r, rfl, Same.dp s6 dR, by omega, fun g H7 zs hg7 s7 h7 hz7 => ?_⟩
      walk_at "S"
      refine ⟨cs, .ref g, plainR r, rfl, hc, .lst (SqL.of h7) hz7, hg2, fun f H8 ys hf s8 h8 hy8 => ?_⟩
      rw [plainR_again] at hy8
      have s68 := (s6.trans s7).trans s8
      walk_at "S"
      refine ⟨.ref p, r, rfl, Same.dp s68 dR, by omega, fun g2 H9 ws hg9 s9 h9 hw9 => ?_⟩
      walk_at "S"
      refine ⟨.ref f, .ref g2, rowD (plainR r), rfl, .lst (SqL.of (s9 _ _ h8)) (Same.dpAll s9 hy8), .lst (SqL.of h9) hw9, dl _ (plainR_len r), fun H10 s10 => ?_⟩
      walk_at "S"
      exact ⟨_, _, _, _, _, _, rfl, hB5.same ((s68.trans s9).trans s10)⟩
    · intro N hN
      walk_at "S"
      refine for_inv walk_range (fun i σ H' => ∃ (o1 o2 o3 : Option V), σ = [some (.ref a), some (.ref b), o1, some (.str (ofL cs)), some (.ref p), some (.ref hq), o2, o3] ∧ Same H5 H') ⟨_, _, _, rfl, Same.refl _⟩ (fun _ _ _ _ _ => trivial) ?_ ?_
      · rintro i x σ H60 H6 hi ⟨o1, o2, o3, rfl, s6⟩ ⟨rfl, rfl⟩
        walk_at "S"
        refine ⟨cs, .ref hq, r, rfl, hc, Same.dp s6 dH, hg, fun f H7 ys hf s7 h7 hy7 => ?_⟩
        have s67 := s6.trans s7
        walk_at "S"
        refine ⟨.ref p, r, rfl, Same.dp s67 dR, by omega, fun g H8 zs hg8 s8 h8 hz8 => ?_⟩
        walk_at "S"
        refine ⟨.ref f, .ref g, rowD (plainR r), rfl, .lst (SqL.of (s8 _ _ h7)) (Same.dpAll s8 hy7), .lst (SqL.of h8) hz8, dl _ (plainR_len r), fun H9 s9 => ?_⟩
        have s69 := (s67.trans s8).trans s9
        walk_at "S"
        refine w_neD (Same.dp s69 dH) (Same.dp s69 dR) (row_shaped (hg.lets hc)) (row_shaped (hg.lets hc)) ?_
        rw [row_eqv (hg.lets hc)]
        have h9 : H9 f = some (.lst ys) := s9 _ _ (s8 _ _ h7)
        walk_at "S"
        refine w_newT (by show 2 ≤ sizeLine; decide) fun t H10 ht s10 h10 => ?_
        have hyl : ys.length = r.length := by rw [DpAll.len hy7, List.length_map, plainR_len]
        have h10' := s10 _ _ h9
        walk_at "S"
        refine w_append h10' (by omega) fun H11 h11 e11 => ?_
        have s11 : Same H5 H11 := fun b o e => by
          by_cases c : b = f
          · rw [c, s6.free hf] at e; cases e
          · rw [del_get e11 c]; exact s10 _ _ (s69 _ _ e)
        walk_at "S"
        exact ⟨_, _, _, rfl, s11⟩
      · rintro σ H6 ⟨o1, o2, o3, rfl, s6⟩
        exact hN _ _ ⟨_, _, _, rfl, s6⟩
  · rintro σ H2 ⟨o1, o2, o3, o4, o5, o6, rfl, hB2⟩
    walk_at "S"
    refine w_newL (by simp) fun e H3 he s3 h3 => ?_
    walk_at "S"
    refine ⟨[97], .ref e, [], rfl, ⟨by decide, by decide, by decide, by simp⟩, .lst (SqL.of h3) .nil, ⟨by decide, by simp, by simp⟩, fun f H4 ys hf s4 h4 hy4 => ?_⟩
    walk_at "S"
    refine w_newL (by simp) fun g H5 hg s5 h5 => ?_
    walk_at "S"
    exact ⟨.ref f, .ref g, rowD [], rfl, .lst (SqL.of (s5 _ _ h4)) (Same.dpAll s5 hy4), .lst (SqL.of h5) .nil, dlt_row (by decide), fun H6 s6 => k H6⟩
end
end Nc
namespace Nc
open PySem PySem.Spec PyProof.Rows L2
abbrev R : PySem.W.OpenRow := PySem.W.OpenLaw.row PySem.Challenge.rw_namecote_k02_rows_made_plain
abbrev hk : PySem.W.Hook := He.hookD 5 fa fn
def ob (s : PySem.W.SharedT) : He.AlD := He.obsDG 5 fa fn (HandSHeadRun.getT s)
theorem ob_eq (s : PySem.W.SharedT) : ob s = hk.obs s.abs := He.obsDG_eq (HandSHeadRun.getT_eq s)
def loose : List Str := ["__name__", "CoteError", "BadKinds", "BadRow", "TooLong", "__name__", "LETTERS", "MOST_ROW", "MOST_KINDS", "is_number", "is_letter", "need_kinds", "is_happening", "need_row", "numbered", "plain", "__name__", "_law_bag", "_law_pick", "_law_of", "_law_shuffled", "_law_same", "_law_signs", "_law_names", "_law_row", "_law_plain"]
theorem run (w : World) : HandSHeadRun.RunEq R (PySem.W.view R.prog [26]) hk ob 4000 loose w := by
  intro os
  kernel_rfl
theorem facts {P : Program} {w : World} {K : PySem.W.Frag} {h : Heap} {mg : Str → Option Value} {f : Addr} (X : K.In h) (G : h.Ns mainGlobals mg) (hfa : mg ("law" : Str) = some (.ref f)) (c : He.SaysD fa fn K) :
    ∃ fd : FuncData, (∀ (s : Shared) (v : Value), BindsTo s fd ⟨[v], []⟩ [("_law_script", v)]) ∧ ∀ base : Heap, K.In base → base.Ns mainGlobals mg → FnOk P w K mg base (L2.CX P w) 7 f fd ["_law_script"] (sp_law K) := by
  have T : Txt K mg := ⟨c, h, X, G⟩
  have e := hfa.symm.trans (g_law T)
  cases e
  have b := FunD.bindsA (ps := ["_law_script"]) (F_law T) fun _ _ _ _ _ _ us hl => match us, hl with | [_], _ => rfl
  exact ⟨_, fun s v => b s [v] rfl, fun base _ _ => ok_law T⟩
end Nc
open PySem PySem.W PySem.Calls PyProof.Rows
set_option maxRecDepth 100000 in
set_option maxHeartbeats 0 in
theorem PySem.Challenge.cw_namecote_k02_rows_made_plain_holds : PySem.Challenge.rw_namecote_k02_rows_made_plain.Holds := by
  w_on; o_law
  refine HandSHeadRun.head_any (r := OpenLaw.row PySem.Challenge.rw_namecote_k02_rows_made_plain) (q := view (OpenLaw.row PySem.Challenge.rw_namecote_k02_rows_made_plain).prog [26]) (H := Nc.hk) (ob := Nc.ob) (M := 4000) (loose := Nc.loose) (d := HandSHeadRun.topDef (OpenLaw.row PySem.Challenge.rw_namecote_k02_rows_made_plain).prog 26) (kwd := []) Nc.ob_eq
    (by kernel_rfl) (fun s => by kernel_rfl) Nc.run (by kernel_rfl) (by kernel_rfl) (by kernel_rfl) (by rfl) (by first | assumption | decide +kernel) (by decide +kernel) ⟨rfl, rfl, rfl, rfl, rfl, by decide +kernel⟩ ?hw ?hc
  case hw => w_witness2
  case hc =>
    refine Nc.walk_nc (l := PySem.Challenge.rw_namecote_k02_rows_made_plain) (n := 63) (k := 7) (x := "_law_script") rfl (by decide) (by kernel_rfl) ⟨rfl, by decide, by decide⟩ ?F
    intro w mg fa h Y G hmg0
    obtain ⟨K, KX, c⟩ := Y
    have hmg : mg ("law" : PySem.Str) = some (.ref fa) := by
      have e : (HandSHeadRun.topDef (OpenLaw.row PySem.Challenge.rw_namecote_k02_rows_made_plain).prog 26).name = ("law" : PySem.Str) := by kernel_rfl
      rw [← e]
      exact hmg0
    obtain ⟨fd, hb, hF⟩ := Nc.facts (P := (PySem.Challenge.rw_namecote_k02_rows_made_plain).prog) (w := w) KX G hmg c
    exact ⟨K, fd, Nc.sp_law K, KX, hb, fun H a ns hl _ _ hS => ⟨a, ns, rfl, hS, hl, fun _ => rfl⟩, hF⟩

