import PyProof.Rows.All
import Wide.All
import OpenK.AllK
import Wide.FinOn
import HandS.ForMost
import HandS.Evl
import HandS.Codes
import HandS.Defaults
import HandS.IsInst
import HandS.FStr
import KE.KStateDown
import Lean
import HandS.HeadEnd
import HandS.HeadNt
import HandS.HeadHook3
import HandS.Head0
import HandS.Head1
import HandS.Head2
import HandS.Style
import HandS.OwnEq
import KE.KCallOwn
import HandS.Star
import HandS.ClsMeth
import HandS.CallLocal
import KE.GoesNew
import KE.GoesEnum
import HandS.Walk
import HandS.Sort
import HandS.Conv
import HandS.RaiseMore
import PySem.Challenge.RW_sitout_k60_shares_that_leave_enough
set_option Elab.async false
set_option linter.all false
set_option maxRecDepth 100000
set_option maxHeartbeats 4000000
namespace L3
open PySem L2 Evl
/-! objects of which an invariant alone is told -/
def Flat : HO → Prop
  | .lst _ => True
  | .dK _ => True
  | _ => False
def anyO (P : Program) (w : World) (S : HO → Prop) (a : Addr) : HO := .ext fun h => ∃ u, S u ∧ ObjOk P w (fun _ => none) h a u
section
variable {P : Program} {w : World} {H H' : Hp} {h h' : Heap} {a : Addr} {u : HO}
theorem flat_any (f : Flat u) (o : ObjOk P w H h a u) : ObjOk P w H' h a u := by
  cases u with
  | lst xs => exact o
  | dK kvs => exact o
  | _ => exact f.elim
theorem any_of {S : HO → Prop} (f : Flat u) (s : S u) (hf : ∀ u, S u → Flat u) (o : ObjOk P w H h a u) : ObjOk P w H' h a (anyO P w S a) := by
  refine ⟨⟨u, s, flat_any f o⟩, ?_, ?_⟩
  · cases u with
    | lst xs => obtain ⟨_, its, n, _, e⟩ := o; exact ⟨_, e⟩
    | dK kvs => obtain ⟨_, _, _, _, ob, _, _, e, _⟩ := o; exact ⟨_, e⟩
    | _ => exact f.elim
  · rintro h1 h2 ⟨u', s', o'⟩ k
    refine ⟨u', s', o'.stay (fun b v hb e => ?_) (fun b e => nomatch e) fun b xs e => nomatch e⟩
    rcases hb with rfl | hb
    · exact k v e
    · cases hb
end
/-- the same heap told by less: some lists and dicts by an invariant alone -/
def Abs (P : Program) (w : World) (H H' : Hp) : Prop := ∀ a, H' a = H a ∨ ∃ u S, H a = some u ∧ (∀ u, S u → Flat u) ∧ S u ∧ H' a = some (anyO P w S a)
section
variable {P : Program} {w : World} {H H' H0 : Hp} {h h0 : Heap}
theorem Abs.hok (b : Abs P w H H') (o : HOk P w H h) : HOk P w H' h := fun a u e => by
  have ho : ∀ c y, H c = some (.own y) → H' c = some (.own y) := fun c y q => by
    rcases b c with z | ⟨u, S, e1, f, s, e2⟩
    · rw [z]; exact q
    · rw [q] at e1; cases e1; exact (f _ s).elim
  have ht : ∀ c xs, H c = some (.tup xs) → H' c = some (.tup xs) := fun c y q => by
    rcases b c with z | ⟨u, S, e1, f, s, e2⟩
    · rw [z]; exact q
    · rw [q] at e1; cases e1; exact (f _ s).elim
  rcases b a with z | ⟨u', S, e1, f, s, e2⟩
  · rw [z] at e
    exact (o a u e).stay (fun _ _ _ q => q) (fun c q => ho c a q) ht
  · rw [e2] at e
    cases e
    exact any_of (f _ s) s f (o a u' e1)
theorem Abs.un {fs ex : List Addr} (b : Abs P w H H') (u : Un fs ex H0 H h0 h) : Un fs ex H0 H' h0 h where
  keep := u.keep
  slot := u.slot
  free := fun c o q n hx => by
    have z := u.free c o q n hx
    rcases b c with r | ⟨_, _, e1, _⟩
    · rw [r]; exact z
    · rw [z] at e1; cases e1
  there := u.there
  tups := fun c xs q => by
    have z := u.tups c xs q
    rcases b c with r | ⟨_, _, e1, f, s, _⟩
    · rw [r]; exact z
    · rw [z] at e1; cases e1; exact (f _ s).elim
  frzs := fun c o v q => by
    have z := u.frzs c o v q
    rcases b c with r | ⟨_, _, e1, f, s, _⟩
    · rw [r]; exact z
    · rw [z] at e1; cases e1; exact (f _ s).elim
  tbls := fun c ps q => by
    obtain ⟨m, z⟩ := u.tbls c ps q
    rcases b c with r | ⟨_, _, e1, f, s, _⟩
    · exact ⟨m, by rw [r]; exact z⟩
    · rw [z] at e1; cases e1; exact (f _ s).elim
/-- an object told by its invariant is opened -/
theorem open_hok {a : Addr} {S : HO → Prop} (ha : H a = some (anyO P w S a)) (hf : ∀ u, S u → Flat u) (o : HOk P w H h) : ∃ u, S u ∧ HOk P w (upd H a u) h := by
  obtain ⟨⟨u, s, q⟩, _, _⟩ := o a _ ha
  have ne : ∀ b v, H b = some v → (∀ φ, v ≠ .ext φ) → b ≠ a := fun b v e n z => by
    rw [z, ha] at e; cases e; exact n _ rfl
  refine ⟨u, s, fun b v e => ?_⟩
  by_cases hb : b = a
  · subst hb
    rw [upd_same] at e
    cases e
    exact flat_any (hf _ s) q
  · rw [upd_ne hb] at e
    exact (o b v e).stay (fun _ _ _ q => q) (fun c q => by rw [upd_ne (ne c _ q (fun _ z => nomatch z))]; exact q) fun c xs q => by rw [upd_ne (ne c _ q (fun _ z => nomatch z))]; exact q
theorem open_un {fs ex : List Addr} {a : Addr} {S : HO → Prop} {u0 : HO} (ha : H0 a = some (anyO P w S a)) (x : Un fs ex (upd H0 a u0) H h0 h) : Un fs ex H0 H h0 h := by
  have ne : ∀ b v, H0 b = some v → (∀ φ, v ≠ .ext φ) → b ≠ a := fun b v e n z => by
    rw [z, ha] at e; cases e; exact n _ rfl
  have nn : ∀ b, H0 b = none → b ≠ a := fun b e z => by rw [z, ha] at e; cases e
  exact ⟨fun b o q n => x.keep b o q (by rw [upd_ne (nn b n)]; exact n), fun b o q n => x.slot b o q (by rw [upd_ne (nn b n)]; exact n), fun b o q n => x.free b o q (by rw [upd_ne (nn b n)]; exact n), x.there,
    fun b xs q => x.tups b xs (by rw [upd_ne (ne b _ q (fun _ z => nomatch z))]; exact q), fun b o v q => x.frzs b o v (by rw [upd_ne (ne b _ q (fun _ z => nomatch z))]; exact q), fun b ps q => x.tbls b ps (by rw [upd_ne (ne b _ q (fun _ z => nomatch z))]; exact q)⟩
end
section
variable {P : Program} {w : World} {K : PySem.W.Frag} {mg : Str → Option Value} {base : Heap} {k : Nat} {f : Addr} {fd : FuncData} {ps : List Str} {sp : Sp}
/-- what a def leaves may be told by less -/
theorem post (F : FnOk P w K mg base CX0 k f fd ps sp) : FnOk P w K mg base CX0 k f fd ps (fun vs H Q E => sp vs H (fun v H' => ∃ H'', Abs P w H' H'' ∧ Q v H'') E) := by
  refine ⟨fun vs H Q E q => F.len vs H _ E q, fun A outer s H args us vs Q E hr he hb hv hs => ?_⟩
  refine codeAny_mono (F.run A outer s H args us vs _ E hr he hb hv hs) fun r s' z => ?_
  cases r with
  | error e => exact z
  | ok fl =>
    cases fl with
    | ret u =>
      obtain ⟨v, H', e1, e2, un, ok, rv, H'', ab, q⟩ := z
      exact ⟨v, H'', e1, e2, ab.un un, ab.hok ok, rv, q⟩
    | _ => exact z
/-- an object told by an invariant is opened ahead of the call -/
def opened (P : Program) (w : World) (n : Nat) (sp : Sp) : Sp := fun vs H Q E => vs.length = n ∧ ∃ a S, H a = some (anyO P w S a) ∧ (∀ u, S u → Flat u) ∧ ∀ u, S u → sp vs (upd H a u) Q E
theorem pre (F : FnOk P w K mg base CX0 k f fd ps sp) : FnOk P w K mg base CX0 k f fd ps (opened P w ps.length sp) := by
  refine ⟨fun vs H Q E h => h.1, fun A outer s H args us vs Q E hr he hb hv hs => ?_⟩
  obtain ⟨_, a, S, ha, hf, hq⟩ := hs
  obtain ⟨u, su, ok⟩ := open_hok ha hf he.hok
  have nn : ∀ b, H b = none → b ≠ a := fun b e z => by rw [z, ha] at e; cases e
  have he' : Env0 P w K mg base A outer s (upd H a u) := ⟨he.frames, he.mod, fun b o q => ⟨(he.bs b o q).1, by rw [upd_ne (nn b (he.bs b o q).2)]; exact (he.bs b o q).2⟩, he.bsz, he.funs, fun b q => by rw [upd_ne (nn b (he.frf b q))]; exact he.frf b q, ok, he.bare⟩
  refine codeAny_mono (F.run A outer s (upd H a u) args us vs Q E hr he' hb hv (hq u su)) fun r s' z => ?_
  cases r with
  | error e => exact z.elim
  | ok fl =>
    cases fl with
    | ret u' =>
      obtain ⟨v, H', e1, e2, un, ok', rv, q⟩ := z
      exact ⟨v, H', e1, e2, open_un ha un, ok', rv, q⟩
    | _ => exact z
end
end L3

namespace L3
open PySem L2 Evl
/-! named readings of built-ins -/
def rInt1 : List V → Hp → VK → Prop := fun xs H Q => (∃ i, xs = [.int i] ∧ Q (.int i) H) ∨ ∃ k, xs = [.bl k] ∧ Q (.int (if k then 1 else 0)) H
theorem call_int1' {X : Cx} : CallR X (.type "int") rInt1 := call_int1
def rLenQ (K : PySem.W.Frag) : List V → Hp → VK → Prop := fun xs H Q => ∃ p ys, xs = [.ref p] ∧ (SqL K H p ys ∨ SqT K H p ys) ∧ Q (.int ys.length) H
theorem call_lenQ {X : Cx} : CallR X (.builtin "len") (rLenQ X.K) := call_len_seq
theorem boot_int : bootBuiltins "int" = some (.type "int") := by decide +kernel
/-! the steps of a walk over readings -/
section
variable {σ : L2.St} {H : Hp} {Q : VK} {D : Ends} {QT : Bool → Hp → Prop} {QA : List V → Hp → Prop} {K : PySem.W.Frag}
theorem x_seq {n r b c} {t u : TS} (k : t ⟨u ⟨n, r, b, c⟩, r, b, c⟩ σ H) : tSeq t u ⟨n, r, b, c⟩ σ H := k
theorem x_cut {n r b c} {t u : TS} (B : L2.St → Hp → Prop) (h1 : ∀ nn : L2.St → Hp → Prop, (∀ σ H, B σ H → nn σ H) → t ⟨nn, r, b, c⟩ σ H) (h2 : ∀ σ H, B σ H → u ⟨n, r, b, c⟩ σ H) : tSeq t u ⟨n, r, b, c⟩ σ H := h1 _ h2
theorem x_next {n r b c} (k : n σ H) : tNext ⟨n, r, b, c⟩ σ H := k
theorem x_brk {n r b c} (k : b σ H) : tBreak ⟨n, r, b, c⟩ σ H := k
theorem x_cont {n r b c} (k : c σ H) : tCont ⟨n, r, b, c⟩ σ H := k
theorem x_asg {n r b c} {te : TE} {i : Nat} (k : te σ H fun x H1 => n (σ.set i (some x)) H1) : tAsg te (gName i) ⟨n, r, b, c⟩ σ H := k
theorem x_drop {n r b c} {te : TE} (k : te σ H fun _ H1 => n σ H1) : tDrop te ⟨n, r, b, c⟩ σ H := k
theorem x_ret {n r b c} {te : TE} (k : te σ H r) : tRet te ⟨n, r, b, c⟩ σ H := k
theorem x_retN {n r b c} (k : r .non H) : tRetN ⟨n, r, b, c⟩ σ H := k
theorem x_ifs {n r b c} {cc : TT} {t u : TS} (k : cc σ H fun d H1 => if d = true then t ⟨n, r, b, c⟩ σ H1 else u ⟨n, r, b, c⟩ σ H1) : tIfS cc t u ⟨n, r, b, c⟩ σ H := k
theorem x_while {n r b c} {cc : TT} {tb : TS} (W : Nat → L2.St → Hp → Prop) (m : Nat) (h0 : W m σ H) (h : ∀ m σ H, W m σ H → cc σ H fun d H1 => if d = true then ∃ N : L2.St → Hp → Prop, (∀ σ' H', N σ' H' → ∃ m', m' < m ∧ W m' σ' H') ∧ tb ⟨N, r, n, N⟩ σ H1 else n σ H1) : tWhile cc tb ⟨n, r, b, c⟩ σ H :=
  ⟨W, ⟨m, h0⟩, h⟩
theorem x_turn {n r} {tb : TS} {W : Nat → L2.St → Hp → Prop} {m : Nat} (k : tb ⟨fun σ' H' => ∃ m', m' < m ∧ W m' σ' H', r, n, fun σ' H' => ∃ m', m' < m ∧ W m' σ' H'⟩ σ H) : ∃ N : L2.St → Hp → Prop, (∀ σ' H', N σ' H' → ∃ m', m' < m ∧ W m' σ' H') ∧ tb ⟨N, r, n, N⟩ σ H := ⟨_, fun _ _ q => q, k⟩
theorem x_var {i : Nat} {v : V} (h : σ[i]? = some (some v)) (k : Q v H) : tVar i σ H Q := ⟨v, h, k⟩
theorem x_c {v : V} (k : Q v H) : tC v σ H Q := k
theorem x_op {r : R2} {ta tb : TE} (k : ta σ H fun x H1 => tb σ H1 fun y H2 => r x y H2 Q) : tOp r ta tb σ H Q := k
theorem x_un {r : V → Hp → VK → Prop} {ta : TE} (k : ta σ H fun x H1 => r x H1 Q) : tUn r ta σ H Q := k
theorem x_I0 {g : Int → Int → V} {i j : Int} (k : Q (g i j) H) : rI0 g (.int i) (.int j) H Q := ⟨i, j, rfl, rfl, k⟩
theorem x_I {C : Int → Int → Prop} {g : Int → Int → V} {i j : Int} (c : C i j) (k : Q (g i j) H) : rI C g (.int i) (.int j) H Q := ⟨i, j, rfl, rfl, c, k⟩
theorem x_U {g : Int → V} {i : Int} (k : Q (g i) H) : rU g (.int i) H Q := ⟨i, rfl, k⟩
theorem x_eq {x y : V} (s : scal x y = true) (k : Q (.bl (decide (x = y))) H) : rEq x y H Q := ⟨s, k⟩
theorem x_ne {x y : V} (s : scal x y = true) (k : Q (.bl (!decide (x = y))) H) : rNe x y H Q := ⟨s, k⟩
theorem x_test {te : TE} (k : te σ H fun x H1 => ∃ c, x = .bl c ∧ QT c H1) : tTest te σ H QT := k
theorem x_tb {te : TE} (k : te σ H fun x H1 => ∃ c, x = .bl c ∧ QT c H1) : tB te σ H QT := k
theorem x_bl {c : Bool} (k : QT c H) : ∃ d, V.bl c = .bl d ∧ QT d H := ⟨c, rfl, k⟩
theorem x_and {t u : TT} (k : t σ H fun c H1 => if c = true then u σ H1 QT else QT false H1) : tAnd t u σ H QT := k
theorem x_or {t u : TT} (k : t σ H fun c H1 => if c = true then QT true H1 else u σ H1 QT) : tOr t u σ H QT := k
theorem x_not {t : TT} (k : t σ H fun c H1 => QT (!c) H1) : tNot t σ H QT := k
theorem x_if {t : TT} {ta tb : TE} (k : t σ H fun c H1 => if c = true then ta σ H1 Q else tb σ H1 Q) : tIf t ta tb σ H Q := k
theorem x_andV {ta tb : TE} (k : ta σ H fun x H1 => ∃ c, x = .bl c ∧ if c = true then tb σ H1 Q else Q (.bl false) H1) : tAndV ta tb σ H Q := k
theorem x_orV {ta tb : TE} (k : ta σ H fun x H1 => ∃ c, x = .bl c ∧ if c = true then Q (.bl true) H1 else tb σ H1 Q) : tOrV ta tb σ H Q := k
theorem x_notV {ta : TE} (k : ta σ H fun x H1 => ∃ c, x = .bl c ∧ Q (.bl (!c)) H1) : tNotV ta σ H Q := k
theorem x_blV {c : Bool} {R : Bool → Prop} (k : R c) : ∃ d, V.bl c = .bl d ∧ R d := ⟨c, rfl, k⟩
theorem x_isN {ta : TE} (k : ta σ H fun x H1 => Q (.bl (decide (x = .non))) H1) : tIsN ta σ H Q := k
theorem x_notN {ta : TE} (k : ta σ H fun x H1 => Q (.bl (!decide (x = .non))) H1) : tNotN ta σ H Q := k
theorem x_cb {r : List V → Hp → VK → Prop} {t : TA} (k : t σ H fun vs H1 => r vs H1 Q) : tCB r t σ H Q := k
theorem x_nil (k : QA [] H) : tNil σ H QA := k
theorem x_cons {te : TE} {tr : TA} (k : te σ H fun x H1 => tr σ H1 fun xs H2 => QA (x :: xs) H2) : tCons te tr σ H QA := k
theorem x_int1 {i : Int} (k : Q (.int i) H) : rInt1 [.int i] H Q := .inl ⟨i, rfl, k⟩
theorem x_int1b {b : Bool} (k : Q (.int (if b then 1 else 0)) H) : rInt1 [.bl b] H Q := .inr ⟨b, rfl, k⟩
theorem x_lenL {p : Addr} {ys : List V} (h : H p = some (.lst ys)) (k : Q (.int ys.length) H) : rLenQ K [.ref p] H Q := ⟨p, ys, rfl, .inl (SqL.of h), k⟩
theorem x_lenT {p : Addr} {ys : List V} (h : H p = some (.tup ys)) (k : Q (.int ys.length) H) : rLenQ K [.ref p] H Q := ⟨p, ys, rfl, .inr (SqT.of h), k⟩
theorem x_tup {t : TA} (k : t σ H fun xs H1 => xs.length ≤ sizeLine ∧ ∀ p, H1 p = none → Q (.ref p) (upd H1 p (.tup xs))) : tTup t σ H Q := k
theorem x_lst {t : TA} (k : t σ H fun xs H1 => xs.length ≤ sizeLine ∧ ∀ p, H1 p = none → Q (.ref p) (upd H1 p (.lst xs))) : tLst t σ H Q := k
theorem x_dget {td ty : TE} (k : td σ H fun x H1 => ty σ H1 fun y H2 => ∃ a v, x = .ref a ∧ DGet H2 a y (some v) ∧ Q v H2) : tDGet td ty σ H Q := k
theorem x_dgot {a : Addr} {y v : V} (h : DGet H a y (some v)) (k : Q v H) : ∃ a' v, V.ref a = .ref a' ∧ DGet H a' y (some v) ∧ Q v H := ⟨a, v, rfl, h, k⟩
theorem x_dput {n r b c} {td ty tv : TE} (k : tv σ H fun v H1 => td σ H1 fun x H2 => ty σ H2 fun y H3 => ∃ a H4, x = .ref a ∧ DPut H3 a y v H4 ∧ n σ H4) : sDPut td ty tv ⟨n, r, b, c⟩ σ H := k
theorem x_dputs {n : L2.St → Hp → Prop} {a : Addr} {y v : V} {H4 : Hp} (h : DPut H a y v H4) (k : n σ H4) : ∃ a' H4, V.ref a = .ref a' ∧ DPut H a' y v H4 ∧ n σ H4 := ⟨a, H4, rfl, h, k⟩
theorem x_bm0L {r : V → List V → Hp → VK → Prop} {to : TE} (k : to σ H fun x H1 => tyV K "list" x H1 ∧ r x [] H1 Q) : tBM0 K "list" r to σ H Q := k
theorem x_pop {p : Addr} {xs : List V} {y : V} (h : H p = some (.lst xs)) (hy : xs[xs.length - 1]? = some y) (k : Q y (upd H p (.lst xs.dropLast))) : tyV K "list" (.ref p) H ∧ rPop (.ref p) [] H Q := ⟨.inl ⟨rfl, _, SqL.of h⟩, p, xs, y, rfl, rfl, h, hy, k⟩
theorem x_bmL {r : V → List V → Hp → VK → Prop} {to : TE} {t : TA} (k : to σ H fun x H1 => tyV K "list" x H1 ∧ t σ H1 fun xs H2 => r x xs H2 Q) : tBM K "list" r to t σ H Q := k
theorem tyL {p : Addr} {xs : List V} (h : H p = some (.lst xs)) : tyV K "list" (.ref p) H := .inl ⟨rfl, _, SqL.of h⟩
theorem x_fld {ta : TE} {f : Str} (k : ta σ H fun x H1 => ∃ a C dx fs v, x = .ref a ∧ H1 a = some (.ins C dx fs) ∧ Cls K C ∧ NoAttr K C f ∧ fs.lookup f = some v ∧ Q v H1) : tFld K ta f σ H Q := k
theorem x_call {sp : Sp} {dvs : List V} {E : XK} {t : TA} (k : t σ H fun vs H1 => sp (vs ++ dvs) H1 Q E) : tCall sp dvs E t σ H Q := k
theorem ifc {b : Bool} {p q : Prop} (h1 : b = true → p) (h2 : b = false → q) : if b = true then p else q := by
  cases b
  · exact h2 rfl
  · exact h1 rfl
end
end L3

namespace L3
open PySem L2 Evl
/-! a def of the top, by its name -/
structure Df (K : PySem.W.Frag) (mg : Str → Option Value) (x : Str) (st : Stmt) : Prop where
  ex : ∃ f fd, Fun K x x st f fd ∧ mg x = some (.ref f)
structure Fn (P : Program) (w : World) (K : PySem.W.Frag) (mg : Str → Option Value) (base : Heap) (k : Nat) (x : Str) (ps : List Str) (sp : Sp) : Prop where
  ex : ∃ f fd, FnOk P w K mg base CX0 k f fd ps sp ∧ mg x = some (.ref f) ∧ PySem.W.keepIn K (.ref f) = true ∧ Binds K fd ps []
/-- a method -/
structure Md (K : PySem.W.Frag) (C : Addr) (m q : Str) (st : Stmt) : Prop where
  ex : ∃ f fd, Fun K m q st f fd ∧ Meth K C m f
structure Mt (P : Program) (w : World) (K : PySem.W.Frag) (mg : Str → Option Value) (base : Heap) (k : Nat) (C : Addr) (m : Str) (ps : List Str) (sp : Sp) : Prop where
  cl : Cls K C
  ex : ∃ f fd, FnOk P w K mg base CX0 k f fd ps sp ∧ Meth K C m f ∧ Binds K fd ps []
/-- a class with its __init__ -/
structure Ki (K : PySem.W.Frag) (mg : Str → Option Value) (x : Str) (C : Addr) (q : Str) (st : Stmt) : Prop where
  cl : Cls K C
  mgC : mg x = some (.ref C)
  ex : ∃ f fd, Fun K "__init__" q st f fd ∧ Mk K C f
structure Nw (P : Program) (w : World) (K : PySem.W.Frag) (mg : Str → Option Value) (base : Heap) (k : Nat) (x : Str) (C : Addr) (ps : List Str) (sp : Sp) : Prop where
  mgC : mg x = some (.ref C)
  ex : ∃ f fd, FnOk P w K mg base CX0 k f fd ps sp ∧ Mk K C f ∧ Binds K fd ps []
section
variable {P : Program} {w : World} {K : PySem.W.Frag} {mg : Str → Option Value} {base : Heap} {k : Nat} {x q m : Str} {C : Addr} {ps N : List Str} {sp sp' : Sp} {st : Stmt}
theorem fn_df (D : Df K mg x st) (S : FnScope N ps (defScope st)) (len : ∀ vs H Q E, sp vs H Q E → vs.length = ps.length)
    (hb : ∀ (kV doc pm : Value) (an : Option Addr) (cdv ct : Value) (us : List Value), us.length = ps.length → bindArgs (PySem.W.fnOf x x (defArgs st) (defBody st) (defScope st) .none kV doc pm an cdv ct) ⟨us, []⟩ = pure (ps.zip us))
    (hbody : ∀ (f : Addr) (cdv : Value) (A : Around) (outer : List Env) (s : Shared) (H : Hp) (vs : List V) (Q : VK) (E : XK), Room k (A.deeper (PyProof.Rows.envOfC x (defScope st) s.heap.objs.size f cdv)) → sp vs H Q E →
      ∃ t, PSs (cxOf CX0 P w K mg base N x (defScope st) f cdv A outer s H E).nox (defBody st) t ∧ t { nx := fun _ H' => Q .non H', rt := Q } (start N vs) H) : Fn P w K mg base (k + 1) x ps sp := by
  obtain ⟨f, fd, F, g⟩ := D.ex
  exact ⟨f, fd, F.ok S len (hbody f), g, F.kp, F.binds hb⟩
theorem Fn.imp (F : Fn P w K mg base k x ps sp) (h : ∀ vs H Q E, sp' vs H Q E → sp vs H Q E) : Fn P w K mg base k x ps sp' := by
  obtain ⟨f, fd, F, r⟩ := F.ex
  exact ⟨f, fd, F.imp h, r⟩
theorem Fn.post (F : Fn P w K mg base k x ps sp) : Fn P w K mg base k x ps (fun vs H Q E => sp vs H (fun v H' => ∃ H'', Abs P w H' H'' ∧ Q v H'') E) := by
  obtain ⟨f, fd, F, r⟩ := F.ex
  exact ⟨f, fd, L3.post F, r⟩
theorem Fn.pre (F : Fn P w K mg base k x ps sp) : Fn P w K mg base k x ps (opened P w ps.length sp) := by
  obtain ⟨f, fd, F, r⟩ := F.ex
  exact ⟨f, fd, L3.pre F, r⟩
theorem mt_md (D : Md K C m q st) (c : Cls K C) (S : FnScope N ps (defScope st)) (len : ∀ vs H Q E, sp vs H Q E → vs.length = ps.length)
    (hb : ∀ (kV doc pm : Value) (an : Option Addr) (cdv ct : Value) (us : List Value), us.length = ps.length → bindArgs (PySem.W.fnOf m q (defArgs st) (defBody st) (defScope st) .none kV doc pm an cdv ct) ⟨us, []⟩ = pure (ps.zip us))
    (hbody : ∀ (f : Addr) (cdv : Value) (A : Around) (outer : List Env) (s : Shared) (H : Hp) (vs : List V) (Q : VK) (E : XK), Room k (A.deeper (PyProof.Rows.envOfC q (defScope st) s.heap.objs.size f cdv)) → sp vs H Q E →
      ∃ t, PSs (cxOf CX0 P w K mg base N q (defScope st) f cdv A outer s H E).nox (defBody st) t ∧ t { nx := fun _ H' => Q .non H', rt := Q } (start N vs) H) : Mt P w K mg base (k + 1) C m ps sp := by
  obtain ⟨f, fd, F, g⟩ := D.ex
  exact ⟨c, f, fd, F.ok S len (hbody f), g, F.binds hb⟩
theorem nw_ki (D : Ki K mg x C q st) (S : FnScope N ps (defScope st)) (len : ∀ vs H Q E, sp vs H Q E → vs.length = ps.length)
    (hb : ∀ (kV doc pm : Value) (an : Option Addr) (cdv ct : Value) (us : List Value), us.length = ps.length → bindArgs (PySem.W.fnOf "__init__" q (defArgs st) (defBody st) (defScope st) .none kV doc pm an cdv ct) ⟨us, []⟩ = pure (ps.zip us))
    (hbody : ∀ (f : Addr) (cdv : Value) (A : Around) (outer : List Env) (s : Shared) (H : Hp) (vs : List V) (Q : VK) (E : XK), Room k (A.deeper (PyProof.Rows.envOfC q (defScope st) s.heap.objs.size f cdv)) → sp vs H Q E →
      ∃ t, PSs (cxOf CX0 P w K mg base N q (defScope st) f cdv A outer s H E).nox (defBody st) t ∧ t { nx := fun _ H' => Q .non H', rt := Q } (start N vs) H) : Nw P w K mg base (k + 1) x C ps sp := by
  obtain ⟨f, fd, F, g⟩ := D.ex
  exact ⟨D.mgC, f, fd, F.ok S len (hbody f), g, F.binds hb⟩
end
section
variable {X : Cx} {k : Nat} {x m : Str} {C : Addr} {ps : List Str} {sp : Sp} {e o : Expr} {es : List Expr} {p pos apos : Pos} {t : TA} {ta : TE}
theorem pe_fn (F : Fn X.prog X.w X.K X.mg X.base k x ps sp) (hr : Room k X.A) (hg : Gl X x) (ha : PA X (e :: es) t) (hdb : (x == ("__debug__" : Str)) = false := by decide)
    (he : starEach (e :: es) X.env = (false, eval e X.env) :: starEach es X.env := by rfl) (hpl : (backTo pos (starEach es X.env)).any (·.1) = false := by rfl) : PE X (.Call (.Name x p) (e :: es) [] pos) (tCall sp [] E0 t) := by
  obtain ⟨f, fd, F, g, kp, b⟩ := F.ex
  exact pe_call F hr hg g kp b .nil pass0 ha hdb he hpl
theorem pe_fn0 (F : Fn X.prog X.w X.K X.mg X.base k x ps sp) (hr : Room k X.A) (hg : Gl X x) (hdb : (x == ("__debug__" : Str)) = false := by decide) : PE X (.Call (.Name x p) [] [] pos) (tCall sp [] E0 tNil) := by
  obtain ⟨f, fd, F, g, kp, b⟩ := F.ex
  exact pe_call0 F hr hg g kp b .nil pass0 hdb
theorem pe_mt {pl : Sem Bool} (M : Mt X.prog X.w X.K X.mg X.base k C m ps sp) (hr : Room k X.A) (ho : PE X o ta) (ha : PA X (e :: es) t)
    (hst : starEach (e :: es) X.env = (false, eval e X.env) :: starEach es X.env := by rfl) (hpl : (backTo pos (starEach es X.env)).any (·.1) = false := by rfl)
    (ht : eval (.Call (.Attribute o m apos) (e :: es) [] pos) X.env = (do
      let ov ← eval o X.env
      standAt apos.atName
      let (f, first) ← holding [ov] (getMethod ov m pl)
      callWith pos f first (backTo pos (starEach (e :: es) X.env)) (backToKw pos (keywordEach [] X.env))) := by rfl) : PE X (.Call (.Attribute o m apos) (e :: es) [] pos) (tMeth C m sp [] E0 ta t) := by
  obtain ⟨f, fd, F, g, b⟩ := M.ex
  exact pe_meth ho M.cl g F hr b .nil pass0 ha hst hpl ht
theorem pe_mt0 {pl : Sem Bool} (M : Mt X.prog X.w X.K X.mg X.base k C m ps sp) (hr : Room k X.A) (ho : PE X o ta)
    (ht : eval (.Call (.Attribute o m apos) [] [] pos) X.env = (do
      let ov ← eval o X.env
      standAt apos.atName
      let (f, first) ← holding [ov] (getMethod ov m pl)
      callWith pos f first (backTo pos (starEach [] X.env)) (backToKw pos (keywordEach [] X.env))) := by rfl) : PE X (.Call (.Attribute o m apos) [] [] pos) (tMeth C m sp [] E0 ta tNil) := by
  obtain ⟨f, fd, F, g, b⟩ := M.ex
  exact pe_meth0 ho M.cl g F hr b .nil pass0 ht
theorem pe_new (M : Nw X.prog X.w X.K X.mg X.base k x C ps sp) (hr : Room (k + 1) X.A) (hg : Gl X x) (ha : PA X (e :: es) t) (hdb : (x == ("__debug__" : Str)) = false := by decide)
    (he : starEach (e :: es) X.env = (false, eval e X.env) :: starEach es X.env := by rfl) (hpl : (backTo pos (starEach es X.env)).any (·.1) = false := by rfl) : PE X (.Call (.Name x p) (e :: es) [] pos) (tMake C sp [] E0 t) := by
  obtain ⟨f, fd, F, g, b⟩ := M.ex
  exact pe_make g F hr hg M.mgC b .nil pass0 ha hdb he hpl
end
/-! named readings -/
def rAbs : List V → Hp → VK → Prop := fun xs H Q => ∃ i, xs = [.int i] ∧ Q (.int (if i < 0 then -i else i)) H
theorem call_abs' {X : Cx} : CallR X (.builtin "abs") rAbs := call_abs
def rMin2 : List V → Hp → VK → Prop := fun xs H Q => ∃ i j, xs = [.int i, .int j] ∧ Q (.int (if j < i then j else i)) H
theorem call_min2' {X : Cx} (hc : X.calm = true) : CallR X (.builtin "min") rMin2 := call_min2 hc
def rMax2' : List V → Hp → VK → Prop := fun xs H Q => ∃ i j, xs = [.int i, .int j] ∧ Q (.int (if j > i then j else i)) H
theorem call_max2' {X : Cx} (hc : X.calm = true) : CallR X (.builtin "max") rMax2' := call_max2 hc
def rStrI : List V → Hp → VK → Prop := fun xs H Q => ∃ i, xs = [.int i] ∧ i.natAbs.log2 < 1920 ∧ Q (.str (toString i)) H
theorem call_str_int' {X : Cx} : CallR X (.type "str") rStrI := call_str_int
/-- a value that is no object of the package -/
inductive Plain (H : Hp) : V → Prop where
  | non : Plain H .non
  | bl (b : Bool) : Plain H (.bl b)
  | int (i : Int) : Plain H (.int i)
  | str (x : Str) : Plain H (.str x)
  | lst {a : Addr} {xs : List V} (h : H a = some (.lst xs)) : Plain H (.ref a)
  | tup {a : Addr} {xs : List V} (h : H a = some (.tup xs)) : Plain H (.ref a)
def isI : V → Bool | .int _ => true | _ => false
def isB : V → Bool | .bl _ => true | _ => false
def isS : V → Bool | .str _ => true | _ => false
section
variable {σ : L2.St} {H : Hp} {Q : VK} {K : PySem.W.Frag}
theorem x_abs {i : Int} (k : Q (.int (if i < 0 then -i else i)) H) : rAbs [.int i] H Q := ⟨i, rfl, k⟩
theorem x_min2 {i j : Int} (k : Q (.int (if j < i then j else i)) H) : rMin2 [.int i, .int j] H Q := ⟨i, j, rfl, k⟩
theorem x_max2 {i j : Int} (k : Q (.int (if j > i then j else i)) H) : rMax2' [.int i, .int j] H Q := ⟨i, j, rfl, k⟩
theorem x_isInt {v : V} (p : Plain H v) (k : Q (.bl (isI v || isB v)) H) : rIsi K [v, .ty "int"] H Q := by
  cases p with
  | non => exact ⟨_, _, _, _, false, rfl, .ty _, .base .non, kit_ty (by decide +kernel), k⟩
  | bl b => exact ⟨_, _, _, _, true, rfl, .ty _, .base (.bl b), kit_ty (by decide +kernel), k⟩
  | int i => exact ⟨_, _, _, _, true, rfl, .ty _, .base (.int i), kit_ty (by decide +kernel), k⟩
  | str x => exact ⟨_, _, _, _, false, rfl, .ty _, .base (.str x), kit_ty (by decide +kernel), k⟩
  | lst h => exact ⟨_, _, _, _, false, rfl, .ty _, .base (.lst h), kit_ty (by decide +kernel), k⟩
  | tup h => exact ⟨_, _, _, _, false, rfl, .ty _, .base (.tup h), kit_ty (by decide +kernel), k⟩
theorem x_isBool {v : V} (p : Plain H v) (k : Q (.bl (isB v)) H) : rIsi K [v, .ty "bool"] H Q := by
  cases p with
  | non => exact ⟨_, _, _, _, false, rfl, .ty _, .base .non, kit_ty (by decide +kernel), k⟩
  | bl b => exact ⟨_, _, _, _, true, rfl, .ty _, .base (.bl b), kit_ty (by decide +kernel), k⟩
  | int i => exact ⟨_, _, _, _, false, rfl, .ty _, .base (.int i), kit_ty (by decide +kernel), k⟩
  | str x => exact ⟨_, _, _, _, false, rfl, .ty _, .base (.str x), kit_ty (by decide +kernel), k⟩
  | lst h => exact ⟨_, _, _, _, false, rfl, .ty _, .base (.lst h), kit_ty (by decide +kernel), k⟩
  | tup h => exact ⟨_, _, _, _, false, rfl, .ty _, .base (.tup h), kit_ty (by decide +kernel), k⟩
theorem x_isStr {v : V} (p : Plain H v) (k : Q (.bl (isS v)) H) : rIsi K [v, .ty "str"] H Q := by
  cases p with
  | non => exact ⟨_, _, _, _, false, rfl, .ty _, .base .non, kit_ty (by decide +kernel), k⟩
  | bl b => exact ⟨_, _, _, _, false, rfl, .ty _, .base (.bl b), kit_ty (by decide +kernel), k⟩
  | int i => exact ⟨_, _, _, _, false, rfl, .ty _, .base (.int i), kit_ty (by decide +kernel), k⟩
  | str x => exact ⟨_, _, _, _, true, rfl, .ty _, .base (.str x), kit_ty (by decide +kernel), k⟩
  | lst h => exact ⟨_, _, _, _, false, rfl, .ty _, .base (.lst h), kit_ty (by decide +kernel), k⟩
  | tup h => exact ⟨_, _, _, _, false, rfl, .ty _, .base (.tup h), kit_ty (by decide +kernel), k⟩
theorem x_meth {C : Addr} {m : Str} {sp : Sp} {dvs : List V} {E : XK} {ta : TE} {t : TA} (k : ta σ H fun x H1 => ∃ a dx fs, x = .ref a ∧ H1 a = some (.ins C dx fs) ∧ fs.lookup m = none ∧ t σ H1 fun vs H2 => sp (x :: (vs ++ dvs)) H2 Q E) : tMeth C m sp dvs E ta t σ H Q := k
theorem x_make {C : Addr} {sp : Sp} {dvs : List V} {E : XK} {t : TA} (k : t σ H fun vs H1 => ∀ x dx, H1 x = none → H1 dx = none → dx ≠ x → sp (.ref x :: (vs ++ dvs)) (upd (upd H1 dx (.own x)) x (.ins C dx [])) (fun v H2 => v = .non ∧ Q (.ref x) H2) E) : tMake C sp dvs E t σ H Q := k
theorem x_sfld {n r b c} {ta tv : TE} {f : Str} (k : tv σ H fun y H1 => ta σ H1 fun x H2 => ∃ a C dx fs, x = .ref a ∧ H2 a = some (.ins C dx fs) ∧ Cls K C ∧ NoAttr K C f ∧ fs.length < 1000 ∧ n σ (upd H2 a (.ins C dx (putF f y fs)))) : sFld K ta tv f ⟨n, r, b, c⟩ σ H := k
end
end L3
namespace L3
theorem iteP {b : Bool} {p q : Prop} (h : b = true) (k : p) : if b = true then p else q := by rw [if_pos h]; exact k
theorem iteN {b : Bool} {p q : Prop} (h : b = false) (k : q) : if b = true then p else q := by rw [if_neg (by rw [h]; decide)]; exact k
end L3

/-! the head's facts: any Bool of the written part, and defs -/
namespace L3
open PySem PySem.W PyProof.Rows
def obsB (ex : Frag → Bool) (fn : List He5.DefA) (K : Frag) : He.AlD := (ex K && fn.all fun d => d.ok K, fn.map fun d => He5.fnA K (d.at_ K))
def SaysB (ex : Frag → Bool) (fn : List He5.DefA) (K : Frag) : Prop := obsB ex fn K = He5.valA fn
def obsBG (n : Nat) (ex : Frag → Bool) (fn : List He5.DefA) (g : Addr → Option Obj) : He.AlD := obsB ex fn (He.frG g (He5.asA g n))
def hookB (n : Nat) (ex : Frag → Bool) (fn : List He5.DefA) : PySem.W.Hook where
  α := He.AlD
  obs := fun s => obsBG n ex fn s.heap.get?
  val := fun _ => He5.valA fn
  says := fun _ h => ∃ K : Frag, K.In h ∧ SaysB ex fn K
  of := fun _ _ e => ⟨_, He.frG_in, e⟩
  keeps := fun _ _ _ ⟨K, hK, c⟩ k => ⟨K, Frag.In.keeps hK k, c⟩
theorem obsBG_eq {n : Nat} {ex : Frag → Bool} {fn : List He5.DefA} {g : Addr → Option Obj} {s : Shared} (h : ∀ a, g a = s.heap.get? a) : obsBG n ex fn g = (hookB n ex fn).obs s := by
  have e : g = s.heap.get? := funext h
  rw [e] <;> rfl
section
variable {ex : Frag → Bool} {fn : List He5.DefA} {K : Frag}
theorem SaysB.fx (c : SaysB ex fn K) : ex K = true :=
  (He.ba (show (ex K && fn.all fun d => d.ok K) = true from congrArg (fun z : He.AlD => z.1) c)).1
theorem SaysB.def_ (c : SaysB ex fn K) (i : Nat) {d : He5.DefA} (h : fn[i]? = some d := by rfl) : ∃ fd, L2.FunD K d.name d.qual d.params d.body d.scope (d.dvs K) (d.kws K) (d.at_ K) fd := by
  have c2 := (He.ba (show (ex K && fn.all fun d => d.ok K) = true from congrArg (fun z : He.AlD => z.1) c)).2
  have e : fn.map (fun d => He5.fnA K (d.at_ K)) = fn.map He5.DefA.val := congrArg (fun z : He.AlD => z.2) c
  have e2 : (fn.map fun d => He5.fnA K (d.at_ K))[i]? = (fn.map He5.DefA.val)[i]? := by rw [e]
  rw [List.getElem?_map, List.getElem?_map, h] at e2
  exact He5.DefA.funD (Option.some.inj e2) (List.all_eq_true.mp c2 d (List.mem_of_getElem? h))
end
/-- one fact more, a tuple of the top among them -/
inductive Fx where
  | fa (f : He.Fa)
  | tup (x : PySem.Str) (vs : List He.Dv)
  | wrap (x m : PySem.Str)
  | dic (x : PySem.Str)
  | insc (x : PySem.Str)
  | bo (f : Frag → Bool)
def Fx.ok0 (K : Frag) : Fx → Bool
  | .fa f => f.ok K
  | _ => false
def Fx.ok (K : Frag) : Fx → Bool
  | .fa f => f.ok K
  | .tup x vs => He.tupB K x vs
  | .wrap x m => He5.wrapB K (He.ga K x) "classmethod" "classmethod.__get__" m
  | .dic x => (He.dicW K (He.ga K x)).isSome
  | .bo f => f K
  | .insc x => (Fx.fa (.cls x)).ok0 K && (He.eqO (findIn K (.ref (He.ga K x)) "__class__") (some (some (.builtin "object.__class__"))) && (He.eqO (specialIn K (.builtin "object.__class__") "__get__") (some (some (.builtin "getset_descriptor.__get__"))) &&
    (decide (takesIn K (.builtin "object.__class__") = some true) && (decide (mroIn K (He.ga K x) (.type "object") = some true) && decide (kitOne K (.ref (He.ga K x)) (.ref (He.ga K x)) = some true)))))
theorem fx_at {fx : List Fx} {K : Frag} (h : (fx.all fun f => f.ok K) = true) (i : Nat) {f : Fx} (e : fx[i]? = some f := by rfl) : f.ok K = true := List.all_eq_true.mp h f (List.mem_of_getElem? e)
theorem insc_ok {x : PySem.Str} {K : Frag} (h : (Fx.insc x).ok K = true) : C8.InsC K (He.ga K x) := by
  obtain ⟨h1, h⟩ := He.ba h
  obtain ⟨h2, h⟩ := He.ba h
  obtain ⟨h3, h⟩ := He.ba h
  obtain ⟨h4, h⟩ := He.ba h
  obtain ⟨h5, h6⟩ := He.ba h
  exact ⟨He.cls_ok h1, He.eqO_ok h2, He.eqO_ok h3, of_decide_eq_true h4, of_decide_eq_true h5, of_decide_eq_true h6⟩
def gdef (x : PySem.Str) (st : Stmt) : He5.DefA := ⟨fun K => He.ga K x, x, x, L2.defArgs st, L2.defBody st, L2.defScope st, [], []⟩
def mdef (c m q : PySem.Str) (st : Stmt) : He5.DefA := ⟨fun K => He.ma K (He.ga K c) m, m, q, L2.defArgs st, L2.defBody st, L2.defScope st, [], []⟩
section
variable {K : Frag} {h : Heap} {mg : PySem.Str → Option Value} {ex : Frag → Bool} {fn : List He5.DefA} {x c m q : PySem.Str} {st : Stmt}
theorem df_of (X : K.In h) (G : h.Ns mainGlobals mg) (f : (Fx.fa (.glo x)).ok K = true) (s : SaysB ex fn K) (i : Nat) (e : fn[i]? = some (gdef x st) := by rfl) : Df K mg x st := by
  obtain ⟨fd, F⟩ := s.def_ i e
  exact ⟨He.ga K x, fd, He5.fun_of F, He.glo_ok X G f⟩
theorem md_of (f : (Fx.fa (.meth c m)).ok K = true) (s : SaysB ex fn K) (i : Nat) (e : fn[i]? = some (mdef c m q st) := by rfl) : Md K (He.ga K c) m q st := by
  obtain ⟨fd, F⟩ := s.def_ i e
  exact ⟨He.ma K (He.ga K c) m, fd, He5.fun_of F, He.meth_ok f⟩
theorem ki_of (X : K.In h) (G : h.Ns mainGlobals mg) (f : (Fx.fa (.glo x)).ok K = true) (f1 : (Fx.fa (.cls x)).ok K = true) (f2 : (Fx.fa (.mkr x)).ok K = true) (s : SaysB ex fn K) (i : Nat) (e : fn[i]? = some (mdef x "__init__" q st) := by rfl) : Ki K mg x (He.ga K x) q st := by
  obtain ⟨fd, F⟩ := s.def_ i e
  exact ⟨He.cls_ok f1, He.glo_ok X G f, He.ma K (He.ga K x) "__init__", fd, He5.fun_of F, He.mkr_ok f2⟩
end
/-! .. and dicts of the top with text keys (their hashes hang on the world) -/
abbrev Tabs := List (PySem.Str × List PySem.Str)
def tabsOf (ts : Tabs) (K : Frag) : List (Option (List (Option (PySem.Str × Int)))) := ts.map fun t => He.dicW K (He.ga K t.1)
def tabsIn (ts : Tabs) (P : Params) : List (Option (List (Option (PySem.Str × Int)))) := ts.map fun t => some (He.keysIn P t.2)
def obsWG (n : Nat) (ex : Frag → Bool) (fn : List He5.DefA) (ts : Tabs) (g : Addr → Option Obj) : He.AlD × List (Option (List (Option (PySem.Str × Int)))) := (obsBG n ex fn g, tabsOf ts (He.frG g (He5.asA g n)))
structure SaysW (ex : Frag → Bool) (fn : List He5.DefA) (ts : Tabs) (w : World) (K : Frag) : Prop where
  b : SaysB ex fn K
  t : tabsOf ts K = tabsIn ts w.params
def hookW (n : Nat) (ex : Frag → Bool) (fn : List He5.DefA) (ts : Tabs) : PySem.W.Hook where
  α := He.AlD × List (Option (List (Option (PySem.Str × Int))))
  obs := fun s => obsWG n ex fn ts s.heap.get?
  val := fun w => (He5.valA fn, tabsIn ts w.params)
  says := fun w h => ∃ K : Frag, K.In h ∧ SaysW ex fn ts w K
  of := fun w s e => ⟨He.frG s.heap.get? (He5.asA s.heap.get? n), He.frG_in, ⟨congrArg Prod.fst e, congrArg Prod.snd e⟩⟩
  keeps := fun _ _ _ ⟨K, hK, c⟩ k => ⟨K, Frag.In.keeps hK k, c⟩
theorem obsWG_eq {n : Nat} {ex : Frag → Bool} {fn : List He5.DefA} {ts : Tabs} {g : Addr → Option Obj} {s : Shared} (h : ∀ a, g a = s.heap.get? a) : obsWG n ex fn ts g = (hookW n ex fn ts).obs s := by
  have e : g = s.heap.get? := funext h
  rw [e] <;> rfl
theorem SaysW.tab {ex : Frag → Bool} {fn : List He5.DefA} {ts : Tabs} {w : World} {K : Frag} (c : SaysW ex fn ts w K) (i : Nat) {t : PySem.Str × List PySem.Str} (h : ts[i]? = some t := by rfl) : ∃ es n, L2.KDict K w (He.ga K t.1) es n := by
  have e : (tabsOf ts K)[i]? = (tabsIn ts w.params)[i]? := by rw [c.t]
  unfold tabsOf tabsIn at e
  rw [List.getElem?_map, List.getElem?_map, h] at e
  exact He.dicW_ok (Option.some.inj e)
end L3

namespace L3
open PySem L2 Evl
section
variable {σ : L2.St} {H : Hp} {Q : VK} {K : PySem.W.Frag} {R : It → Hp → Prop}
theorem x_iList {tl : TE} (k : tl σ H fun x H1 => ∃ a, x = .ref a ∧ (∃ xs, SqL K H1 a xs) ∧ R (Itl K a) H1) : iList K tl σ H R := k
theorem x_iTup {tl : TE} (k : tl σ H fun x H1 => ∃ a, x = .ref a ∧ (∃ xs, SqT K H1 a xs) ∧ R (Itt K a) H1) : iTup K tl σ H R := k
theorem x_iRng1 {ta : TA} (k : ta σ H fun vs H1 => ∃ j : Int, vs = [.int j] ∧ -(2 ^ 62) ≤ j ∧ j < 2 ^ 62 ∧ R (Itr 0 j.toNat) H1) : iRng1 ta σ H R := k
theorem x_iRng2 {ta : TA} (k : ta σ H fun vs H1 => ∃ i j : Int, vs = [.int i, .int j] ∧ (-(2 ^ 62) ≤ i ∧ i < 2 ^ 62 ∧ -(2 ^ 62) ≤ j ∧ j < 2 ^ 62) ∧ R (Itr i (j - i).toNat) H1) : iRng2 ta σ H R := k
/-- what is left of a for: its turns -/
def Turns (J : It) (g : TG) (tb : TS) (n : L2.St → Hp → Prop) (r : VK) (σ : L2.St) (H : Hp) : Prop := ∃ W : Nat → Nat → L2.St → Hp → Prop, (∃ m, W 0 m σ H) ∧ ∀ i m σ H, W i m σ H →
  (J.stop i H ∧ n σ H) ∨ (J.go i H ∧ ∃ N : L2.St → Hp → Prop, (∀ σ' H', N σ' H' → ∃ m', m' < m ∧ W (i + 1) m' σ' H') ∧ ∀ x H', J.yld i H x H' → g x σ H' fun σ2 H2 => tb ⟨N, r, n, N⟩ σ2 H2)
theorem x_for {n r b c} {wi : TI} {g : TG} {tb : TS} (k : wi σ H fun J H1 => Turns J g tb n r σ H1) : tFor wi g tb ⟨n, r, b, c⟩ σ H := k
theorem turns_list {n : L2.St → Hp → Prop} {r : VK} {a : Addr} {xs : List V} {g : TG} {tb : TS} (Pv : Nat → L2.St → Hp → Prop) (h0 : Pv 0 σ H) (hl : ∀ i σ H, i ≤ xs.length → Pv i σ H → SqL K H a xs)
    (hs : ∀ i x σ H, xs[i]? = some x → Pv i σ H → g x σ H fun σ2 H2 => tb ⟨Pv (i + 1), r, n, Pv (i + 1)⟩ σ2 H2) (hd : ∀ σ H, Pv xs.length σ H → n σ H) : Turns (Itl K a) g tb n r σ H :=
  for_list (D := ⟨n, r, fun _ _ => False, fun _ _ => False⟩) Pv h0 hl hs hd
theorem turns_tup {n : L2.St → Hp → Prop} {r : VK} {a : Addr} {xs : List V} {g : TG} {tb : TS} (Pv : Nat → L2.St → Hp → Prop) (h0 : Pv 0 σ H) (hl : ∀ i σ H, i ≤ xs.length → Pv i σ H → SqT K H a xs)
    (hs : ∀ i x σ H, xs[i]? = some x → Pv i σ H → g x σ H fun σ2 H2 => tb ⟨Pv (i + 1), r, n, Pv (i + 1)⟩ σ2 H2) (hd : ∀ σ H, Pv xs.length σ H → n σ H) : Turns (Itt K a) g tb n r σ H :=
  for_tup (D := ⟨n, r, fun _ _ => False, fun _ _ => False⟩) Pv h0 hl hs hd
theorem turns_range {n : L2.St → Hp → Prop} {r : VK} {lo : Int} {m : Nat} {g : TG} {tb : TS} (Pv : Nat → L2.St → Hp → Prop) (h0 : Pv 0 σ H)
    (hs : ∀ (i : Nat) σ H, i < m → Pv i σ H → g (.int (lo + i)) σ H fun σ2 H2 => tb ⟨Pv (i + 1), r, n, Pv (i + 1)⟩ σ2 H2) (hd : ∀ σ H, Pv m σ H → n σ H) : Turns (Itr lo m) g tb n r σ H :=
  for_range (D := ⟨n, r, fun _ _ => False, fun _ _ => False⟩) Pv h0 hs hd
theorem x_gname {i : Nat} {v : V} {QG : L2.St → Hp → Prop} (k : QG (σ.set i (some v)) H) : gName i v σ H QG := k
/-! comprehensions -/
def Comp (J : It) (g : TG) (tt : TT) (te : TE) (vs : List Nat) (Q : VK) (σ : L2.St) (H1 : Hp) : Prop := ∀ D, H1 D = none → ∃ W : Nat → Nat → Hp → Prop, (∃ m, W 0 m (upd H1 D (.lst []))) ∧ ∀ i m H, W i m H →
  (J.stop i H ∧ Q (.ref D) H) ∨ (J.go i H ∧ ∃ Nx : Hp → Prop, (∀ H', Nx H' → ∃ m', m' < m ∧ W (i + 1) m' H') ∧ ∀ x H', J.yld i H x H' → g x (wipe σ vs) H' fun σ2 H2 => wipe σ2 vs = wipe σ vs ∧ tt σ2 H2 fun b H3 =>
    if b = true then te σ2 H3 fun y H4 => ∃ acc, H4 D = some (.lst acc) ∧ acc.length < sizeLine ∧ Nx (upd H4 D (.lst (acc ++ [y]))) else Nx H3)
theorem x_lc {wi : TI} {g : TG} {tt : TT} {te : TE} {vs : List Nat} (k : wi σ H fun J H1 => Comp J g tt te vs Q σ H1) : tLc wi g tt te vs σ H Q := k
theorem x_yes {QT : Bool → Hp → Prop} (k : QT true H) : tYes σ H QT := k
/-- one turn of a comprehension whose element and test leave what is known -/
def CTurn (tt : TT) (te : TE) (σ2 : L2.St) (H : Hp) (R : List V → Prop) (acc : List V) : Prop :=
  ∀ (KY : VK) (KN : Hp → Prop), (∀ y H4, Ex H H4 → R (acc ++ [y]) → KY y H4) → (∀ H3, Ex H H3 → R acc → KN H3) → tt σ2 H fun b H3 => if b = true then te σ2 H3 KY else KN H3
private theorem ex_new {H H' : Hp} {D : Addr} {u : HO} (h : H D = none) (e : Ex H H') : Ex H (upd H' D u) := fun b o hb => by
  rw [upd_ne (ne_of_none hb h)]
  exact e b o hb
theorem comp_list {a : Addr} {xs : List V} {j : Nat} {tt : TT} {te : TE} {vs : List Nat} (Rr : Nat → List V → Prop) (hx : SqL K H a xs) (hz : xs.length < 100000) (hw : ∀ x, wipe ((wipe σ vs).set j (some x)) vs = wipe σ vs) (h0 : Rr 0 [])
    (hs : ∀ i x acc H', xs[i]? = some x → Rr i acc → Ex H H' → CTurn tt te ((wipe σ vs).set j (some x)) H' (Rr (i + 1)) acc)
    (k : ∀ D acc H', H D = none → Ex H H' → H' D = some (.lst acc) → Rr xs.length acc → Q (.ref D) H') : Comp (Itl K a) (gName j) tt te vs Q σ H := fun D hD => by
  refine lc_list (K := K) (a := a) (xs := xs) (fun i H' => ∃ acc, Rr i acc ∧ acc.length ≤ i ∧ Ex H H' ∧ H' D = some (.lst acc)) ⟨[], h0, Nat.le_refl _, Ex.new hD, upd_same⟩ (fun i H' _ ⟨_, _, _, e, _⟩ => ex_l e hx) ?_ ?_
  · rintro i x H' hi ⟨acc, r, l, e, hd⟩
    have hi' : i < xs.length := (List.getElem?_eq_some_iff.mp hi).1
    refine ⟨hw x, hs i x acc H' hi r e _ _ (fun y H4 e4 r4 => ?_) (fun H3 e3 r3 => ?_)⟩
    · refine ⟨acc, e4 _ _ hd, Nat.lt_of_le_of_lt l (Nat.lt_of_lt_of_le hi' (Nat.le_trans (Nat.le_of_lt hz) (by decide))), acc ++ [y], r4, by simp; omega, ex_new hD (e.trans e4), upd_same⟩
    · exact ⟨acc, r3, Nat.le_succ_of_le l, e.trans e3, e3 _ _ hd⟩
  · rintro H' ⟨acc, r, l, e, hd⟩
    exact k D acc H' hD e hd r
theorem comp_tup {a : Addr} {xs : List V} {j : Nat} {tt : TT} {te : TE} {vs : List Nat} (Rr : Nat → List V → Prop) (hx : SqT K H a xs) (hz : xs.length < 100000) (hw : ∀ x, wipe ((wipe σ vs).set j (some x)) vs = wipe σ vs) (h0 : Rr 0 [])
    (hs : ∀ i x acc H', xs[i]? = some x → Rr i acc → Ex H H' → CTurn tt te ((wipe σ vs).set j (some x)) H' (Rr (i + 1)) acc)
    (k : ∀ D acc H', H D = none → Ex H H' → H' D = some (.lst acc) → Rr xs.length acc → Q (.ref D) H') : Comp (Itt K a) (gName j) tt te vs Q σ H := fun D hD => by
  refine lc_tup (K := K) (a := a) (xs := xs) (fun i H' => ∃ acc, Rr i acc ∧ acc.length ≤ i ∧ Ex H H' ∧ H' D = some (.lst acc)) ⟨[], h0, Nat.le_refl _, Ex.new hD, upd_same⟩ (fun i H' _ ⟨_, _, _, e, _⟩ => ex_t e hx) ?_ ?_
  · rintro i x H' hi ⟨acc, r, l, e, hd⟩
    have hi' : i < xs.length := (List.getElem?_eq_some_iff.mp hi).1
    refine ⟨hw x, hs i x acc H' hi r e _ _ (fun y H4 e4 r4 => ?_) (fun H3 e3 r3 => ?_)⟩
    · refine ⟨acc, e4 _ _ hd, Nat.lt_of_le_of_lt l (Nat.lt_of_lt_of_le hi' (Nat.le_trans (Nat.le_of_lt hz) (by decide))), acc ++ [y], r4, by simp; omega, ex_new hD (e.trans e4), upd_same⟩
    · exact ⟨acc, r3, Nat.le_succ_of_le l, e.trans e3, e3 _ _ hd⟩
  · rintro H' ⟨acc, r, l, e, hd⟩
    exact k D acc H' hD e hd r
theorem comp_range {lo : Int} {m : Nat} {j : Nat} {tt : TT} {te : TE} {vs : List Nat} (Rr : Nat → List V → Prop) (hz : m < 100000) (hw : ∀ x, wipe ((wipe σ vs).set j (some x)) vs = wipe σ vs) (h0 : Rr 0 [])
    (hs : ∀ (i : Nat) acc H', i < m → Rr i acc → Ex H H' → CTurn tt te ((wipe σ vs).set j (some (.int (lo + i)))) H' (Rr (i + 1)) acc)
    (k : ∀ D acc H', H D = none → Ex H H' → H' D = some (.lst acc) → Rr m acc → Q (.ref D) H') : Comp (Itr lo m) (gName j) tt te vs Q σ H := fun D hD => by
  refine lc_range (lo := lo) (n := m) (fun i H' => ∃ acc, Rr i acc ∧ acc.length ≤ i ∧ Ex H H' ∧ H' D = some (.lst acc)) ⟨[], h0, Nat.le_refl _, Ex.new hD, upd_same⟩ ?_ ?_
  · rintro i H' hi ⟨acc, r, l, e, hd⟩
    refine ⟨hw _, hs i acc H' hi r e _ _ (fun y H4 e4 r4 => ?_) (fun H3 e3 r3 => ?_)⟩
    · refine ⟨acc, e4 _ _ hd, Nat.lt_of_le_of_lt l (Nat.lt_of_lt_of_le hi (Nat.le_trans (Nat.le_of_lt hz) (by decide))), acc ++ [y], r4, by simp; omega, ex_new hD (e.trans e4), upd_same⟩
    · exact ⟨acc, r3, Nat.le_succ_of_le l, e.trans e3, e3 _ _ hd⟩
  · rintro H' ⟨acc, r, l, e, hd⟩
    exact k D acc H' hD e hd r
theorem x_slice {r : V → Option Int → Option Int → Hp → VK → Prop} {te : TE} {tl th : TO} (k : te σ H fun x H1 => tl σ H1 fun lo H2 => th σ H2 fun hi H3 => r x lo hi H3 Q) : tSl r te tl th σ H Q := k
theorem x_part {te : TE} {QO : Option Int → Hp → Prop} (k : te σ H fun x H1 => ∃ i, x = .int i ∧ QO (some i) H1) : tPart te σ H QO := k
theorem x_nopart {QO : Option Int → Hp → Prop} (k : QO none H) : tNoPart σ H QO := k
theorem x_revL {te : TE} (k : te σ H fun x H1 => ∃ a xs, x = .ref a ∧ SqL K H1 a xs ∧ ∀ p, H1 p = none → Q (.ref p) (upd H1 p (.lst xs.reverse))) : tRevL K te σ H Q := k
theorem x_disp {trs : List (TE × TE)} (k : ∀ p, H p = none → tPairs trs σ (upd H p (.dK [])) fun ps H2 => H2 p = some (.dK []) ∧ ∃ kvs : List (Key × V), ps = kvs.map (fun kv => (kV kv.1, kv.2)) ∧ kvs.length ≤ 15 ∧ Q (.ref p) (upd H2 p (.dK (mergeK [] kvs)))) : tDisp trs σ H Q := k
theorem x_pairs {tk tv : TE} {r : List (TE × TE)} {QP : List (V × V) → Hp → Prop} (k : tk σ H fun x H1 => tv σ H1 fun y H2 => tPairs r σ H2 fun ps H3 => QP ((x, y) :: ps) H3) : tPairs ((tk, tv) :: r) σ H QP := k
theorem x_pairs0 {QP : List (V × V) → Hp → Prop} (k : QP [] H) : tPairs [] σ H QP := k
end
end L3
namespace L3
open PySem L2 Evl
theorem q_for {wi : TI} {g : TG} {tb u : TS} {D : Ends} {σ : L2.St} {H : Hp} (h : False) : tSeq (tFor wi g tb) u D σ H := h.elim
theorem q_while {c : TT} {tb u : TS} {D : Ends} {σ : L2.St} {H : Hp} (h : False) : tSeq (tWhile c tb) u D σ H := h.elim
end L3

namespace L3
open PySem L2 Evl
/-! == by an own __eq__ of two instances of one class; str() by an own __str__ -/
def rEqI (C : Addr) (sp : Sp) : R2 := fun x y H Q => ∃ a b dx fs dy gs, x = .ref a ∧ y = .ref b ∧ H a = some (.ins C dx fs) ∧ H b = some (.ins C dy gs) ∧ sp [.ref a, .ref b] H (fun v H' => ∃ c, v = .bl c ∧ Q (.bl c) H') E0
section
variable {X : Cx} {k : Nat} {C : Addr} {ps : List Str} {sp : Sp}
theorem op_eqI (M : Mt X.prog X.w X.K X.mg X.base k C "__eq__" ps sp) (hr : Room k X.A) : OpR X (compareOp .Eq) (rEqI C sp) := by
  intro pins s σ H x y v u Q I rx ry hq
  obtain ⟨a, b, dx, fs, dy, gs, rfl, rfl, ha, hb', hsp⟩ := hq
  obtain ⟨f, fd, F, me, bi⟩ := M.ex
  cases rx
  cases ry
  obtain ⟨mA, J, _⟩ := ins_get I.hok ha
  obtain ⟨mB, J', _⟩ := ins_get I.hok hb'
  obtain ⟨od, J, _⟩ := J.look
  obtain ⟨od', J', _⟩ := J'.look
  obtain ⟨m, hF⟩ := I.fr
  show wpAny (model X.prog X.w) X.A (richCompare .Eq (.ref a) (.ref b)) (EP X pins σ Q) X.xe s
  refine PySem.W.cmp_K (op := .Eq) (tb := .ref C) hr.units0 hF I.ok.mod.kin J J'.type (by simp [PySem.W.notFirst]) me.at_ me.fn ?_
  have e0 : Env0 X.prog X.w X.K X.mg X.base X.A X.stack s H := I.env0
  have hl := F.len _ _ _ _ hsp
  have r2 : Vals [V.ref a, V.ref b] [Value.ref a, Value.ref b] := .cons rfl (.cons rfl .nil)
  refine wpAny_call (codeAny_mono (F.run X.A X.stack s H ⟨[.ref a, .ref b], []⟩ [.ref a, .ref b] [.ref a, .ref b] _ E0 hr e0 (by
    have := bi s [.ref a, .ref b] I.kIn (by simpa using hl)
    simpa using this) r2 hsp) fun r s' hq => ?_)
  cases r with
  | error e => exact hq.elim
  | ok fl =>
    cases fl with
    | ret w =>
      obtain ⟨z, H', I', rz, c, ez, q⟩ := I.after hq
      subst ez
      cases rz
      exact ⟨.bl c, H', I', rfl, q⟩
    | next => exact False.elim hq
    | brk => exact False.elim hq
    | cont => exact False.elim hq
theorem x_eqI {H : Hp} {Q : VK} {a b dx dy : Addr} {fs gs : List (Str × V)} (ha : H a = some (.ins C dx fs)) (hb : H b = some (.ins C dy gs)) (k : sp [.ref a, .ref b] H (fun v H' => ∃ c, v = .bl c ∧ Q (.bl c) H') E0) : rEqI C sp (.ref a) (.ref b) H Q :=
  ⟨a, b, dx, fs, dy, gs, rfl, rfl, ha, hb, k⟩
def rStrO (C : Addr) (sp : Sp) : List V → Hp → VK → Prop := fun xs H Q => ∃ a dx fs, xs = [.ref a] ∧ H a = some (.ins C dx fs) ∧ sp [.ref a] H (fun v H' => ∃ x, v = .str x ∧ Q (.str x) H') E0
theorem call_strO (M : Mt X.prog X.w X.K X.mg X.base k C "__str__" ps sp) (hr : Room (k + 2) X.A) : CallR X (.type "str") (rStrO C sp) := by
  intro pins s σ H xs us Q I r h
  obtain ⟨a, dx, fs, rfl, ha, hsp⟩ := h
  obtain ⟨f, fd, F, me, bi⟩ := M.ex
  obtain ⟨u, rfl, rx⟩ := vals1 r
  cases rx
  obtain ⟨mA, J, _⟩ := ins_get I.hok ha
  obtain ⟨od, J, _⟩ := J.look
  have hr1 : Room k X.A.in1.in1 := (Room.in1 (k := k + 1) hr).in1
  refine PySem.W.kso_call hr1.units0 I.kIn J me.at_ me.fn ?_
  have e0 : Env0 X.prog X.w X.K X.mg X.base X.A.in1.in1 X.stack s H := I.env0.in1.in1
  have hl := F.len _ _ _ _ hsp
  have r2 : Vals [V.ref a] [Value.ref a] := .cons rfl .nil
  refine wpAny_call (codeAny_mono (F.run X.A.in1.in1 X.stack s H ⟨[.ref a], []⟩ [.ref a] [.ref a] _ E0 hr1 e0 (by
    have := bi s [.ref a] I.kIn (by simpa using hl)
    simpa using this) r2 hsp) fun r s' hq => ?_)
  cases r with
  | error e => exact hq.elim
  | ok fl =>
    cases fl with
    | ret w =>
      obtain ⟨z, H', I', rz, c, ez, q⟩ := I.after hq
      subst ez
      obtain ⟨t, rfl⟩ := rz
      exact ⟨.str c, H', I', ⟨t, rfl⟩, q⟩
    | next => exact False.elim hq
    | brk => exact False.elim hq
    | cont => exact False.elim hq
theorem x_strO {H : Hp} {Q : VK} {a dx : Addr} {fs : List (Str × V)} (ha : H a = some (.ins C dx fs)) (k : sp [.ref a] H (fun v H' => ∃ x, v = .str x ∧ Q (.str x) H') E0) : rStrO C sp [.ref a] H Q := ⟨a, dx, fs, rfl, ha, k⟩
/-! f-strings -/
theorem x_fmtI {σ : L2.St} {H : Hp} {Q : VK} {te : TE} (k : te σ H fun x H1 => (∃ y : Str, x = .str y ∧ y.length ≤ sizeLine ∧ Q (.str y) H1) ∨ ∃ i : Int, x = .int i ∧ i.natAbs.log2 < 1920 ∧ Q (.str (toString i)) H1) : tFmt te σ H Q := k
abbrev numS (i : Int) : Str := Str.ofString (toString i)
theorem x_fint {H : Hp} {Q : VK} {i : Int} (h : i.natAbs.log2 < 1920) (k : Q (.str (numS i)) H) : (∃ y : Str, V.int i = .str y ∧ y.length ≤ sizeLine ∧ Q (.str y) H) ∨ ∃ j : Int, V.int i = .int j ∧ j.natAbs.log2 < 1920 ∧ Q (.str (toString j)) H := .inr ⟨i, rfl, h, k⟩
theorem x_fstr {H : Hp} {Q : VK} {y : Str} (h : y.length ≤ sizeLine) (k : Q (.str y) H) : (∃ z : Str, V.str y = .str z ∧ z.length ≤ sizeLine ∧ Q (.str z) H) ∨ ∃ j : Int, V.str y = .int j ∧ j.natAbs.log2 < 1920 ∧ Q (.str (toString j)) H := .inl ⟨y, rfl, h, k⟩
theorem x_js {σ : L2.St} {H : Hp} {t : TE} {ts : List TE} {acc : Str} {QS : Str → Hp → Prop} (k : t σ H fun x H1 => ∃ y : Str, x = .str y ∧ (acc ++ y).length ≤ sizeLine ∧ tJs ts (acc ++ y) σ H1 QS) : tJs (t :: ts) acc σ H QS := k
theorem x_js0 {σ : L2.St} {H : Hp} {acc : Str} {QS : Str → Hp → Prop} (k : QS acc H) : tJs [] acc σ H QS := k
theorem num_small {i : Int} (h0 : 0 ≤ i) (h1 : i < 10 ^ 9) : i.natAbs.log2 < 1920 := by
  have : i.natAbs < 10 ^ 9 := by omega
  have h2 : i.natAbs.log2 ≤ 30 := by
    by_cases hz : i.natAbs = 0
    · rw [hz]; decide
    · have := (Nat.log2_lt hz (k := 31)).mpr (by omega)
      omega
  omega
theorem numS_len {i : Int} (h0 : 0 ≤ i) (h1 : i < 10 ^ 9) : (numS i).length ≤ 10 := PySem.W.KT.len_num h0 (by omega)
end
end L3

namespace L3
open PySem L2 Evl TL
/-! lists of ints compared -/
theorem dpAll_ints {K : PySem.W.Frag} {H : Hp} : ∀ ns : List Int, DpAll K H (ns.map V.int) (ns.map PyData.int)
  | [] => .nil
  | n :: ns => .cons (.int n) (dpAll_ints ns)
theorem dp_ints {K : PySem.W.Frag} {H : Hp} {p : Addr} {ns : List Int} (h : H p = some (.lst (ns.map V.int))) : Dp K H (.ref p) (.list (ns.map PyData.int)) := .lst (SqL.of h) (dpAll_ints ns)
theorem canLayAll_ints : ∀ ns : List Int, PyData.canLayAll0 (ns.map PyData.int) = true
  | [] => by simp [PyData.canLayAll0]
  | n :: ns => by simp [PyData.canLayAll0, PyData.canLay0, canLayAll_ints ns]
theorem depthAll_ints : ∀ ns : List Int, PyData.depthAll (ns.map PyData.int) = 0
  | [] => by simp [PyData.depthAll]
  | n :: ns => by simp [PyData.depthAll, PyData.depth, depthAll_ints ns]
theorem shaped_ints (ns : List Int) : SeqAt.shaped (.list (ns.map PyData.int)) = true := by
  unfold SeqAt.shaped
  simp only [PyData.canLay0, canLayAll_ints, PyData.depth, depthAll_ints]
  decide
theorem eqvAll_ints : ∀ ns ms : List Int, PyData.eqvAll (ns.map PyData.int) (ms.map PyData.int) = decide (ns = ms)
  | [], [] => by simp [PyData.eqvAll]
  | [], m :: ms => by simp [PyData.eqvAll]
  | n :: ns, [] => by simp [PyData.eqvAll]
  | n :: ns, m :: ms => by
    simp only [List.map_cons, PyData.eqvAll, PyData.eqv, eqvAll_ints ns ms]
    by_cases h : n = m
    · subst h; simp
    · simp [h]
theorem x_neInts {K : PySem.W.Frag} {H : Hp} {Q : VK} {p q : Addr} {ns ms : List Int} (h1 : H p = some (.lst (ns.map V.int))) (h2 : H q = some (.lst (ms.map V.int))) (k : Q (.bl (!decide (ns = ms))) H) : rNeD K (.ref p) (.ref q) H Q := by
  refine ⟨_, _, dp_ints h1, dp_ints h2, shaped_ints ns, shaped_ints ms, ?_⟩
  simp only [PyData.eqv, eqvAll_ints]
  exact k
theorem x_eqInts {K : PySem.W.Frag} {H : Hp} {Q : VK} {p q : Addr} {ns ms : List Int} (h1 : H p = some (.lst (ns.map V.int))) (h2 : H q = some (.lst (ms.map V.int))) (k : Q (.bl (decide (ns = ms))) H) : rEqD K (.ref p) (.ref q) H Q := by
  refine ⟨_, _, dp_ints h1, dp_ints h2, shaped_ints ns, shaped_ints ms, ?_⟩
  simp only [PyData.eqv, eqvAll_ints]
  exact k
def rIsC (C : Addr) : List V → Hp → VK → Prop := fun xs H Q => ∃ a dx fs, xs = [.ref a, .ref C] ∧ H a = some (.ins C dx fs) ∧ Q (.bl true) H
theorem call_isC' {X : Cx} {C : Addr} (c : C8.InsC X.K C) : CallR X (.builtin "isinstance") (rIsC C) := C8.call_isC c
theorem x_isC {C : Addr} {H : Hp} {Q : VK} {a dx : Addr} {fs : List (Str × V)} (h : H a = some (.ins C dx fs)) (k : Q (.bl true) H) : rIsC C [.ref a, .ref C] H Q := ⟨a, dx, fs, rfl, h, k⟩
/-! the text of a rule tells its arguments -/
theorem numS_tl {i : Int} (h : 0 ≤ i) : tl (numS i) = numL i.toNat := by
  obtain ⟨n, rfl⟩ := Int.eq_ofNat_of_zero_le h
  exact tl_num n
end L3
namespace L3
open PySem L2 Evl TL
theorem q_ifs {c : TT} {t1 t2 u : TS} {D : Ends} {σ : L2.St} {H : Hp} (h : False) : tSeq (tIfS c t1 t2) u D σ H := h.elim
theorem x_cutE {σ : L2.St} {H : Hp} {n r b c} {t u : TS} (h1 : ∀ nn : L2.St → Hp → Prop, (∀ H', Ex H H' → nn σ H') → t ⟨nn, r, b, c⟩ σ H) (h2 : ∀ H', Ex H H' → u ⟨n, r, b, c⟩ σ H') : tSeq t u ⟨n, r, b, c⟩ σ H := h1 _ h2
section
variable {σ : L2.St} {H : Hp} {Q : VK} {K : PySem.W.Frag} {j : Nat} {te : TE} {vs : List Nat}
theorem comp_rangeF {lo : Int} {m : Nat} (f : Nat → Int) (hz : m < 100000) (hw : ∀ x, wipe ((wipe σ vs).set j (some x)) vs = wipe σ vs)
    (hs : ∀ (i : Nat) H', i < m → Ex H H' → ∀ KY : VK, KY (.int (f i)) H' → te ((wipe σ vs).set j (some (.int (lo + i)))) H' KY)
    (k : ∀ D H', H D = none → Ex H H' → H' D = some (.lst (((List.range m).map f).map V.int)) → Q (.ref D) H') : Comp (Itr lo m) (gName j) tYes te vs Q σ H := by
  refine comp_range (fun i acc => acc = ((List.range i).map f).map V.int) hz hw rfl (fun i acc H' hi ha e KY KN ky kn => ?_) (fun D acc H' hD e hl ha => k D H' hD e (by rw [hl, ha]))
  refine x_yes ?_
  rw [if_pos rfl]
  exact hs i H' hi e KY (ky _ _ (Ex.refl _) (by rw [ha, List.range_succ]; simp))
theorem comp_tupF {a : Addr} {ns : List Int} (f : Int → Int) (hx : SqT K H a (ns.map V.int)) (hz : ns.length < 100000) (hw : ∀ x, wipe ((wipe σ vs).set j (some x)) vs = wipe σ vs)
    (hs : ∀ (n : Int) H', n ∈ ns → Ex H H' → ∀ KY : VK, KY (.int (f n)) H' → te ((wipe σ vs).set j (some (.int n))) H' KY)
    (k : ∀ D H', H D = none → Ex H H' → H' D = some (.lst ((ns.map f).map V.int)) → Q (.ref D) H') : Comp (Itt K a) (gName j) tYes te vs Q σ H := by
  refine comp_tup (fun i acc => acc = ((ns.take i).map f).map V.int) hx (by simpa using hz) hw rfl (fun i x acc H' hi ha e KY KN ky kn => ?_) (fun D acc H' hD e hl ha => k D H' hD e (by rw [hl, ha]; simp))
  rw [List.getElem?_map] at hi
  cases q : ns[i]? with
  | none => rw [q] at hi; cases hi
  | some n =>
    rw [q] at hi
    cases hi
    refine x_yes ?_
    rw [if_pos rfl]
    exact hs n H' (List.mem_of_getElem? q) e KY (ky _ _ (Ex.refl _) (by rw [ha, List.take_add_one, q]; simp))
end
end L3
namespace L3
open PySem L2 Evl TL
theorem x_par {σ : L2.St} {H : Hp} {n r b c} {i j : Nat} {ta : TA} (k : ta σ H fun vs H1 => ∃ v w, vs = [v, w] ∧ n ((σ.set i (some v)).set j (some w)) H1) : tPar i j ta ⟨n, r, b, c⟩ σ H := k
theorem x_rep {K : PySem.W.Frag} {H : Hp} {Q : VK} : True := trivial
end L3
namespace L3
open PySem L2 Evl TL
section
variable {σ : L2.St} {H : Hp} {Q : VK} {K : PySem.W.Frag} {j : Nat} {te : TE} {tt : TT} {vs : List Nat}
/-- a comprehension whose test never holds -/
theorem comp_range0 {lo : Int} {m : Nat} (hz : m < 100000) (hw : ∀ x, wipe ((wipe σ vs).set j (some x)) vs = wipe σ vs)
    (hs : ∀ (i : Nat) H', i < m → Ex H H' → ∀ KT : Bool → Hp → Prop, (∀ H3, Ex H' H3 → KT false H3) → tt ((wipe σ vs).set j (some (.int (lo + i)))) H' KT)
    (k : ∀ D H', H D = none → Ex H H' → H' D = some (.lst []) → Q (.ref D) H') : Comp (Itr lo m) (gName j) tt te vs Q σ H := by
  refine comp_range (fun i acc => acc = []) hz hw rfl (fun i acc H' hi ha e KY KN ky kn => ?_) (fun D acc H' hD e hl ha => k D H' hD e (by rw [hl, ha]))
  refine hs i H' hi e _ fun H3 e3 => ?_
  rw [if_neg (by decide)]
  exact kn H3 e3 ha
end
end L3
namespace L3
open PySem L2 Evl TL
section
variable {σ : L2.St} {H : Hp} {Q : VK} {K : PySem.W.Frag} {QG : L2.St → Hp → Prop}
theorem x_asgG {n r b c} {te : TE} {g : TG} (k : te σ H fun x H1 => g x σ H1 n) : tAsg te g ⟨n, r, b, c⟩ σ H := k
theorem x_gtup {a : Addr} {xs : List V} {m : Nat} {t : TGs} (h : SqT K H a xs) (hl : xs.length = m) (k : t xs σ H QG) : gTup K m t (.ref a) σ H QG := ⟨a, xs, rfl, h, hl, k⟩
theorem x_gcons {v : V} {r : List V} {t : TG} {u : TGs} (k : t v σ H fun σ' H' => u r σ' H' QG) : gCons t u (v :: r) σ H QG := ⟨v, r, rfl, k⟩
theorem x_gnil (k : QG σ H) : gNil [] σ H QG := ⟨rfl, k⟩
end
end L3

namespace L3
open PySem L2 Evl TL
/-! a call whose first argument is starred, with more behind -/
theorem evalArgs_star {M : Model} {A : Around} {E : Value → Shared → Prop} {s : Shared} {f : Value} {x : Sem Value} {y : Bool × Sem Value} {rest : List (Bool × Sem Value)} {Q : Args → Shared → Prop}
    (h : wpAny M A (spliced ((true, x) :: y :: rest)) (fun vs s' => Q ⟨vs, []⟩ s') E s) : wpAny M A (evalArgs f true ((true, x) :: y :: rest) []) Q E s := by
  unfold evalArgs
  show wpAny M A (spliced ((true, x) :: y :: rest) >>= _) Q E s
  refine wpAny_bind (wpAny_mono h (fun vs s' h' => ?_) fun _ _ x => x)
  refine wpAny_holding ?_
  exact wpAny_bind (wpAny_pure (wpAny_bind (wpAny_pure (wpAny_pure h'))))
/-- x(*e, ..), x a local name that holds the class at C -/
def tMakeL (i : Nat) (C : Addr) (sp : Sp) (t : TA) : TE := fun σ H Q => σ[i]? = some (some (.ref C)) ∧ t σ H fun vs H1 => ∀ x dx, H1 x = none → H1 dx = none → dx ≠ x →
  sp (.ref x :: (vs ++ [])) (upd (upd H1 dx (.own x)) x (.ins C dx [])) (fun v H2 => v = .non ∧ Q (.ref x) H2) E0
section
variable {X : Cx} {k i : Nat} {x y : Str} {C : Addr} {ps : List Str} {sp : Sp} {e e2 : Expr} {es : List Expr} {p p2 pos : Pos} {t : TA} {a2 : Bool × Sem Value} {r2 : List (Bool × Sem Value)}
theorem pe_newL (M : Nw X.prog X.w X.K X.mg X.base k y C ps sp) (hr : Room (k + 1) X.A) (hN : X.N[i]? = some x) (hv : Vis X.env.scope x) (ha : PA X (.Starred e p2 :: e2 :: es) t)
    (hdb : (x == ("__debug__" : Str)) = false := by decide) (hcd : (x == ("__classdict__" : Str)) = false := by decide)
    (he : starEach (.Starred e p2 :: e2 :: es) X.env = (true, eval e X.env) :: a2 :: r2 := by rfl) : PE X (.Call (.Name x p) (.Starred e p2 :: e2 :: es) [] pos) (tMakeL i C sp t) := by
  obtain ⟨f, fd, F, g, b⟩ := M.ex
  refine ⟨fun pins s σ H Q I h => ?_⟩
  obtain ⟨hs, ht⟩ := h
  refine wpAny_Call_Name_kw (thn ((pe_var (pos := p) hN hv hdb hcd).run pins s σ H (fun v H1 => v = .ref C ∧ H1 = H) I ⟨.ref C, hs, rfl, rfl⟩) fun u s1 ⟨v, H1, I1, r1, q1⟩ => ?_)
  obtain ⟨rfl, rfl⟩ := q1
  cases r1
  have hrun := ha.run pos pins s1 σ _ _ I1 ht
  rw [he] at hrun
  show wpAny _ _ (callWith pos (.ref C) [] (backTo pos (starEach (.Starred e p2 :: e2 :: es) X.env)) []) _ _ _
  rw [he]
  refine PySem.W.ks_call (P := fun h => X.K.In h) rfl (PySem.W.keeps_K g.kp) (evalArgs_star (thn hrun fun us s2 ⟨vs, H2, I2, r, q⟩ => ⟨I2.kIn, ?_⟩))
  exact run_make g F hr b .nil pass0 I2 r q
end
/-! class methods -/
structure Cmd (K : PySem.W.Frag) (C : Addr) (m q : Str) (st : Stmt) : Prop where
  ex : ∃ p g fd, Fun K m q st g fd ∧ ClX.CRead K C (.type "type") ∧ ClX.CMet K C (.type "type") m p g
structure Cm (P : Program) (w : World) (K : PySem.W.Frag) (mg : Str → Option Value) (base : Heap) (k : Nat) (C : Addr) (m : Str) (sp : Sp) : Prop where
  ex : ∃ p g, FnR P w K mg base CX0 k g sp ∧ ClX.CRead K C (.type "type") ∧ ClX.CMet K C (.type "type") m p g
section
variable {P : Program} {w : World} {K : PySem.W.Frag} {mg : Str → Option Value} {base : Heap} {k : Nat} {q m : Str} {C : Addr} {ps N : List Str} {sp : Sp} {st : Stmt}
theorem cm_md (D : Cmd K C m q st) (S : FnScope N ps (defScope st)) (len : ∀ vs H Q E, sp vs H Q E → vs.length = ps.length)
    (hb : ∀ (kV doc pm : Value) (an : Option Addr) (cdv ct : Value) (us : List Value), us.length = ps.length → bindArgs (PySem.W.fnOf m q (defArgs st) (defBody st) (defScope st) .none kV doc pm an cdv ct) ⟨us, []⟩ = pure (ps.zip us))
    (hbody : ∀ (f : Addr) (cdv : Value) (A : Around) (outer : List Env) (s : Shared) (H : Hp) (vs : List V) (Q : VK) (E : XK), Room k (A.deeper (PyProof.Rows.envOfC q (defScope st) s.heap.objs.size f cdv)) → sp vs H Q E →
      ∃ t, PSs (cxOf CX0 P w K mg base N q (defScope st) f cdv A outer s H E).nox (defBody st) t ∧ t { nx := fun _ H' => Q .non H', rt := Q } (start N vs) H) : Cm P w K mg base (k + 1) C m sp := by
  obtain ⟨p, g, fd, F, r, c⟩ := D.ex
  have R := (F.ok S len (hbody g)).raw (F.binds hb) .nil
  exact ⟨p, g, R.imp fun vs H Q E h => by simpa using h, r, c⟩
end
section
variable {X : Cx} {k : Nat} {m : Str} {C : Addr} {sp : Sp} {e o : Expr} {es : List Expr} {pos apos : Pos} {t : TA} {ta : TE}
theorem pe_cm {pl : Sem Bool} (M : Cm X.prog X.w X.K X.mg X.base k C m sp) (hr : Room k X.A) (ho : PE X o ta) (ha : PA X (e :: es) t)
    (hst : starEach (e :: es) X.env = (false, eval e X.env) :: starEach es X.env := by rfl) (hpl : (backTo pos (starEach es X.env)).any (·.1) = false := by rfl)
    (ht : eval (.Call (.Attribute o m apos) (e :: es) [] pos) X.env = (do
      let ov ← eval o X.env
      standAt apos.atName
      let (f, first) ← holding [ov] (getMethod ov m pl)
      callWith pos f first (backTo pos (starEach (e :: es) X.env)) (backToKw pos (keywordEach [] X.env))) := by rfl) : PE X (.Call (.Attribute o m apos) (e :: es) [] pos) (ClX.tCMeth C sp E0 ta t) := by
  obtain ⟨p, g, F, r, c⟩ := M.ex
  exact ClX.pe_cmeth ho r c F hr pass0 ha hst hpl ht
theorem x_cm {σ : L2.St} {H : Hp} {Q : VK} {E : XK} (k : ta σ H fun x H1 => x = .ref C ∧ t σ H1 fun vs H2 => sp (.ref C :: vs) H2 Q E) : ClX.tCMeth C sp E ta t σ H Q := k
theorem x_newL {σ : L2.St} {H : Hp} {Q : VK} {i : Nat} (h : σ[i]? = some (some (.ref C))) (k : t σ H fun vs H1 => ∀ x dx, H1 x = none → H1 dx = none → dx ≠ x →
  sp (.ref x :: (vs ++ [])) (upd (upd H1 dx (.own x)) x (.ins C dx [])) (fun v H2 => v = .non ∧ Q (.ref x) H2) E0) : tMakeL i C sp t σ H Q := ⟨h, k⟩
theorem x_star {K : PySem.W.Frag} {σ : L2.St} {H : Hp} {te : TE} {QA : List V → Hp → Prop} (k : te σ H fun x H1 => ∃ p xs, x = V.ref p ∧ (SqT K H1 p xs ∨ SqL K H1 p xs) ∧ t σ H1 fun ys H2 => QA (xs ++ ys) H2) : StX.tStar K te t σ H QA := k
end
/-! the head's facts of a class method -/
def cmB (x m : Str) (K : PySem.W.Frag) : Bool := He5.wrapB K (He.ga K x) "classmethod" "classmethod.__get__" m && (PySem.W.fnIn K (He5.wf K (He.ga K x) "classmethod" m) && (PySem.W.readsIn K (He.ga K x) (.type "type") && He.eqO (PySem.W.specialIn K (.ref (He.ga K x)) "__getattribute__") (some (some (.builtin "type.__getattribute__")))))
def cdef (c m q : Str) (st : Stmt) : He5.DefA := ⟨fun K => He5.wf K (He.ga K c) "classmethod" m, m, q, L2.defArgs st, L2.defBody st, L2.defScope st, [], []⟩
theorem cmd_of {K : PySem.W.Frag} {x m q : Str} {st : Stmt} {ex : PySem.W.Frag → Bool} {fn : List He5.DefA} (f : cmB x m K = true) (s : SaysB ex fn K) (i : Nat) (e : fn[i]? = some (cdef x m q st) := by rfl) : Cmd K (He.ga K x) m q st := by
  obtain ⟨h1, h⟩ := He.ba f
  obtain ⟨h2, h⟩ := He.ba h
  obtain ⟨h3, h4⟩ := He.ba h
  obtain ⟨fd, F⟩ := s.def_ i e
  exact ⟨_, _, fd, He5.fun_of F, ⟨h3, He.eqO_ok h4⟩, He5.cmet_of h1 h2⟩
end L3

namespace L3
open PySem L2 Evl TL
/-! zip of a tuple and a list -/
def ItzM (K : PySem.W.Frag) (a b : Addr) : It where
  go := fun i H => ∃ (xs ys : List V) (x y : V), SqT K H a xs ∧ SqL K H b ys ∧ xs[i]? = some x ∧ ys[i]? = some y
  yld := fun i H v H' => ∃ T x y, v = .ref T ∧ H T = none ∧ H' = upd H T (.tup [x, y]) ∧ (∀ xs, SqT K H a xs → xs[i]? = some x) ∧ ∀ ys, SqL K H b ys → ys[i]? = some y
  stop := fun i H => ∃ xs ys : List V, SqT K H a xs ∧ SqL K H b ys ∧ i = min xs.length ys.length
def zSt (N a b i : Nat) (h : Heap) : Prop := IsZip h (N + 4) (N + 2) (N + 3) .none ∧ IsTupOf2 h (N + 2) (.ref N) (.ref (N + 1)) ∧ (∃ a1 a2, IsTupOf2 h (N + 3) a1 a2) ∧ h.IsTupleIter N a i ∧ h.IsListIter (N + 1) b i
theorem turn_zipM {P : Program} {w : World} {K : PySem.W.Frag} {elts : List Expr} {kk : Nat} {tpos : Pos} {N a b : Nat} (ha : a < N) (hb : b < N) :
    Turn P w K (.Tuple elts kk tpos) (ItzM K a b) [N + 4, N + 2, N + 3, N, N + 1] (N + 4) (zSt N a b) where
  mem := by simp
  obj := by
    rintro i h ⟨z1, z2, ⟨x1, x2, z3⟩, ⟨o4, z4, _, d4⟩, ⟨o5, z5, _, d5⟩⟩ c hc
    simp only [List.mem_cons, List.not_mem_nil, or_false] at hc
    rcases hc with rfl | rfl | rfl | rfl | rfl
    · exact ⟨_, z1, nofun⟩
    · exact ⟨_, z2, nofun⟩
    · exact ⟨_, z3, nofun⟩
    · exact ⟨o4, z4, fun v q => by rw [d4] at q; cases q⟩
    · exact ⟨o5, z5, fun v q => by rw [d5] at q; cases q⟩
  keep := by
    rintro i h h' ⟨z1, z2, ⟨x1, x2, z3⟩, z4, z5⟩ k
    exact ⟨k _ (by simp) _ z1, k _ (by simp) _ z2, ⟨x1, x2, k _ (by simp) _ z3⟩, z4.at fun o q => k _ (by simp) o q, z5.at fun o q => k _ (by simp) o q⟩
  item := by
    rintro X rfl rfl rfl hc i pins s σ H E I hf st ⟨xs, ys, x, y, qx, qy, hx, hy⟩
    obtain ⟨z1, z2, z3, z4, z5⟩ := st
    obtain ⟨us, ru, pu, _⟩ := I.tuple qx
    obtain ⟨ws, rw', pw, _⟩ := I.list qy
    have lu := ru.length
    have lw := rw'.length
    have ix : i < xs.length := (List.getElem?_eq_some_iff.mp hx).1
    have iy : i < ys.length := (List.getElem?_eq_some_iff.mp hy).1
    have hh : X.A.in1.handled = none := I.ok.hd hc
    have nz : N + 4 < s.heap.objs.size := Heap.lt_size z1
    have W := GoesN.zip2 (prog := X.prog) (w := X.w) (A := X.A) (elts := elts) (x1 := kk) (pos := tpos) (zip_sep2 (N := N) (fp1 := [a]) (fp2 := [b]) (by simpa using ha) (by simpa using hb))
      (Draws.tuple hh N a (Nat.ne_of_lt ha) us.toArray) (Draws.list hh (N + 1) b (Nat.ne_of_lt (Nat.lt_succ_of_lt hb)) ws.toArray)
    refine W.goes i s _ E (by simp; omega) ⟨z1, z2, z3, ⟨z4, pu⟩, ⟨z5, pw.isList⟩⟩ fun v h' tk hY st' hk htk => ?_
    obtain ⟨T, u1, u2, rfl, hT, e1, e2, hTt⟩ := hY
    obtain ⟨w1, w2, w3, ⟨w4, _⟩, ⟨w5, _⟩⟩ := st'
    obtain ⟨v1, g1, r1⟩ := ru.get hx
    obtain ⟨v2, g2, r2⟩ := rw'.get hy
    have q1 : u1 = v1 := by
      have : us.toArray[i]? = us[i]? := by simp
      rw [this, g1] at e1
      exact (Option.some.inj e1).symm
    have q2 : u2 = v2 := by
      have : ws.toArray[i]? = ws[i]? := by simp
      rw [this, g2] at e2
      exact (Option.some.inj e2).symm
    subst q1 q2
    have new : ObjOk X.prog X.w (upd H T (.tup [x, y])) h' T (.tup [x, y]) := ⟨by show 2 ≤ sizeLine; decide, [u1, u2], .cons r1 (.cons r2 .nil), hTt⟩
    have I1 : Inv X pins σ (upd H T (.tup [x, y])) { s with heap := h', toks := tk } := I.turnedNew (t' := tk) (ch := [N + 4, N + 3, N, N + 1]) (fun c o hb q => hk c o hb q) (fun c hc' => hf c (by
      simp only [List.mem_cons, List.not_mem_nil, or_false] at hc' ⊢
      rcases hc' with z | z | z | z <;> simp [z])) hT new
    refine ⟨.ref T, _, I1, rfl, ⟨T, x, y, rfl, I.hok.fresh hT, rfl, fun l hl => by rw [I.tuple_inj hl qx]; exact hx, fun l hl => by rw [I.list_inj hl qy]; exact hy⟩, ⟨w1, w2, w3, w4, w5⟩, fun c hc' => ?_⟩
    have lt : c < s.heap.objs.size := by
      simp only [List.mem_cons, List.not_mem_nil, or_false] at hc'
      rcases hc' with z | z | z | z | z
      · exact Nat.lt_of_le_of_lt (Nat.le_of_eq z) nz
      · exact Nat.lt_of_le_of_lt (Nat.le_of_eq z) (by omega)
      · exact Nat.lt_of_le_of_lt (Nat.le_of_eq z) (by omega)
      · exact Nat.lt_of_le_of_lt (Nat.le_of_eq z) (by omega)
      · exact Nat.lt_of_le_of_lt (Nat.le_of_eq z) (by omega)
    rw [upd_ne (Nat.ne_of_lt (Nat.lt_of_lt_of_le lt hT))]
    exact (hf c hc').1
  done := by
    rintro X rfl rfl rfl hc i pins s σ H E I hf st ⟨xs, ys, qx, qy, hi⟩
    obtain ⟨z1, z2, z3, z4, z5⟩ := st
    obtain ⟨us, ru, pu, _⟩ := I.tuple qx
    obtain ⟨ws, rw', pw, _⟩ := I.list qy
    have lu := ru.length
    have lw := rw'.length
    have hh : X.A.in1.handled = none := I.ok.hd hc
    have W := GoesN.zip2 (prog := X.prog) (w := X.w) (A := X.A) (elts := elts) (x1 := kk) (pos := tpos) (zip_sep2 (N := N) (fp1 := [a]) (fp2 := [b]) (by simpa using ha) (by simpa using hb))
      (Draws.tuple hh N a (Nat.ne_of_lt ha) us.toArray) (Draws.list hh (N + 1) b (Nat.ne_of_lt (Nat.lt_succ_of_lt hb)) ws.toArray)
    have e : min us.toArray.size ws.toArray.size = i := by simp; omega
    refine W.stops s (fun s1 => Inv X pins σ H s1) E (by rw [e]; exact ⟨z1, z2, z3, ⟨z4, pu⟩, ⟨z5, pw.isList⟩⟩) fun h' tk hk htk => ?_
    exact I.turnedL (t' := tk) (ch := [N + 4, N + 3, N, N + 1]) (fun c o hb q => hk c o hb q) (fun c hc' => hf c (by
      simp only [List.mem_cons, List.not_mem_nil, or_false] at hc' ⊢
      rcases hc' with z | z | z | z <;> simp [z]))
  self := fun A i s Q E st h => wpAny_pyIter_zip st.1 h
def iZipM (K : PySem.W.Frag) (ta : TA) : TI := fun σ H R => ta σ H fun vs H1 => ∃ a b xs ys, vs = [.ref a, .ref b] ∧ SqT K H1 a xs ∧ SqL K H1 b ys ∧ R (ItzM K a b) H1
theorem pi_zipM {X : Cx} {e e2 : Expr} {ta : TA} {p pos tpos : Pos} {elts : List Expr} {kk : Nat} (hg : Gl X "zip") (hm : X.mg "zip" = none) (ha : PA X [e, e2] ta)
    (hs : starEach [e, e2] X.env = (false, eval e X.env) :: starEach [e2] X.env := by rfl) (hpl : (backTo pos (starEach [e2] X.env)).any (·.1) = false := by rfl) : PI X (.Tuple elts kk tpos) (.Call (.Name "zip" p) [e, e2] [] pos) (iZipM X.K ta) := by
  refine ⟨fun pins s σ H R I h => ?_⟩
  refine PyProof.Rows.Call_ (ld_blt I hg hm PyProof.Rows.boot_zip (PyProof.Rows.callWith_type1 (thn (ha.run pos pins s σ H _ I h) fun us s1 ⟨vs, H1, I1, r1, a, b, xs, ys, ex, qx, qy, q⟩ => ?_) hs hpl))
  subst ex
  obtain ⟨u1, u2, rfl, ra, rb⟩ := vals2 r1
  cases ra
  cases rb
  obtain ⟨its, rv, p1, _⟩ := I1.tuple qx
  obtain ⟨its2, rv2, p2, _⟩ := I1.list qy
  have la : a < s1.heap.objs.size := by
    obtain ⟨o1, ho1, _⟩ := id p1
    exact Heap.lt_size ho1
  refine zip_begins2 (begins_tuple a its.toArray) (begins_list b its2.toArray) p1 p2.isList fun h' hz hTI hTO h1 h2 hsz hk => wpAny_pyIter_zip hz ?_
  have I2 : Inv X pins σ H1 { s1 with heap := h' } := I1.kept (t' := s1.toks) hk
  refine ⟨s1.heap.objs.size + 4, [s1.heap.objs.size + 4, s1.heap.objs.size + 2, s1.heap.objs.size + 3, s1.heap.objs.size, s1.heap.objs.size + 1], _, _, H1, rfl, I2, turn_zipM la p2.lt, ⟨hz, hTI, ⟨_, _, hTO⟩, ?_, ?_⟩, fun c hc => ?_, q⟩
  · exact ⟨_, h1, rfl, rfl⟩
  · exact ⟨_, h2, rfl, rfl⟩
  · have hle : s1.heap.objs.size ≤ c := by
      simp only [List.mem_cons, List.not_mem_nil, or_false] at hc
      rcases hc with z | z | z | z | z <;> rw [z] <;> first | exact Nat.le_refl _ | exact Nat.le_add_right _ _
    exact I1.fpOk hle (I1.hok.fresh hle)
theorem x_iZipM {K : PySem.W.Frag} {σ : L2.St} {H : Hp} {R : It → Hp → Prop} {ta : TA} (k : ta σ H fun vs H1 => ∃ a b xs ys, vs = [.ref a, .ref b] ∧ SqT K H1 a xs ∧ SqL K H1 b ys ∧ R (ItzM K a b) H1) : iZipM K ta σ H R := k
theorem turns_zipM {K : PySem.W.Frag} {σ : L2.St} {H : Hp} {n : L2.St → Hp → Prop} {r : VK} {a b : Addr} {xs ys : List V} {g : TG} {tb : TS} (hl : xs.length = ys.length) (Pv : Nat → L2.St → Hp → Prop) (h0 : Pv 0 σ H) (hq : ∀ i σ H, i ≤ xs.length → Pv i σ H → SqT K H a xs ∧ SqL K H b ys)
    (hs : ∀ i x y T σ H, xs[i]? = some x → ys[i]? = some y → Pv i σ H → H T = none → g (.ref T) σ (upd H T (.tup [x, y])) fun σ2 H2 => tb ⟨Pv (i + 1), r, n, Pv (i + 1)⟩ σ2 H2) (hd : ∀ σ H, Pv xs.length σ H → n σ H) : Turns (ItzM K a b) g tb n r σ H := by
  refine ⟨fun i m σ H => m = xs.length - i ∧ i ≤ xs.length ∧ Pv i σ H, ⟨_, rfl, Nat.zero_le _, h0⟩, ?_⟩
  rintro i m σ H ⟨rfl, hi, p⟩
  obtain ⟨q1, q2⟩ := hq i σ H hi p
  by_cases e : i = xs.length
  · subst e
    exact .inl ⟨⟨xs, ys, q1, q2, by omega⟩, hd σ H p⟩
  · have lt : i < xs.length := by omega
    refine .inr ⟨⟨xs, ys, xs[i], ys[i]'(by omega), q1, q2, List.getElem?_eq_getElem lt, List.getElem?_eq_getElem (by omega)⟩, Pv (i + 1), fun σ' H' z => ⟨_, by omega, rfl, lt, z⟩, ?_⟩
    rintro v H' ⟨T, x, y, rfl, hT, rfl, k1, k2⟩
    exact hs i x y T σ H (k1 xs q1) (k2 ys q2) p hT
end L3
namespace L3
open PySem L2 Evl TL
section
variable {σ : L2.St} {H : Hp} {Q : VK} {K : PySem.W.Frag} {j : Nat} {te : TE} {tt : TT} {vs : List Nat}
theorem comp_str {z : Str} (Rr : Nat → List V → Prop) (hz : z.cps.size < 100000) (hw : ∀ x, wipe ((wipe σ vs).set j (some x)) vs = wipe σ vs) (h0 : Rr 0 [])
    (hs : ∀ i c acc H', z.cps[i]? = some c → Rr i acc → Ex H H' → CTurn tt te ((wipe σ vs).set j (some (.str ⟨#[c]⟩))) H' (Rr (i + 1)) acc)
    (k : ∀ D acc H', H D = none → Ex H H' → H' D = some (.lst acc) → Rr z.cps.size acc → Q (.ref D) H') : Comp (Its z) (gName j) tt te vs Q σ H := fun D hD => by
  refine lc_it (walk_str (z := z)) (fun i H' => ∃ acc, Rr i acc ∧ acc.length ≤ i ∧ Ex H H' ∧ H' D = some (.lst acc)) ⟨[], h0, Nat.le_refl _, Ex.new hD, upd_same⟩ (fun i H' _ _ => trivial) ?_ ?_
  · rintro i v H' _ hi ⟨acc, r, l, e, hd⟩ ⟨rfl, c, hc, rfl⟩
    refine ⟨hw _, hs i c acc _ hc r e _ _ (fun y H4 e4 r4 => ?_) (fun H3 e3 r3 => ?_)⟩
    · refine ⟨acc, e4 _ _ hd, Nat.lt_of_le_of_lt l (Nat.lt_of_lt_of_le hi (Nat.le_trans (Nat.le_of_lt hz) (by decide))), acc ++ [y], r4, by simp; omega, fun a o h => ?_, upd_same⟩
      rw [upd_ne (ne_of_none h hD)]
      exact e4 _ _ (e _ _ h)
    · exact ⟨acc, r3, Nat.le_succ_of_le l, e.trans e3, e3 _ _ hd⟩
  · rintro H' ⟨acc, r, l, e, hd⟩
    exact k D acc H' hD e hd r
theorem x_iStr {R : It → Hp → Prop} (k : te σ H fun v H1 => ∃ x, v = .str x ∧ R (Its x) H1) : iStr te σ H R := k
end
end L3
namespace L3
open PySem L2 Evl TL
theorem x_chain {σ : L2.St} {H : Hp} {Q : VK} {r r' : R2} {ta tb tc : TE} (k : ta σ H fun x H1 => tb σ H1 fun y H2 => r x y H2 fun z H3 => ∃ k, z = .bl k ∧ (if k = true then tc σ H3 fun w' H4 => r' y w' H4 Q else Q (.bl false) H3)) : tChain r r' ta tb tc σ H Q := k
/-! numbers below a hundred, as texts -/
def numChk (w : Str) : Bool := decide (1 ≤ w.length) && decide (w.length ≤ 2) && w.cps.all (fun c => decide (48 ≤ c) && decide (c ≤ 57)) && (decide (w = "0") || (match w.cps.toList with
  | c :: _ => decide (c ≠ 48)
  | [] => false))
theorem numChk_all : ∀ n : Fin 100, numChk (numS ((n.val : Nat) : Int)) = true := by decide +kernel
theorem numChk_of {n : Int} (h0 : 0 ≤ n) (h1 : n < 100) : numChk (numS n) = true := by
  obtain ⟨m, rfl⟩ := Int.eq_ofNat_of_zero_le h0
  exact numChk_all ⟨m, by omega⟩
theorem digit_in {c : Nat} (h : 48 ≤ c ∧ c ≤ 57) : decide (c ∈ (Str.ofString "0123456789").cps.toList) = true := by
  have : c = 48 ∨ c = 49 ∨ c = 50 ∨ c = 51 ∨ c = 52 ∨ c = 53 ∨ c = 54 ∨ c = 55 ∨ c = 56 ∨ c = 57 := by omega
  rcases this with rfl | rfl | rfl | rfl | rfl | rfl | rfl | rfl | rfl | rfl <;> decide +kernel
end L3
namespace L3
open PySem L2 Evl TL
theorem x_m1 {σ : L2.St} {H : Hp} {Q : VK} {r : V → List V → Hp → VK → Prop} {to te : TE} (k : to σ H fun x H1 => (∃ a, x = .str a) ∧ te σ H1 fun y H2 => r x [y] H2 Q) : tM1 r to te σ H Q := k
theorem x_m0 {σ : L2.St} {H : Hp} {Q : VK} {r : V → List V → Hp → VK → Prop} {to : TE} (k : to σ H fun x H1 => (∃ a, x = .str a) ∧ r x [] H1 Q) : tM0 r to σ H Q := k
end L3
namespace L3
open PySem L2 Evl TL
theorem x_gsub {σ : L2.St} {H : Hp} {v : V} {to ti : TE} {t : TSet} {QG : L2.St → Hp → Prop} (k : to σ H fun o H1 => ti σ H1 fun i H2 => t o i v H2 fun H3 => QG σ H3) : gSub to ti t v σ H QG := k
theorem upd_id {H : Hp} {a : Addr} {o : HO} (h : H a = some o) : upd H a o = H := by
  funext b
  by_cases e : b = a
  · rw [e, upd_same, h]
  · rw [upd_ne e]
theorem set_id {α : Type} {xs : List α} {k : Nat} {y : α} (h : xs[k]? = some y) : xs.set k y = xs := by
  apply List.ext_getElem?
  intro i
  rw [List.getElem?_set]
  split
  · rename_i e
    subst e
    obtain ⟨hl, _⟩ := List.getElem?_eq_some_iff.mp h
    rw [if_pos hl, h]
  · rfl
theorem ixN_of {n k : Nat} (h : k < n) : ixN n (k : Int) = some k := by
  unfold ixN
  rw [if_pos (Int.natCast_nonneg k), if_pos (by exact_mod_cast h)]
  simp
def rInKD (K : PySem.W.Frag) (d : Addr) (neg : Bool) : R2 := fun x y H Q => ∃ (z : Str) (r : Option Value), x = .str z ∧ y = .ref d ∧ PySem.W.nsIn K d z = some r ∧ Q (.bl (if neg then !r.isSome else r.isSome)) H
theorem op_notIn_kd' {X : Cx} {d : Addr} {es : Array DictEntry} {n : Nat} (D : KDict X.K X.w d es n) : OpR X (compareOp .NotIn) (rInKD X.K d true) := op_notIn_kd D
end L3

namespace L3
open PySem PySem.Spec PyProof.Rows L2 Evl TL
/-! ranges as values; lists of ranges -/
def rRg2 : List V → Hp → VK → Prop := fun vs H Q => ∃ i j, vs = [V.int i, V.int j] ∧ ∀ p, H p = none → Q (.ref p) (upd H p (.rng i j))
theorem call_rg2 {X : Cx} : CallR X (.type "range") rRg2 := cr_range2
def rOutR : R2 := fun x y H Q => ∃ i a lo hi, x = V.int i ∧ y = V.ref a ∧ H a = some (.rng lo hi) ∧ Q (.bl (!decide (lo ≤ i ∧ i < hi))) H
theorem op_outR {X : Cx} : OpR X (compareOp .NotIn) rOutR := by
  intro pins s σ H x y v u Q I rx ry h
  obtain ⟨i, a, lo, hi, rfl, rfl, ha, q⟩ := h
  obtain ⟨k, rfl⟩ := rx
  cases (show u = Value.ref a from ry)
  obtain ⟨t1, t2, t3, ho⟩ := I.hok a _ ha
  show wpAny _ _ (do return Value.bool (!(← contains (Value.ref a) (Value.int i k)))) _ _ s
  refine wpAny_bind ?_
  refine wpAny_contains_slot (T := "range") ⟨_, ho, rfl⟩ F.slot_range_contains ?_
  refine call_meets F.slot_range_contains ⟨_, ho, rfl⟩ F.entry_range_contains (F.args_range_contains_2 _ _) (q_contains a lo hi i t1 t2 t3 k) ?_
  refine ⟨ho, ?_⟩
  refine wpAny_truthy_bool ?_
  refine wpAny_pure ⟨.bl _, H, I, rfl, ?_⟩
  rw [place1]
  exact q
theorem x_outR {H : Hp} {Q : VK} {i : Int} {a : Addr} {lo hi : Int} (h : H a = some (.rng lo hi)) (k : Q (.bl (!decide (lo ≤ i ∧ i < hi))) H) : rOutR (.int i) (.ref a) H Q := ⟨i, a, lo, hi, rfl, rfl, h, k⟩
theorem x_rg2 {H : Hp} {Q : VK} {i j : Int} (k : ∀ p, H p = none → Q (.ref p) (upd H p (.rng i j))) : rRg2 [.int i, .int j] H Q := ⟨i, j, rfl, k⟩
theorem x_listRg {σ : L2.St} {H : Hp} {Q : VK} {te : L2.St → Hp → (Int → Int → Hp → Prop) → Prop} (k : te σ H fun a b H1 => RgOk a b ∧ ∀ q, H1 q = none → Q (.ref q) (upd H1 q (.lst (rgV a b)))) : tLstRg te σ H Q := k
theorem x_rg1 {σ : L2.St} {H : Hp} {Q : Int → Int → Hp → Prop} {ta : TE} (k : ta σ H fun x H1 => ∃ n, x = .int n ∧ Q 0 n H1) : tRg1 ta σ H Q := k
theorem x_catL {H : Hp} {Q : VK} {l b : Addr} {xs zs : List V} (h1 : H l = some (.lst xs)) (h2 : H b = some (.lst zs)) (hz : xs.length + zs.length ≤ sizeLine) (k : ∀ p, H p = none → Q (.ref p) (upd H p (.lst (xs ++ zs)))) : rCat (.ref l) (.ref b) H Q := ⟨l, b, xs, zs, rfl, rfl, h1, h2, hz, k⟩
end L3

namespace L3
open PySem PySem.Spec PyProof.Rows L2 Evl TL
/-! repr of plain values; max of a list; filters -/
def reprV : V → Str
  | .int i => toString i
  | .bl b => if b then "True" else "False"
  | _ => "None"
def rReprV : List V → Hp → VK → Prop := fun xs H Q => ∃ v, xs = [v] ∧ ((∃ i, v = .int i ∧ i.natAbs.log2 < 1920) ∨ (∃ b, v = .bl b) ∨ v = .non) ∧ Q (.str (reprV v)) H
theorem call_reprV {X : Cx} : CallR X (.builtin "repr") rReprV := by
  intro pins s σ H xs us Q I r h
  obtain ⟨v, rfl, hv, q⟩ := h
  obtain ⟨u, rfl, ru⟩ := vals1 r
  rcases hv with ⟨i, rfl, hz⟩ | ⟨b, rfl⟩ | rfl
  · obtain ⟨t, rfl⟩ := ru
    exact PySem.P.repr_of_int hz ⟨.str (toString i), H, I.tok _, ⟨_, rfl⟩, q⟩
  · cases (show u = Value.bool b from ru)
    refine PySem.P.repr_of_bool ⟨.str _, H, I.tok _, ⟨_, rfl⟩, ?_⟩
    exact q
  · cases (show u = Value.none from ru)
    refine PySem.P.repr_of_none ⟨.str _, H, I.tok _, ⟨_, rfl⟩, ?_⟩
    exact q
theorem call_maxV {X : Cx} (hc : X.calm = true) : CallR X (.builtin "max") (rMax X.K) := cr_max hc
section
variable {σ : L2.St} {H : Hp} {Q : VK} {K : PySem.W.Frag} {j : Nat} {te : TE} {tt : TT} {vs : List Nat}
/-- a comprehension that keeps the turns of which p holds -/
theorem comp_rangeP {lo : Int} {m : Nat} (p : Nat → Bool) (f : Nat → Int) (hz : m < 100000) (hw : ∀ x, wipe ((wipe σ vs).set j (some x)) vs = wipe σ vs)
    (hs : ∀ (i : Nat) H', i < m → Ex H H' → ∀ KT : Bool → Hp → Prop, (∀ H3, Ex H' H3 → KT (p i) H3) → tt ((wipe σ vs).set j (some (.int (lo + i)))) H' KT)
    (he : ∀ (i : Nat) H', i < m → p i = true → Ex H H' → ∀ KY : VK, KY (.int (f i)) H' → te ((wipe σ vs).set j (some (.int (lo + i)))) H' KY)
    (k : ∀ D H', H D = none → Ex H H' → H' D = some (.lst ((((List.range m).filter p).map f).map V.int)) → Q (.ref D) H') : Comp (Itr lo m) (gName j) tt te vs Q σ H := by
  refine comp_range (fun i acc => acc = (((List.range i).filter p).map f).map V.int) hz hw rfl (fun i acc H' hi ha e KY KN ky kn => ?_) (fun D acc H' hD e hl ha => k D H' hD e (by rw [hl, ha]))
  refine hs i H' hi e _ fun H3 e3 => ?_
  cases hp : p i with
  | true =>
    rw [if_pos rfl]
    exact he i H3 hi hp (e.trans e3) KY (ky _ _ e3 (by rw [ha, List.range_succ]; simp [List.filter_append, hp]))
  | false =>
    rw [if_neg (by decide)]
    exact kn H3 e3 (by rw [ha, List.range_succ]; simp [List.filter_append, hp])
theorem comp_listF {a : Addr} {ns : List Int} (f : Int → Int) (hx : SqL K H a (ns.map V.int)) (hz : ns.length < 100000) (hw : ∀ x, wipe ((wipe σ vs).set j (some x)) vs = wipe σ vs)
    (hs : ∀ (n : Int) H', n ∈ ns → Ex H H' → ∀ KY : VK, KY (.int (f n)) H' → te ((wipe σ vs).set j (some (.int n))) H' KY)
    (k : ∀ D H', H D = none → Ex H H' → H' D = some (.lst ((ns.map f).map V.int)) → Q (.ref D) H') : Comp (Itl K a) (gName j) tYes te vs Q σ H := by
  refine comp_list (fun i acc => acc = ((ns.take i).map f).map V.int) hx (by simpa using hz) hw rfl (fun i x acc H' hi ha e KY KN ky kn => ?_) (fun D acc H' hD e hl ha => k D H' hD e (by rw [hl, ha]; simp))
  rw [List.getElem?_map] at hi
  cases q : ns[i]? with
  | none => rw [q] at hi; cases hi
  | some n =>
    rw [q] at hi
    cases hi
    refine x_yes ?_
    rw [if_pos rfl]
    exact hs n H' (List.mem_of_getElem? q) e KY (ky _ _ (Ex.refl _) (by rw [ha, List.take_add_one, q]; simp))
theorem x_appendL {K : PySem.W.Frag} {p : Addr} {xs : List V} {y : V} (h : H p = some (.lst xs)) (hz : xs.length < sizeLine) (k : Q .non (upd H p (.lst (xs ++ [y])))) : rAppend (.ref p) [y] H Q := ⟨p, xs, y, rfl, rfl, h, hz, k⟩
end
/-- the last turn of which p holds -/
def lastP (p : Nat → Bool) : Nat → Option Nat
  | 0 => none
  | m + 1 => if p m = true then some m else lastP p m
theorem lastP_none {p : Nat → Bool} : ∀ {m : Nat}, lastP p m = none → (List.range m).filter p = []
  | 0, _ => rfl
  | m + 1, h => by
    unfold lastP at h
    split at h
    · cases h
    · rename_i hp
      rw [List.range_succ, List.filter_append, lastP_none h]
      simp [hp]
theorem lastP_some {p : Nat → Bool} {x : Nat} : ∀ {m : Nat}, lastP p m = some x → x < m ∧ p x = true ∧ ∀ y, y < m → p y = true → y ≤ x
  | 0, h => by cases h
  | m + 1, h => by
    unfold lastP at h
    split at h
    · rename_i hp
      cases h
      exact ⟨Nat.lt_succ_self _, hp, fun y hy _ => by omega⟩
    · rename_i hp
      obtain ⟨h1, h2, h3⟩ := lastP_some h
      refine ⟨by omega, h2, fun y hy hp2 => ?_⟩
      by_cases e : y = m
      · rw [e] at hp2; exact absurd hp2 hp
      · exact h3 y (by omega) hp2
def lastV (p : Nat → Bool) (m : Nat) : V := match lastP p m with
  | none => .non
  | some i => .int i
end L3

namespace L3
open PySem L2 Evl TL
def top (i : Nat) : Stmt := PySem.Challenge.pw_sitout_k60_shares_that_leave_enough.main.body.getD i (.Pass ⟨0, 0, 0, 0⟩)
abbrev s__law_take : Stmt := top 27
theorem sc__law_take : FnScope ["_law_box", "_law_wide", "_law_great", "_law_cell"] ["_law_box", "_law_wide"] (defScope s__law_take) := ⟨rfl, rfl, rfl, by decide +kernel, rfl, by decide +kernel, by decide +kernel⟩
abbrev s__law_feed : Stmt := top 26
theorem sc__law_feed : FnScope ["_law_script", "_law_first", "_law_cell", "_law_cells", "_law_blend"] ["_law_script", "_law_first"] (defScope s__law_feed) := ⟨rfl, rfl, rfl, by decide +kernel, rfl, by decide +kernel, by decide +kernel⟩
abbrev s__law_pick : Stmt := top 28
theorem sc__law_pick : FnScope ["_law_box", "_law_some"] ["_law_box", "_law_some"] (defScope s__law_pick) := ⟨rfl, rfl, rfl, by decide +kernel, rfl, by decide +kernel, by decide +kernel⟩
abbrev s_is_integer : Stmt := top 7
theorem sc_is_integer : FnScope ["value"] ["value"] (defScope s_is_integer) := ⟨rfl, rfl, rfl, by decide +kernel, rfl, by decide +kernel, by decide +kernel⟩
abbrev s_is_number : Stmt := top 8
theorem sc_is_number : FnScope ["value"] ["value"] (defScope s_is_number) := ⟨rfl, rfl, rfl, by decide +kernel, rfl, by decide +kernel, by decide +kernel⟩
abbrev s_is_from : Stmt := top 9
theorem sc_is_from : FnScope ["value", "least"] ["value", "least"] (defScope s_is_from) := ⟨rfl, rfl, rfl, by decide +kernel, rfl, by decide +kernel, by decide +kernel⟩
abbrev s_is_word : Stmt := top 10
theorem sc_is_word : FnScope ["value", "some"] ["value", "some"] (defScope s_is_word) := ⟨rfl, rfl, rfl, by decide +kernel, rfl, by decide +kernel, by decide +kernel⟩
abbrev s_wrong_number : Stmt := top 16
theorem sc_wrong_number : FnScope ["need", "of", "base", "more", "most", "calm"] ["need", "of", "base", "more", "most", "calm"] (defScope s_wrong_number) := ⟨rfl, rfl, rfl, by decide +kernel, rfl, by decide +kernel, by decide +kernel⟩
abbrev s_wrong_word : Stmt := top 17
theorem sc_wrong_word : FnScope ["back", "top", "under", "up", "hears"] ["back", "top", "under", "up", "hears"] (defScope s_wrong_word) := ⟨rfl, rfl, rfl, by decide +kernel, rfl, by decide +kernel, by decide +kernel⟩
abbrev s_Rule___init__ : Stmt := inClass (top 20) 0
theorem sc_Rule___init__ : FnScope ["self", "need", "of", "base", "more", "most", "calm", "back", "top", "under", "up", "hears", "word"] ["self", "need", "of", "base", "more", "most", "calm", "back", "top", "under", "up", "hears"] (defScope s_Rule___init__) := ⟨rfl, rfl, rfl, by decide +kernel, rfl, by decide +kernel, by decide +kernel⟩
abbrev s_Rule_limit : Stmt := inClass (top 20) 3
theorem sc_Rule_limit : FnScope ["self", "n"] ["self", "n"] (defScope s_Rule_limit) := ⟨rfl, rfl, rfl, by decide +kernel, rfl, by decide +kernel, by decide +kernel⟩
abbrev s__law_left : Stmt := top 29
theorem sc__law_left : FnScope ["_law_number", "_law_top", "_law_under", "_law_up", "_law_whole", "_law_rest"] ["_law_number", "_law_top", "_law_under", "_law_up"] (defScope s__law_left) := ⟨rfl, rfl, rfl, by decide +kernel, rfl, by decide +kernel, by decide +kernel⟩
abbrev s_spared : Stmt := top 23
theorem sc_spared : FnScope ["top", "under", "up", "number", "kept"] ["top", "under", "up", "number"] (defScope s_spared) := ⟨rfl, rfl, rfl, by decide +kernel, rfl, by decide +kernel, by decide +kernel⟩
abbrev s_safe_top : Stmt := top 24
theorem sc_safe_top : FnScope ["under", "up", "spare", "start", "some", "top"] ["under", "up", "spare", "start"] (defScope s_safe_top) := ⟨rfl, rfl, rfl, by decide +kernel, rfl, by decide +kernel, by decide +kernel⟩
abbrev s_law : Stmt := top 30
theorem sc_law : FnScope ["_law_script", "_law_base", "_law_box", "_law_turn", "_law_under", "_law_up", "_law_start", "_law_spare", "_law_due", "_law_top", "_law_n", "_law_rule"] ["_law_script"] (defScope s_law) := ⟨rfl, rfl, rfl, by decide +kernel, rfl, by decide +kernel, by decide +kernel⟩
structure Tx (w : World) (K : PySem.W.Frag) (mg : Str → Option Value) : Prop where
  b_len : mg "len" = none
  b_int : mg "int" = none
  b_abs : mg "abs" = none
  d__law_take : Df K mg "_law_take" s__law_take
  d__law_feed : Df K mg "_law_feed" s__law_feed
  d__law_pick : Df K mg "_law_pick" s__law_pick
  b_isinstance : mg "isinstance" = none
  b_bool : mg "bool" = none
  b_str : mg "str" = none
  d_is_integer : Df K mg "is_integer" s_is_integer
  d_is_number : Df K mg "is_number" s_is_number
  d_is_from : Df K mg "is_from" s_is_from
  d_is_word : Df K mg "is_word" s_is_word
  n_Rule_need : NoAttr K (He.ga K "Rule") "need"
  n_Rule_of : NoAttr K (He.ga K "Rule") "of"
  n_Rule_base : NoAttr K (He.ga K "Rule") "base"
  n_Rule_more : NoAttr K (He.ga K "Rule") "more"
  n_Rule_most : NoAttr K (He.ga K "Rule") "most"
  n_Rule_calm : NoAttr K (He.ga K "Rule") "calm"
  n_Rule_back : NoAttr K (He.ga K "Rule") "back"
  n_Rule_top : NoAttr K (He.ga K "Rule") "top"
  n_Rule_under : NoAttr K (He.ga K "Rule") "under"
  n_Rule_up : NoAttr K (He.ga K "Rule") "up"
  n_Rule_hears : NoAttr K (He.ga K "Rule") "hears"
  n_Rule_cap : NoAttr K (He.ga K "Rule") "cap"
  c_Rule : Cls K (He.ga K "Rule")
  g_BACKS : mg "BACKS" = some (.ref (He.ga K "BACKS"))
  t_BACKS : ∀ H, SqT K H (He.ga K "BACKS") [.str "half", .str "open", .str "trial"]
  g_HEARD : mg "HEARD" = some (.ref (He.ga K "HEARD"))
  t_HEARD : ∀ H, SqT K H (He.ga K "HEARD") [.str "fault", .str "no", .str "out"]
  d_wrong_number : Df K mg "wrong_number" s_wrong_number
  d_wrong_word : Df K mg "wrong_word" s_wrong_word
  k_Rule : Ki K mg "Rule" (He.ga K "Rule") "Rule.__init__" s_Rule___init__
  d_Rule_limit : Md K (He.ga K "Rule") "limit" "Rule.limit" s_Rule_limit
  b_range : mg "range" = none
  b_max : mg "max" = none
  b_min : mg "min" = none
  b_repr : mg "repr" = none
  d__law_left : Df K mg "_law_left" s__law_left
  d_spared : Df K mg "spared" s_spared
  d_safe_top : Df K mg "safe_top" s_safe_top
  d_law : Df K mg "law" s_law
local macro_rules | `(tactic| walk_at "x0") => `(tactic| first
  | ((with_reducible refine' x_var ?k1 ?_); (case k1 => exact rfl))
  | with_reducible apply x_c
  | with_reducible apply x_op
  | with_reducible apply x_I0
  | with_reducible apply x_asg
  | with_reducible apply x_asgG
  | with_reducible apply x_gcons
  | with_reducible apply x_gnil
  | with_reducible apply x_cb
  | with_reducible apply x_cons
  | with_reducible apply x_nil
  | with_reducible apply x_int1
  | with_reducible apply x_test
  | with_reducible apply x_tb
  | with_reducible refine ⟨_, rfl, ?_⟩
  | with_reducible apply x_ifs
  | with_reducible apply x_if
  | with_reducible apply x_and
  | with_reducible apply x_or
  | with_reducible apply x_not
  | with_reducible apply x_ret
  | with_reducible apply x_retN
  | with_reducible apply x_next
  | with_reducible apply x_drop
  | with_reducible apply x_par
  | with_reducible apply x_un
  | with_reducible apply x_U
  | with_reducible apply x_dget
  | with_reducible apply x_dput
  | with_reducible apply x_bm0L
  | with_reducible apply x_bmL
  | ((with_reducible refine' x_eq ?k1 ?_); (case k1 => exact rfl))
  | ((with_reducible refine' x_ne ?k1 ?_); (case k1 => exact rfl))
  | with_reducible apply x_andV
  | with_reducible apply x_orV
  | with_reducible apply x_notV
  | with_reducible apply x_isN
  | with_reducible apply x_notN
  | with_reducible apply x_call
  | with_reducible apply x_meth
  | with_reducible apply x_make
  | with_reducible apply x_sfld
  | with_reducible apply x_abs
  | with_reducible apply x_min2
  | with_reducible apply x_max2
  | with_reducible apply x_tup
  | with_reducible apply x_lst
  | with_reducible apply x_fld
  | with_reducible apply x_for
  | with_reducible apply x_iList
  | with_reducible apply x_iTup
  | with_reducible apply x_iRng1
  | with_reducible apply x_iRng2
  | with_reducible apply x_gname
  | with_reducible apply x_lc
  | with_reducible apply x_yes
  | with_reducible apply x_slice
  | with_reducible apply x_part
  | with_reducible apply x_nopart
  | with_reducible apply x_revL
  | with_reducible apply x_pairs
  | with_reducible apply x_pairs0
  | with_reducible apply x_js
  | with_reducible apply x_js0
  | with_reducible apply x_fmtI
  | with_reducible apply x_chain
  | with_reducible apply x_gsub
  | with_reducible apply x_listRg
  | with_reducible apply x_rg1
  | with_reducible apply x_rg2
  | with_reducible apply x_int1b
  | with_reducible apply x_m1
  | with_reducible apply x_m0
  | with_reducible apply x_iStr
  | with_reducible apply x_iZipM
  | with_reducible apply x_cm
  | with_reducible apply x_star
  | with_reducible apply x_brk
  | with_reducible apply x_cont)
local macro_rules | `(tactic| walk_at "sq") => `(tactic| ((fail_if_success (with_reducible apply q_for)); (fail_if_success (with_reducible apply q_while)); (with_reducible apply x_seq)))
local macro_rules | `(tactic| walk_at "sy") => `(tactic| ((fail_if_success (with_reducible apply q_for)); (fail_if_success (with_reducible apply q_while)); (fail_if_success (with_reducible apply q_ifs)); (with_reducible apply x_seq)))
local macro_rules | `(tactic| walk_at "x1") => `(tactic| first | walk_at "x0" | walk_at "sq")
local macro_rules | `(tactic| walk_at "x") => `(tactic| repeat walk_at "x1")
local macro_rules | `(tactic| walk_at "y") => `(tactic| repeat (first | walk_at "x0" | walk_at "sy"))

section
variable {P : Program} {w : World} {K : PySem.W.Frag} {mg : Str → Option Value} {base : Heap}
theorem int_at {ns : List Int} {i : Nat} {x : V} (h : (ns.map V.int)[i]? = some x) : ∃ n, x = .int n ∧ n ∈ ns := by
  rw [List.getElem?_map] at h
  cases e : ns[i]? with
  | none => rw [e] at h; cases h
  | some n => rw [e] at h; exact ⟨n, (Option.some.inj h).symm, List.mem_of_getElem? e⟩
def boxD (l : Addr) (blend : Int) : List (Key × V) := [(.inr "great", .ref l), (.inr "blend", .int blend)]
theorem b_great {H : Hp} {d l : Addr} {b : Int} (h : H d = some (.dK (boxD l b))) : DGet H d (.str "great") (some (.ref l)) := DGet.k (k := Sum.inr "great") h
theorem b_blend {H : Hp} {d l : Addr} {b : Int} (h : H d = some (.dK (boxD l b))) : DGet H d (.str "blend") (some (.int b)) := DGet.k (k := Sum.inr "blend") h
theorem q_blend {H : Hp} {d l : Addr} {b i : Int} (h : H d = some (.dK (boxD l b))) : DPut H d (.str "blend") (.int i) (upd H d (.dK (boxD l i))) := DPut.k (k := Sum.inr "blend") h (by show 2 < sizeLine; decide)
/-- a box in the open: its dict, its list -/
structure BoxC (H : Hp) (d l : Addr) (blend : Int) (ns : List Int) : Prop where
  d : H d = some (.dK (boxD l blend))
  l : H l = some (.lst (ns.map V.int))
  z : ns.length ≤ 63
/-- all but these two still stand -/
def ButE (d l : Addr) (H H' : Hp) : Prop := ∀ a o, a ≠ d → a ≠ l → H a = some o → H' a = some o
def BoxS (l : Addr) : HO → Prop := fun u => ∃ blend : Int, u = .dK (boxD l blend)
def PileS : HO → Prop := fun u => ∃ ns : List Int, ns.length ≤ 63 ∧ u = .lst (ns.map V.int)
theorem BoxS.flat {l : Addr} : ∀ u, BoxS l u → Flat u := by
  rintro u ⟨_, rfl⟩
  exact trivial
theorem PileS.flat : ∀ u, PileS u → Flat u := by
  rintro u ⟨_, _, rfl⟩
  exact trivial
structure Box (P : Program) (w : World) (H : Hp) (d : Addr) : Prop where
  ex : ∃ l, H d = some (anyO P w (BoxS l) d) ∧ H l = some (anyO P w PileS l) ∧ d ≠ l
theorem Box.mono {P : Program} {w : World} {H H' : Hp} {d : Addr} (D : Box P w H d) (e : Ex H H') : Box P w H' d := by
  obtain ⟨l, h1, h2, h3⟩ := D.ex
  exact ⟨l, e _ _ h1, e _ _ h2, h3⟩
theorem BoxC.ne {H : Hp} {d l : Addr} {blend : Int} {ns : List Int} (C : BoxC H d l blend ns) : d ≠ l := ne_of C.d C.l (by intro z; cases z)
theorem BoxC.abs {P : Program} {w : World} {H : Hp} {d l : Addr} {blend : Int} {ns : List Int} (C : BoxC H d l blend ns) : Abs P w H (upd (upd H l (anyO P w PileS l)) d (anyO P w (BoxS l) d)) := fun a => by
  by_cases h1 : a = d
  · subst h1
    exact .inr ⟨_, BoxS l, C.d, BoxS.flat, ⟨blend, rfl⟩, upd_same⟩
  · by_cases h2 : a = l
    · subst h2
      exact .inr ⟨_, PileS, C.l, PileS.flat, ⟨ns, C.z, rfl⟩, by rw [upd_ne h1, upd_same]⟩
    · exact .inl (by rw [upd_ne h1, upd_ne h2])
theorem ButE.refl {d l : Addr} {H : Hp} : ButE d l H H := fun _ _ _ _ h => h
theorem ButE.ex {d l : Addr} {H H' H'' : Hp} (b : ButE d l H H') (e : Ex H' H'') : ButE d l H H'' := fun a o h1 h2 h => e a o (b a o h1 h2 h)
theorem ButE.l {d l : Addr} {H H' : Hp} {o : HO} (b : ButE d l H H') : ButE d l H (upd H' l o) := fun a u h1 h2 h => by rw [upd_ne h2]; exact b a u h1 h2 h
theorem ButE.d {d l : Addr} {H H' : Hp} {o : HO} (b : ButE d l H H') : ButE d l H (upd H' d o) := fun a u h1 h2 h => by rw [upd_ne h1]; exact b a u h1 h2 h
theorem BoxC.mono {H H' : Hp} {d l : Addr} {blend : Int} {ns : List Int} (C : BoxC H d l blend ns) (e : Ex H H') : BoxC H' d l blend ns := ⟨e _ _ C.d, e _ _ C.l, C.z⟩
theorem cutZ_ints (ns : List Int) (lo hi : Option Int) : ∃ ms : List Int, cutV (ns.map V.int) lo hi = ms.map V.int ∧ ms.length ≤ ns.length := by
  refine ⟨_, by unfold cutV; rw [← List.map_drop, ← List.map_take], ?_⟩
  rw [List.length_take, List.length_drop]
  omega
def sp_take0 : Sp := fun vs H Q _ => ∃ (d l : Addr) (blend wide : Int) (ns : List Int), vs = [.ref d, .int wide] ∧ BoxC H d l blend ns ∧ 0 < wide ∧ wide < 2 ^ 30 ∧
  ∀ (r blend' : Int) (ns' : List Int) (H' : Hp), 0 ≤ r → r < wide → BoxC H' d l blend' ns' → ButE d l H H' → Q (.int r) H'
theorem Tx.take0 (T : Tx w K mg) : Fn P w K mg base 1 "_law_take" ["_law_box", "_law_wide"] (sp_take0) := by
  refine fn_df T.d__law_take sc__law_take (fun vs H Q E h => ?_) (fun _ _ _ _ _ _ us hl => match us, hl with | [_, _], _ => rfl) (fun f cdv A outer s H vs Q E hr h => ?_)
  · obtain ⟨d, l, blend, wide, ns, rfl, _⟩ := h
    rfl
  · have hu := hu_of hr
    obtain ⟨d, l, blend, wide, ns, rfl, C, m0, m1, k⟩ := h
    refine ⟨_, (pss_cons (ps_set (i := 2) sc__law_take.nd rfl (Or.inl rfl) (pe_dget hu (pv 0) pe_str (fun _ _ => rfl)))
      (pss_cons (ps_while PassesOwn.never (PW.pt (pw_and (pt_cmpR (op_neD hr.units) (pv 2) (pe_lst pa_nil) (nomark _)) (pw_and1 (pt_cmpR op_eq (pe_ix ix_list (pv 2) (pe_un un_neg pe_int) (fun _ _ => rfl)) pe_int (nomark _))))) (pss_one (ps_expr (pe_bm0 PySem.F.plainAttrs_list PySem.F.slot_list_pop PySem.F.type_list_pop mt_pop (pv 2)))))
      (pss_cons (ps_if (pt_cmpR (op_neD hr.units) (pv 2) (pe_lst pa_nil) (nomark _)) (pss_cons (ps_set (i := 3) sc__law_take.nd rfl (Or.inl rfl) (pe_bm0 PySem.F.plainAttrs_list PySem.F.slot_list_pop PySem.F.type_list_pop mt_pop (pv 2)))
      (pss_cons (ps_expr (pe_bm PySem.F.plainAttrs_list PySem.F.slot_list_append PySem.F.type_list_append mt_append (pv 2) (pa_cons (pe_op op_fdiv (pv 3) (pv 1)) pa_nil)))
      (pss_one (ps_ret (pe_op op_mod (pe_callTy call_int1' (by rfl) T.b_int boot_int (pa_cons (pv 3) pa_nil)) (pv 1)))))) pss_nil)
      (pss_cons (ps_dput hu (pv 0) pe_str (pe_op op_mod (pe_callTy call_int1' (by rfl) T.b_int boot_int (pa_cons (pe_op op_add (pe_op op_mul (pe_dget hu (pv 0) pe_str (fun _ _ => rfl)) pe_int) pe_int) pa_nil)) pe_int) rfl)
      (pss_one (ps_ret (pe_op op_mod (pe_callTy call_int1' (by rfl) T.b_int boot_int (pa_cons (pe_op op_fdiv (pe_dget hu (pv 0) pe_str (fun _ _ => rfl)) pe_int) pa_nil)) (pv 1)))))))), ?_⟩
    walk_at "x"
    refine ⟨_, _, rfl, b_great C.d, ?_⟩
    walk_at "x"
    refine x_cut (fun σ' H' => σ' = [some (.ref d), some (.int wide), some (.ref l), none] ∧ ∃ ns, BoxC H' d l blend ns ∧ ButE d l H H') (fun nn hn => ?_) ?_
    · refine x_while (fun m σ' H' => σ' = [some (.ref d), some (.int wide), some (.ref l), none] ∧ ∃ ns, BoxC H' d l blend ns ∧ ButE d l H H' ∧ m = ns.length) ns.length ⟨rfl, ns, C, ButE.refl, rfl⟩ ?_
      rintro m σ' H1 ⟨rfl, ns1, C1, b1, rfl⟩
      walk_at "x"
      refine ⟨Nat.zero_le _, fun q hq => ?_⟩
      have eq : Ex H1 (upd H1 q (.lst [])) := Ex.new hq
      have C2 := C1.mono eq
      refine x_neInts (ns := ns1) (ms := []) C2.l upd_same ?_
      walk_at "x"
      refine ifc (fun h => ?_) (fun h => hn _ _ ⟨rfl, ns1, C2, b1.ex eq⟩)
      have hne : ns1 ≠ [] := by simpa using h
      obtain ⟨ms, y, rfl⟩ : ∃ ms y, ns1 = ms ++ [y] := by
        rcases List.eq_nil_or_concat ns1 with rfl | ⟨ms, y, rfl⟩
        · exact absurd rfl hne
        · exact ⟨ms, y, by simp⟩
      walk_at "x"
      refine ⟨_, _, _, _, rfl, rfl, SqL.of C2.l, (show atI ((ms ++ [y]).map V.int) (-1) = some (V.int y) by rw [List.map_append]; exact atI_last _ _), ?_⟩
      walk_at "x"
      refine ifc (fun h => ?_) (fun h => hn _ _ ⟨rfl, _, C2, b1.ex eq⟩)
      refine x_turn ?_
      walk_at "x"
      refine x_pop (y := .int y) C2.l (by simp) ?_
      have z := C1.z
      refine ⟨ms.length, by simp, rfl, ms, ⟨?_, ?_, by simp at z; omega⟩, (b1.ex eq).l, rfl⟩
      · rw [upd_ne C1.ne]; exact C2.d
      · rw [upd_same]; simp
    · rintro σ' H1 ⟨rfl, ns1, C1, b1⟩
      walk_at "x"
      refine ⟨Nat.zero_le _, fun q hq => ?_⟩
      have eq : Ex H1 (upd H1 q (.lst [])) := Ex.new hq
      have C2 := C1.mono eq
      have b2 := b1.ex eq
      refine x_neInts (ns := ns1) (ms := []) C2.l upd_same ?_
      generalize upd H1 q (.lst []) = H2 at eq C2 b2
      walk_at "x"
      refine ifc (fun h => ?_) (fun h => ?_)
      · have hne : ns1 ≠ [] := by simpa using h
        obtain ⟨ms, y, rfl⟩ : ∃ ms y, ns1 = ms ++ [y] := by
          rcases List.eq_nil_or_concat ns1 with rfl | ⟨ms, y, rfl⟩
          · exact absurd rfl hne
          · exact ⟨ms, y, by simp⟩
        walk_at "x"
        refine x_pop (y := .int y) C2.l (by simp) ?_
        walk_at "x"
        have z := C2.z
        have L1 : upd H2 l (.lst ((ms ++ [y]).map V.int).dropLast) l = some (.lst (ms.map V.int)) := by rw [upd_same]; simp
        refine ⟨tyL L1, ?_⟩
        walk_at "x"
        refine x_I ⟨m0, m1⟩ ?_
        walk_at "x"
        refine x_appendL (K := K) L1 (by have hz : sizeLine = 16777216 := rfl; rw [hz]; simp at z ⊢; omega) ?_
        walk_at "x"
        refine x_I m0 ?_
        refine k _ blend (ms ++ [y / wide]) _ (Int.emod_nonneg _ (by omega)) (Int.emod_lt_of_pos _ m0) ⟨?_, ?_, by simpa using z⟩ b2.l.l
        · rw [upd_ne C2.ne, upd_ne C2.ne]; exact C2.d
        · rw [upd_same]; simp
      · walk_at "x"
        refine ⟨_, _, rfl, b_blend C2.d, ?_⟩
        walk_at "x"
        refine x_I (.inr (by decide)) ?_
        walk_at "x"
        refine x_I (by decide) ?_
        walk_at "x"
        refine ⟨_, _, rfl, q_blend C2.d, ?_⟩
        walk_at "x"
        refine ⟨_, _, rfl, b_blend upd_same, ?_⟩
        walk_at "x"
        refine x_I ⟨by decide, by decide⟩ ?_
        walk_at "x"
        refine x_I m0 ?_
        exact k _ _ ns1 _ (Int.emod_nonneg _ (by omega)) (Int.emod_lt_of_pos _ m0) ⟨upd_same, (upd_ne C2.ne.symm).trans C2.l, C2.z⟩ b2.d

def sp_take (P : Program) (w : World) : Sp := fun vs H Q _ => ∃ (d : Addr) (wide : Int), vs = [.ref d, .int wide] ∧ Box P w H d ∧ 0 < wide ∧ wide < 2 ^ 30 ∧ ∀ (r : Int) (H' : Hp), 0 ≤ r → r < wide → Ex H H' → Q (.int r) H'
theorem Tx.F__law_take (T : Tx w K mg) : Fn P w K mg base 1 "_law_take" ["_law_box", "_law_wide"] (sp_take P w) := by
  refine (Tx.take0 (P := P) (w := w) (base := base) T).post.pre.pre.imp ?_
  rintro vs H Q E ⟨d, wide, rfl, D, m0, m1, k⟩
  obtain ⟨l, hd, hl, ndl⟩ := D.ex
  refine ⟨rfl, l, PileS, hl, PileS.flat, ?_⟩
  rintro _ ⟨ns, hz, rfl⟩
  refine ⟨rfl, d, BoxS l, by rw [upd_ne ndl]; exact hd, BoxS.flat, ?_⟩
  rintro _ ⟨blend, rfl⟩
  refine ⟨d, l, blend, wide, ns, rfl, ⟨upd_same, by rw [upd_ne ndl.symm, upd_same], hz⟩, m0, m1, fun r blend' ns' H' r0 r1 C b => ⟨_, C.abs, ?_⟩⟩
  refine k r _ r0 r1 fun a o ha => ?_
  by_cases h1 : a = d
  · rw [h1] at ha ⊢; rw [upd_same, ← hd, ha]
  · by_cases h2 : a = l
    · rw [h2] at ha ⊢; rw [upd_ne ndl.symm, upd_same, ← hl, ha]
    · rw [upd_ne h1, upd_ne h2]
      refine b a o h1 h2 ?_
      rw [upd_ne h1, upd_ne h2]
      exact ha
def sp_feed0 (K : PySem.W.Frag) : Sp := fun vs H Q _ => ∃ (a : Addr) (ns : List Int) (b : Int), vs = [.ref a, .int b] ∧ SqL K H a (ns.map V.int) ∧ ns.length ≤ 63 ∧ 0 ≤ b ∧ b < 1000 ∧
  ∀ (d l : Addr) (H' : Hp) (blend : Int) (ms : List Int), H d = none → H l = none → Ex H H' → BoxC H' d l blend ms → Q (.ref d) H' 
theorem Tx.feed0 (T : Tx w K mg) : Fn P w K mg base 1 "_law_feed" ["_law_script", "_law_first"] (sp_feed0 K) := by
  refine fn_df T.d__law_feed sc__law_feed (fun vs H Q E h => ?_) (fun _ _ _ _ _ _ us hl => match us, hl with | [_, _], _ => rfl) (fun f cdv A outer s H vs Q E hr h => ?_)
  · obtain ⟨a, ns, b, rfl, _⟩ := h
    rfl
  · have hu := hu_of hr
    obtain ⟨a, ns, b, rfl, hS, hlen, b0, b1, k⟩ := h
    refine ⟨_, (pss_cons (ps_setLc (i := 3) (own := [("_law_cell", 2)]) (g := gName 2) (tt := tYes) (by rfl) sc__law_feed.nd rfl rfl (sw_true rfl rfl rfl (by decide +kernel)) (pi_list (pe_slice sl_list (pv 0) (po_some (pv 1)) (po_some (pe_op op_add (pv 1) pe_int)))) (blkOk_by (own := [("_law_cell", 2)]) (N := ["_law_script", "_law_first", "_law_cell", "_law_cells", "_law_blend"]) (sc := defScope s__law_feed) (by decide +kernel)) (fun _ _ _ _ _ => pg_name (i := 2) sc__law_feed.nd rfl (Or.inl rfl)) (fun _ _ _ _ _ => pts_nil) (fun _ _ _ _ _ => (pe_callB call_abs' (by rfl) T.b_abs (by decide +kernel) (pa_cons (pe_callTy call_int1' (by rfl) T.b_int boot_int (pa_cons (pv 2) pa_nil)) pa_nil))))
      (pss_cons (ps_set (i := 4) sc__law_feed.nd rfl (Or.inl rfl) (pe_op op_add pe_int (pe_op op_mul pe_int (pv 1))))
      (pss_cons (ps_for PassesOwn.never rfl (pi_list (pv 3)) (pg_name (i := 2) sc__law_feed.nd rfl (Or.inl rfl)) (pss_one (ps_set (i := 4) sc__law_feed.nd rfl (Or.inl rfl) (pe_op op_mod (pe_callTy call_int1' (by rfl) T.b_int boot_int (pa_cons (pe_op op_add (pe_op op_add (pe_callTy call_int1' (by rfl) T.b_int boot_int (pa_cons (pe_op op_mul (pv 4) pe_int) pa_nil)) (pe_op op_mod (pe_callTy call_int1' (by rfl) T.b_int boot_int (pa_cons (pv 2) pa_nil)) pe_int)) pe_int) pa_nil)) pe_int))))
      (pss_one (ps_ret (pe_disp (pps_cons pe_str (pe_revL (pe_lc (own := [("_law_cell", 2)]) (g := gName 2) (by rfl) sc__law_feed.nd (pi_list (pv 3)) (blkOk_by (own := [("_law_cell", 2)]) (N := ["_law_script", "_law_first", "_law_cell", "_law_cells", "_law_blend"]) (sc := defScope s__law_feed) (by decide +kernel)) (fun _ _ _ _ _ => pg_name (i := 2) sc__law_feed.nd rfl (Or.inl rfl)) (fun _ _ _ _ _ => pts_one (pt_cmpR op_ge (pv 2) (pe_op op_pow pe_int pe_int) (nomark _))) (fun _ _ _ _ _ => (pv 2)))) (pps_cons pe_str (pv 4) pps_nil)) (by rfl) (by rfl) (fun z => by cases z) (by decide))))))), ?_⟩
    walk_at "x"
    refine ⟨_, _, rfl, hS, fun p hp => ?_⟩
    refine ⟨p, rfl, ⟨_, SqL.of upd_same⟩, ?_⟩
    obtain ⟨cs, ecs, hcs⟩ := cutZ_ints ns (some b) (some (b + 60))
    have e1 : Ex H (upd H p (.lst (cutV (ns.map V.int) (some b) (some (b + 60))))) := Ex.new hp
    refine comp_listF (ns := cs) (fun n => if n < 0 then -n else n) (by rw [← ecs]; exact SqL.of upd_same) (by omega) (fun _ => rfl) (fun n H' hn e KY ky => ?_) (fun D H2 hD e2 hDl => ?_)
    · walk_at "x"
      exact ky
    generalize hms : cs.map (fun n => if n < 0 then -n else n) = ms at hDl
    have hcl : ms.length ≤ 63 := by rw [← hms, List.length_map]; omega
    have eH2 : Ex H H2 := e1.trans e2
    clear hms ecs hcs
    walk_at "x"
    refine x_I (.inr ⟨by omega, by omega⟩) ?_
    walk_at "x"
    refine x_cut (fun σ' H' => ∃ (c : Option V) (mx : Int), σ' = [some (.ref a), some (.int b), c, some (.ref D), some (.int mx)] ∧ H' = H2) (fun nn hn => ?_) ?_
    · walk_at "x"
      refine ⟨⟨_, SqL.of hDl⟩, turns_list (K := K) (xs := ms.map V.int) (fun i σ' H' => ∃ (c : Option V) (mx : Int), σ' = [some (.ref a), some (.int b), c, some (.ref D), some (.int mx)] ∧ H' = H2) ⟨_, _, rfl, rfl⟩ (fun i σ' H' _ ⟨_, _, _, e⟩ => by rw [e]; exact SqL.of hDl) ?_ ?_⟩
      · rintro i x σ' H' hi ⟨c, mx, rfl, rfl⟩
        obtain ⟨n, rfl, _⟩ := int_at hi
        walk_at "x"
        refine x_I (.inr (by decide)) ?_
        walk_at "x"
        refine x_I (by decide) ?_
        walk_at "x"
        refine x_I (by decide) ?_
        exact ⟨_, _, rfl, rfl⟩
      · rintro σ' H' ⟨c, mx, rfl, rfl⟩
        exact hn _ _ ⟨_, _, rfl, rfl⟩
    rintro σ' H2' ⟨c, mx, rfl, hH⟩
    rw [hH]
    clear hH
    walk_at "x"
    refine x_disp fun q hq => ?_
    walk_at "x"
    have eq : Ex H2 (upd H2 q (.dK [])) := Ex.new hq
    have hDq := eq _ _ hDl
    refine ⟨⟨_, SqL.of hDq⟩, ?_⟩
    refine comp_list (fun i acc => acc.length ≤ i ∧ ∃ ms : List Int, acc = ms.map V.int) (SqL.of hDq) (by rw [List.length_map]; omega) (fun _ => rfl) ⟨Nat.le_refl _, [], rfl⟩ ?_ ?_
    · rintro i x acc H3 hi ⟨hl, gs, rfl⟩ e3 KY KN ky kn
      obtain ⟨n, rfl, hn⟩ := int_at hi
      walk_at "x"
      refine x_I ⟨by decide, by decide, by decide⟩ ?_
      walk_at "x"
      refine ifc (fun h => ?_) (fun h => ?_)
      · walk_at "x"
        exact ky _ _ (Ex.refl _) ⟨by simp at hl ⊢; exact hl, gs ++ [n], by simp⟩
      · exact kn _ (Ex.refl _) ⟨by omega, gs, rfl⟩
    rintro G acc H3 hG e3 hGl ⟨hgl, gs, rfl⟩
    walk_at "x"
    refine ⟨_, _, rfl, SqL.of hGl, fun l hl => ?_⟩
    walk_at "x"
    have hq3 : H3 q = some (.dK []) := e3 _ _ upd_same
    have hql : q ≠ l := ne_of_none hq3 hl
    have back : ∀ z, H3 z = none → H z = none := fun z hz => by
      cases e : H z with
      | none => rfl
      | some o => rw [e3 _ _ (eq _ _ (eH2 _ _ e))] at hz; cases hz
    have hqH : H q = none := by
      cases e : H q with
      | none => rfl
      | some o => rw [eH2 _ _ e] at hq; cases hq
    refine ⟨by rw [upd_ne hql]; exact hq3, [(.inr "great", .ref l), (.inr "blend", .int mx)], rfl, (by show 2 ≤ 15; decide), ?_⟩
    refine k q l _ mx gs.reverse hqH (back l hl) (fun z o hz => ?_) ⟨upd_same, ?_, by simp at hgl ⊢; omega⟩
    · have hz3 := e3 _ _ (eq _ _ (eH2 _ _ hz))
      rw [upd_ne (ne_of_none hz hqH), upd_ne (ne_of_none hz3 hl)]
      exact hz3
    · rw [upd_ne hql.symm, upd_same]; simp

def sp_feed (P : Program) (w : World) (K : PySem.W.Frag) : Sp := fun vs H Q _ => ∃ (a : Addr) (ns : List Int) (b : Int), vs = [.ref a, .int b] ∧ SqL K H a (ns.map V.int) ∧ ns.length ≤ 63 ∧ 0 ≤ b ∧ b < 1000 ∧
  ∀ (d : Addr) (H' : Hp), Ex H H' → Box P w H' d → Q (.ref d) H'
theorem Tx.F__law_feed (T : Tx w K mg) : Fn P w K mg base 1 "_law_feed" ["_law_script", "_law_first"] (sp_feed P w K) := by
  refine (Tx.feed0 (P := P) (w := w) (base := base) T).post.imp ?_
  rintro vs H Q E ⟨a, ns, b, rfl, hS, hl, b0, b1, k⟩
  refine ⟨a, ns, b, rfl, hS, hl, b0, b1, fun d l H' blend ms hd hl e C => ⟨_, C.abs, k d _ (fun z o hz => ?_) ⟨l, upd_same, by rw [upd_ne C.ne.symm, upd_same], C.ne⟩⟩⟩
  rw [upd_ne (ne_of_none hz hd), upd_ne (ne_of_none hz hl)]
  exact e z o hz
def sp_pickC (P : Program) (w : World) (K : PySem.W.Frag) : Sp := fun vs H Q _ => ∃ (d a : Addr) (xs : List V), vs = [.ref d, .ref a] ∧ Box P w H d ∧ SqL K H a xs ∧ 0 < xs.length ∧ xs.length < 2 ^ 30 ∧ ∀ (i : Nat) (x : V) (H' : Hp), xs[i]? = some x → Ex H H' → Q x H' 
theorem Tx.F__law_pick (T : Tx w K mg) : Fn P w K mg base 2 "_law_pick" ["_law_box", "_law_some"] (sp_pickC P w K) := by
  refine fn_df T.d__law_pick sc__law_pick (fun vs H Q E h => ?_) (fun _ _ _ _ _ _ us hl => match us, hl with | [_, _], _ => rfl) (fun f cdv A outer s H vs Q E hr h => ?_)
  · obtain ⟨d, a, xs, rfl, _⟩ := h
    rfl
  · have hu := hu_of hr
    obtain ⟨d, a, xs, rfl, D, hS, h0, h1, k⟩ := h
    refine ⟨_, (pss_one (ps_ret (pe_ix ix_list (pv 1) (pe_fn T.F__law_take (hr.mono (by decide)) (by rfl) (pa_cons (pv 0) (pa_cons (pe_callB call_lenQ (by rfl) T.b_len PySem.boot_len (pa_cons (pv 1) pa_nil)) pa_nil))) (fun _ _ => rfl)))), ?_⟩
    walk_at "x"
    refine ⟨_, _, rfl, .inl hS, ?_⟩
    walk_at "x"
    refine ⟨d, _, rfl, D, by exact_mod_cast h0, by exact_mod_cast h1, fun r H' r0 r1 e => ?_⟩
    obtain ⟨j, rfl⟩ := Int.eq_ofNat_of_zero_le r0
    have hj : j < xs.length := by exact_mod_cast r1
    exact ⟨_, _, _, _, rfl, rfl, ex_l e hS, atI_nat (List.getElem?_eq_getElem hj), k j _ _ (List.getElem?_eq_getElem hj) e⟩

def sp_is_integer : Sp := fun vs H Q _ => ∃ v, vs = [v] ∧ Plain H v ∧ Q (.bl (isI v)) H
theorem Tx.F_is_integer (T : Tx w K mg) : Fn P w K mg base 1 "is_integer" ["value"] (sp_is_integer) := by
  refine fn_df T.d_is_integer sc_is_integer (fun vs H Q E h => ?_) (fun _ _ _ _ _ _ us hl => match us, hl with | [_], _ => rfl) (fun f cdv A outer s H vs Q E hr h => ?_)
  · obtain ⟨v, rfl, _⟩ := h
    rfl
  · have hu := hu_of hr
    obtain ⟨v, rfl, p, k⟩ := h
    refine ⟨_, (pss_one (ps_ret (pe_and (pe_callB call_isi (by rfl) T.b_isinstance (by decide +kernel) (pa_cons (pv 0) (pa_cons (pe_bltn (v := .ty "int") (by rfl) T.b_int (by decide +kernel) rfl) pa_nil))) (pe_one (pe_not (pe_callB call_isi (by rfl) T.b_isinstance (by decide +kernel) (pa_cons (pv 0) (pa_cons (pe_bltn (v := .ty "bool") (by rfl) T.b_bool (by decide +kernel) rfl) pa_nil)))))))), ?_⟩
    walk_at "x"
    refine x_isInt p ?_
    walk_at "x"
    refine ifc (fun h => ?_) (fun h => ?_)
    · walk_at "x"
      refine x_isBool p ?_
      walk_at "x"
      cases p <;> first | exact k | cases h
    · cases p <;> first | exact k | cases h

def isNum : V → Bool
  | .int i => decide (0 ≤ i)
  | _ => false
def sp_is_number : Sp := fun vs H Q _ => ∃ v, vs = [v] ∧ Plain H v ∧ Q (.bl (isNum v)) H
theorem Tx.F_is_number (T : Tx w K mg) : Fn P w K mg base 2 "is_number" ["value"] (sp_is_number) := by
  refine fn_df T.d_is_number sc_is_number (fun vs H Q E h => ?_) (fun _ _ _ _ _ _ us hl => match us, hl with | [_], _ => rfl) (fun f cdv A outer s H vs Q E hr h => ?_)
  · obtain ⟨v, rfl, _⟩ := h
    rfl
  · have hu := hu_of hr
    obtain ⟨v, rfl, p, k⟩ := h
    refine ⟨_, (pss_one (ps_ret (pe_and (pe_fn T.F_is_integer (hr.mono (by decide)) (by rfl) (pa_cons (pv 0) pa_nil)) (pe_one (pe_cmpR op_ge (pv 0) pe_int (nomark _)))))), ?_⟩
    walk_at "x"
    refine ⟨v, rfl, p, ?_⟩
    walk_at "x"
    cases p <;> first | exact k | (refine iteP rfl ?_; walk_at "x"; exact k)

def isFrom : V → Int → Bool
  | .int i, l => decide (l ≤ i)
  | _, _ => false
def sp_is_from : Sp := fun vs H Q _ => ∃ v l, vs = [v, .int l] ∧ Plain H v ∧ Q (.bl (isFrom v l)) H
theorem Tx.F_is_from (T : Tx w K mg) : Fn P w K mg base 2 "is_from" ["value", "least"] (sp_is_from) := by
  refine fn_df T.d_is_from sc_is_from (fun vs H Q E h => ?_) (fun _ _ _ _ _ _ us hl => match us, hl with | [_, _], _ => rfl) (fun f cdv A outer s H vs Q E hr h => ?_)
  · obtain ⟨v, l, rfl, _⟩ := h
    rfl
  · have hu := hu_of hr
    obtain ⟨v, l, rfl, p, k⟩ := h
    refine ⟨_, (pss_one (ps_ret (pe_and (pe_fn T.F_is_integer (hr.mono (by decide)) (by rfl) (pa_cons (pv 0) pa_nil)) (pe_one (pe_cmpR op_ge (pv 0) (pv 1) (nomark _)))))), ?_⟩
    walk_at "x"
    refine ⟨v, rfl, p, ?_⟩
    walk_at "x"
    cases p <;> first | exact k | (refine iteP rfl ?_; walk_at "x"; exact k)

def isWord : V → List Str → Bool
  | .str x, ws => inV (.str x) (ws.map V.str)
  | _, _ => false
theorem flat_strs (ws : List Str) : (ws.map V.str).all flatV = true := by
  rw [List.all_eq_true]
  intro x hx
  obtain ⟨y, _, rfl⟩ := List.mem_map.mp hx
  rfl
def sp_is_word (K : PySem.W.Frag) : Sp := fun vs H Q _ => ∃ v t ws, vs = [v, .ref t] ∧ Plain H v ∧ SqT K H t (ws.map V.str) ∧ Q (.bl (isWord v ws)) H
theorem Tx.F_is_word (T : Tx w K mg) : Fn P w K mg base 1 "is_word" ["value", "some"] (sp_is_word K) := by
  refine fn_df T.d_is_word sc_is_word (fun vs H Q E h => ?_) (fun _ _ _ _ _ _ us hl => match us, hl with | [_, _], _ => rfl) (fun f cdv A outer s H vs Q E hr h => ?_)
  · obtain ⟨v, t, ws, rfl, _⟩ := h
    rfl
  · have hu := hu_of hr
    obtain ⟨v, t, ws, rfl, p, ht, k⟩ := h
    refine ⟨_, (pss_one (ps_ret (pe_and (pe_callB call_isi (by rfl) T.b_isinstance (by decide +kernel) (pa_cons (pv 0) (pa_cons (pe_bltn (v := .ty "str") (by rfl) T.b_str (by decide +kernel) rfl) pa_nil))) (pe_one (pe_cmpR op_in_seq (pv 0) (pv 1) rfl))))), ?_⟩
    walk_at "x"
    refine x_isStr p ?_
    walk_at "x"
    cases p with
    | str x =>
      refine iteP rfl ?_
      walk_at "x"
      exact ⟨t, _, rfl, .inr ht, rfl, flat_strs ws, k⟩
    | _ => exact k

structure RuleD where
  need : Int
  of : Int
  base : Int
  more : Int
  most : Int
  calm : Int
  back : Str
  top : Int
  under : Int
  up : Bool
  hears : Str
def capOf (r : RuleD) : Int := if r.more = 0 then 1 else 1 + (r.most - r.base + r.more - 1) / r.more
def ruleF (r : RuleD) : List (Str × V) := [("need", .int r.need), ("of", .int r.of), ("base", .int r.base), ("more", .int r.more), ("most", .int r.most), ("calm", .int r.calm), ("back", .str r.back), ("top", .int r.top), ("under", .int r.under), ("up", .bl r.up), ("hears", .str r.hears), ("cap", .int (capOf r))]
def backs : List Str := ["half", "open", "trial"]
def heards : List Str := ["fault", "no", "out"]
/-- the arguments of a rule: numbers in their order, small enough -/
structure RuleOk (r : RuleD) : Prop where
  need : 1 ≤ r.need
  of : r.need ≤ r.of
  base : 1 ≤ r.base
  more : 0 ≤ r.more
  more2 : r.more < 2 ^ 30
  most : r.base ≤ r.most
  calm : 0 ≤ r.calm
  back : inV (.str r.back) (backs.map V.str) = true
  top : 0 ≤ r.top
  under : 1 ≤ r.under
  under2 : r.top ≤ r.under
  under3 : r.under < 2 ^ 30
  hears : inV (.str r.hears) (heards.map V.str) = true
def ruleVs (r : RuleD) : List V := [.int r.need, .int r.of, .int r.base, .int r.more, .int r.most, .int r.calm, .str r.back, .int r.top, .int r.under, .bl r.up, .str r.hears]
/-- a rule stands at p -/
def RuleAt (C : Addr) (H : Hp) (p : Addr) (r : RuleD) : Prop := ∃ dx, H p = some (.ins C dx (ruleF r))
def sp_wrong_number : Sp := fun vs H Q _ => ∃ a b c d e f : Int, vs = [.int a, .int b, .int c, .int d, .int e, .int f] ∧ 1 ≤ a ∧ a ≤ b ∧ 1 ≤ c ∧ 0 ≤ d ∧ c ≤ e ∧ 0 ≤ f ∧ Q .non H
theorem Tx.F_wrong_number (T : Tx w K mg) : Fn P w K mg base 3 "wrong_number" ["need", "of", "base", "more", "most", "calm"] (sp_wrong_number) := by
  refine fn_df T.d_wrong_number sc_wrong_number (fun vs H Q E h => ?_) (fun _ _ _ _ _ _ us hl => match us, hl with | [_, _, _, _, _, _], _ => rfl) (fun f cdv A outer s H vs Q E hr h => ?_)
  · obtain ⟨a, b, c, d, e, f, rfl, _⟩ := h
    rfl
  · have hu := hu_of hr
    obtain ⟨a, b, c, d, e, f, rfl, h1, h2, h3, h4, h5, h6, k⟩ := h
    refine ⟨_, (pss_cons (ps_if (pt_not (pt_val (pe_fn T.F_is_from (hr.mono (by decide)) (by rfl) (pa_cons (pv 0) (pa_cons pe_int pa_nil))))) (pss_one (ps_ret pe_str)) pss_nil)
      (pss_cons (ps_if (pt_not (pt_val (pe_fn T.F_is_from (hr.mono (by decide)) (by rfl) (pa_cons (pv 1) (pa_cons (pv 0) pa_nil))))) (pss_one (ps_ret pe_str)) pss_nil)
      (pss_cons (ps_if (pt_not (pt_val (pe_fn T.F_is_from (hr.mono (by decide)) (by rfl) (pa_cons (pv 2) (pa_cons pe_int pa_nil))))) (pss_one (ps_ret pe_str)) pss_nil)
      (pss_cons (ps_if (pt_not (pt_val (pe_fn T.F_is_number (hr.mono (by decide)) (by rfl) (pa_cons (pv 3) pa_nil)))) (pss_one (ps_ret pe_str)) pss_nil)
      (pss_cons (ps_if (pt_not (pt_val (pe_fn T.F_is_from (hr.mono (by decide)) (by rfl) (pa_cons (pv 4) (pa_cons (pv 2) pa_nil))))) (pss_one (ps_ret pe_str)) pss_nil)
      (pss_one (ps_ret (pe_ifExp (pt_val (pe_fn T.F_is_number (hr.mono (by decide)) (by rfl) (pa_cons (pv 5) pa_nil))) pe_non pe_str)))))))), ?_⟩
    walk_at "x"
    refine ⟨_, _, rfl, .int _, ?_⟩
    walk_at "x"
    refine iteN (by simp [isFrom, h1]) ?_
    walk_at "x"
    refine ⟨_, _, rfl, .int _, ?_⟩
    walk_at "x"
    refine iteN (by simp [isFrom, h2]) ?_
    walk_at "x"
    refine ⟨_, _, rfl, .int _, ?_⟩
    walk_at "x"
    refine iteN (by simp [isFrom, h3]) ?_
    walk_at "x"
    refine ⟨_, rfl, .int _, ?_⟩
    walk_at "x"
    refine iteN (by simp [isNum, h4]) ?_
    walk_at "x"
    refine ⟨_, _, rfl, .int _, ?_⟩
    walk_at "x"
    refine iteN (by simp [isFrom, h5]) ?_
    walk_at "x"
    refine ⟨_, rfl, .int _, ?_⟩
    walk_at "x"
    refine iteP (by simp [isNum, h6]) ?_
    walk_at "x"
    exact k

def sp_wrong_word : Sp := fun vs H Q _ => ∃ (a : Str) (b c : Int) (d : Bool) (e : Str), vs = [.str a, .int b, .int c, .bl d, .str e] ∧ inV (.str a) (backs.map V.str) = true ∧ 0 ≤ b ∧ 1 ≤ c ∧ b ≤ c ∧ inV (.str e) (heards.map V.str) = true ∧ Q .non H
theorem Tx.F_wrong_word (T : Tx w K mg) : Fn P w K mg base 3 "wrong_word" ["back", "top", "under", "up", "hears"] (sp_wrong_word) := by
  refine fn_df T.d_wrong_word sc_wrong_word (fun vs H Q E h => ?_) (fun _ _ _ _ _ _ us hl => match us, hl with | [_, _, _, _, _], _ => rfl) (fun f cdv A outer s H vs Q E hr h => ?_)
  · obtain ⟨a, b, c, d, e, rfl, _⟩ := h
    rfl
  · have hu := hu_of hr
    obtain ⟨a, b, c, d, e, rfl, h1, h2, h3, h4, h5, k⟩ := h
    refine ⟨_, (pss_cons (ps_if (pt_not (pt_val (pe_fn T.F_is_word (hr.mono (by decide)) (by rfl) (pa_cons (pv 0) (pa_cons (pe_glob (v := .ref _) rfl T.g_BACKS rfl) pa_nil))))) (pss_one (ps_ret pe_str)) pss_nil)
      (pss_cons (ps_if (pt_not (pt_val (pe_fn T.F_is_number (hr.mono (by decide)) (by rfl) (pa_cons (pv 1) pa_nil)))) (pss_one (ps_ret pe_str)) pss_nil)
      (pss_cons (ps_if (PW.pt (pw_or (pt_not (pt_val (pe_fn T.F_is_integer (hr.mono (by decide)) (by rfl) (pa_cons (pv 2) pa_nil)))) (pw_or (pt_cmpR op_lt (pv 2) pe_int (nomark _)) (pw_or1 (pt_cmpR op_lt (pv 2) (pv 1) (nomark _)))))) (pss_one (ps_ret pe_str)) pss_nil)
      (pss_cons (ps_if (pt_not (pt_val (pe_callB call_isi (by rfl) T.b_isinstance (by decide +kernel) (pa_cons (pv 3) (pa_cons (pe_bltn (v := .ty "bool") (by rfl) T.b_bool (by decide +kernel) rfl) pa_nil))))) (pss_one (ps_ret pe_str)) pss_nil)
      (pss_one (ps_ret (pe_ifExp (pt_val (pe_fn T.F_is_word (hr.mono (by decide)) (by rfl) (pa_cons (pv 4) (pa_cons (pe_glob (v := .ref _) rfl T.g_HEARD rfl) pa_nil)))) pe_non pe_str))))))), ?_⟩
    walk_at "x"
    refine ⟨_, _, backs, rfl, .str _, T.t_BACKS _, ?_⟩
    walk_at "x"
    refine iteN (by simp [isWord, h1]) ?_
    walk_at "x"
    refine ⟨_, rfl, .int _, ?_⟩
    walk_at "x"
    refine iteN (by simp [isNum, h2]) ?_
    walk_at "x"
    refine ⟨_, rfl, .int _, ?_⟩
    walk_at "x"
    refine iteN rfl ?_
    walk_at "x"
    refine iteN (by simp; omega) ?_
    walk_at "x"
    refine iteN (by simp; omega) ?_
    walk_at "x"
    refine x_isBool (.bl _) ?_
    walk_at "x"
    refine iteN rfl ?_
    walk_at "x"
    refine ⟨_, _, heards, rfl, .str _, T.t_HEARD _, ?_⟩
    walk_at "x"
    refine iteP (by simp [isWord, h5]) ?_
    walk_at "x"
    exact k

def sp_Rule_init (C : Addr) : Sp := fun vs H Q _ => ∃ (p dx : Addr) (r : RuleD), vs = .ref p :: ruleVs r ∧ RuleOk r ∧ H p = some (.ins C dx []) ∧ Q .non (upd H p (.ins C dx (ruleF r)))
def ruleFc (r : RuleD) (c : Int) : List (Str × V) := [("need", .int r.need), ("of", .int r.of), ("base", .int r.base), ("more", .int r.more), ("most", .int r.most), ("calm", .int r.calm), ("back", .str r.back), ("top", .int r.top), ("under", .int r.under), ("up", .bl r.up), ("hears", .str r.hears), ("cap", .int c)]
theorem Tx.M_Rule (T : Tx w K mg) : Nw P w K mg base 4 "Rule" (He.ga K "Rule") ["self", "need", "of", "base", "more", "most", "calm", "back", "top", "under", "up", "hears"] (sp_Rule_init (He.ga K "Rule")) := by
  refine nw_ki T.k_Rule sc_Rule___init__ (fun vs H Q E h => ?_) (fun _ _ _ _ _ _ us hl => match us, hl with | [_, _, _, _, _, _, _, _, _, _, _, _], _ => rfl) (fun f cdv A outer s H vs Q E hr h => ?_)
  · obtain ⟨p, dx, r, rfl, _⟩ := h
    rfl
  · have hu := hu_of hr
    obtain ⟨p, dx, r, rfl, ok, hp, k⟩ := h
    refine ⟨_, (pss_cons (ps_set (i := 12) sc_Rule___init__.nd rfl (Or.inl rfl) (pe_fn T.F_wrong_number (hr.mono (by decide)) (by rfl) (pa_cons (pv 1) (pa_cons (pv 2) (pa_cons (pv 3) (pa_cons (pv 4) (pa_cons (pv 5) (pa_cons (pv 6) pa_nil))))))))
      (pss_cons (ps_if (pt_cmp (pc_isN (pv 12))) (pss_one (ps_set (i := 12) sc_Rule___init__.nd rfl (Or.inl rfl) (pe_fn T.F_wrong_word (hr.mono (by decide)) (by rfl) (pa_cons (pv 7) (pa_cons (pv 8) (pa_cons (pv 9) (pa_cons (pv 10) (pa_cons (pv 11) pa_nil)))))))) pss_nil)
      (pss_cons (ps_if (pt_cmp (pc_notN (pv 12))) (pss_one ps_never) pss_nil)
      (pss_cons (ps_fld (pv 0) (pv 1) rfl)
      (pss_cons (ps_fld (pv 0) (pv 2) rfl)
      (pss_cons (ps_fld (pv 0) (pv 3) rfl)
      (pss_cons (ps_fld (pv 0) (pv 4) rfl)
      (pss_cons (ps_fld (pv 0) (pv 5) rfl)
      (pss_cons (ps_fld (pv 0) (pv 6) rfl)
      (pss_cons (ps_fld (pv 0) (pv 7) rfl)
      (pss_cons (ps_fld (pv 0) (pv 8) rfl)
      (pss_cons (ps_fld (pv 0) (pv 9) rfl)
      (pss_cons (ps_fld (pv 0) (pv 10) rfl)
      (pss_cons (ps_fld (pv 0) (pv 11) rfl)
      (pss_one (ps_fld (pv 0) (pe_ifExp (pt_cmpR op_eq (pv 4) pe_int (nomark _)) pe_int (pe_op op_add pe_int (pe_op op_fdiv (pe_op op_sub (pe_op op_add (pe_op op_sub (pv 5) (pv 3)) (pv 4)) pe_int) (pv 4)))) rfl)))))))))))))))), ?_⟩
    walk_at "x"
    refine ⟨_, _, _, _, _, _, rfl, ok.need, ok.of, ok.base, ok.more, ok.most, ok.calm, ?_⟩
    walk_at "x"
    refine iteP rfl ?_
    walk_at "x"
    refine ⟨_, _, _, _, _, rfl, ok.back, ok.top, ok.under, ok.under2, ok.hears, ?_⟩
    walk_at "x"
    refine iteN rfl ?_
    walk_at "x"
    refine ⟨_, _, dx, _, rfl, hp, T.c_Rule, T.n_Rule_need, (by show 0 < 1000; decide), ?_⟩
    walk_at "x"
    refine ⟨_, _, dx, _, rfl, upd_same, T.c_Rule, T.n_Rule_of, (by show 1 < 1000; decide), ?_⟩
    walk_at "x"
    refine ⟨_, _, dx, _, rfl, upd_same, T.c_Rule, T.n_Rule_base, (by show 2 < 1000; decide), ?_⟩
    walk_at "x"
    refine ⟨_, _, dx, _, rfl, upd_same, T.c_Rule, T.n_Rule_more, (by show 3 < 1000; decide), ?_⟩
    walk_at "x"
    refine ⟨_, _, dx, _, rfl, upd_same, T.c_Rule, T.n_Rule_most, (by show 4 < 1000; decide), ?_⟩
    walk_at "x"
    refine ⟨_, _, dx, _, rfl, upd_same, T.c_Rule, T.n_Rule_calm, (by show 5 < 1000; decide), ?_⟩
    walk_at "x"
    refine ⟨_, _, dx, _, rfl, upd_same, T.c_Rule, T.n_Rule_back, (by show 6 < 1000; decide), ?_⟩
    walk_at "x"
    refine ⟨_, _, dx, _, rfl, upd_same, T.c_Rule, T.n_Rule_top, (by show 7 < 1000; decide), ?_⟩
    walk_at "x"
    refine ⟨_, _, dx, _, rfl, upd_same, T.c_Rule, T.n_Rule_under, (by show 8 < 1000; decide), ?_⟩
    walk_at "x"
    refine ⟨_, _, dx, _, rfl, upd_same, T.c_Rule, T.n_Rule_up, (by show 9 < 1000; decide), ?_⟩
    walk_at "x"
    refine ⟨_, _, dx, _, rfl, upd_same, T.c_Rule, T.n_Rule_hears, (by show 10 < 1000; decide), ?_⟩
    walk_at "x"
    by_cases hm : r.more = 0
    · refine iteP (by simp [hm]) ?_
      walk_at "x"
      refine ⟨_, _, dx, _, rfl, upd_same, T.c_Rule, T.n_Rule_cap, (by show 11 < 1000; decide), ?_⟩
      have e : capOf r = 1 := by simp [capOf, hm]
      simp only [upd_upd]
      rw [show ruleF r = ruleFc r 1 by simp only [ruleF, ruleFc, e]] at k
      exact k
    · refine iteN (by simp [hm]) ?_
      walk_at "x"
      refine x_I ⟨by have := ok.more; omega, ok.more2⟩ ?_
      walk_at "x"
      refine ⟨_, _, dx, _, rfl, upd_same, T.c_Rule, T.n_Rule_cap, (by show 11 < 1000; decide), ?_⟩
      have e : capOf r = 1 + (r.most - r.base + r.more - 1) / r.more := by simp [capOf, hm]
      simp only [upd_upd]
      rw [show ruleF r = ruleFc r (1 + (r.most - r.base + r.more - 1) / r.more) by simp only [ruleF, ruleFc, e]] at k
      exact k

def limitOf (r : RuleD) (n : Int) : Int := (n * r.top + (if r.up = true then r.under - 1 else 0)) / r.under
def sp_limit (C : Addr) : Sp := fun vs H Q _ => ∃ (p : Addr) (r : RuleD) (n : Int), vs = [.ref p, .int n] ∧ RuleAt C H p r ∧ RuleOk r ∧ Q (.int (limitOf r n)) H
theorem Tx.m_Rule_limit (T : Tx w K mg) : Mt P w K mg base 1 (He.ga K "Rule") "limit" ["self", "n"] (sp_limit (He.ga K "Rule")) := by
  refine mt_md T.d_Rule_limit T.c_Rule sc_Rule_limit (fun vs H Q E h => ?_) (fun _ _ _ _ _ _ us hl => match us, hl with | [_, _], _ => rfl) (fun f cdv A outer s H vs Q E hr h => ?_)
  · obtain ⟨p, r, n, rfl, _⟩ := h
    rfl
  · have hu := hu_of hr
    obtain ⟨p, r, n, rfl, ⟨dx, hp⟩, ok, k⟩ := h
    refine ⟨_, (pss_one (ps_ret (pe_op op_fdiv (pe_op op_add (pe_op op_mul (pv 1) (pe_fld (pv 0) rfl)) (pe_ifExp (pt_val (pe_fld (pv 0) rfl)) (pe_op op_sub (pe_fld (pv 0) rfl) pe_int) pe_int)) (pe_fld (pv 0) rfl)))), ?_⟩
    walk_at "x"
    refine ⟨_, _, dx, _, _, rfl, hp, T.c_Rule, T.n_Rule_top, rfl, ?_⟩
    walk_at "x"
    refine x_I (.inr ⟨by have := ok.top; omega, by have := ok.under2; have := ok.under3; omega⟩) ?_
    walk_at "x"
    refine ⟨_, _, dx, _, _, rfl, hp, T.c_Rule, T.n_Rule_up, rfl, ?_⟩
    walk_at "x"
    have dv : CDiv (0 : Int) r.under := ⟨by have := ok.under; omega, ok.under3⟩
    unfold limitOf at k
    refine ifc (fun h => ?_) (fun h => ?_)
    · walk_at "x"
      refine ⟨_, _, dx, _, _, rfl, hp, T.c_Rule, T.n_Rule_under, rfl, ?_⟩
      walk_at "x"
      refine ⟨_, _, dx, _, _, rfl, hp, T.c_Rule, T.n_Rule_under, rfl, ?_⟩
      walk_at "x"
      refine x_I dv ?_
      rw [h, if_pos rfl] at k
      exact k
    · walk_at "x"
      refine ⟨_, _, dx, _, _, rfl, hp, T.c_Rule, T.n_Rule_under, rfl, ?_⟩
      walk_at "x"
      refine x_I dv ?_
      rw [h, if_neg (by decide)] at k
      exact k

theorem RuleAt.mono {C : Addr} {H H' : Hp} {p : Addr} {r : RuleD} (R : RuleAt C H p r) (e : Ex H H') : RuleAt C H' p r := by
  obtain ⟨dx, h⟩ := R
  exact ⟨dx, e _ _ h⟩
theorem rule_heap {C : Addr} {H : Hp} {x dx : Addr} (r : RuleD) (hx : H x = none) (hdx : H dx = none) : ∃ H2, upd (upd (upd H dx (.own x)) x (.ins C dx [])) x (.ins C dx (ruleF r)) = H2 ∧ Ex H H2 ∧ RuleAt C H2 x r := by
  refine ⟨_, rfl, fun a o e => ?_, dx, upd_same⟩
  rw [upd_ne (ne_of_none e hx), upd_ne (ne_of_none e hx), upd_ne (ne_of_none e hdx)]
  exact e
theorem divq {q r u : Int} (h0 : 0 ≤ r) (h1 : r < u) : (q * u + r) / u = q := by
  rw [Int.add_comm, Int.add_mul_ediv_right _ _ (by omega), Int.ediv_eq_zero_of_lt h0 h1]
  omega
def partOf (n t u : Int) (up : Bool) : Int := (n * t + (if up = true then u - 1 else 0)) / u
theorem part_up {n t u wh re : Int} (e : wh * u + re = n * t) (h0 : 0 ≤ re) (h1 : re < u) : partOf n t u true = wh + (if 0 < re then 1 else 0) := by
  unfold partOf
  rw [if_pos rfl, ← e]
  split
  · rw [show wh * u + re + (u - 1) = (wh + 1) * u + (re - 1) by rw [Int.add_mul]; omega]
    exact divq (by omega) (by omega)
  · rw [show wh * u + re + (u - 1) = wh * u + (u - 1) by omega, divq (by omega) (by omega)]
    omega
theorem part_down {n t u wh re : Int} (e : wh * u + re = n * t) (h0 : 0 ≤ re) (h1 : re < u) : partOf n t u false = wh := by
  unfold partOf
  rw [if_neg (by decide), ← e, Int.add_zero]
  exact divq h0 h1
theorem part_mono {n t u : Int} {up : Bool} (t0 : 0 ≤ t) (u1 : 1 ≤ u) : partOf (n - 1) t u up ≤ partOf n t u up := by
  unfold partOf
  refine Int.ediv_le_ediv (by omega) ?_
  rw [Int.sub_mul]
  omega
theorem part_le {n t u : Int} {up : Bool} (n0 : 0 ≤ n) (t1 : t ≤ u) (u1 : 1 ≤ u) : partOf n t u up ≤ n := by
  unfold partOf
  have h := Int.mul_le_mul_of_nonneg_left t1 n0
  refine Int.le_of_lt_add_one (Int.ediv_lt_of_lt_mul (by omega) ?_)
  rw [Int.add_mul]
  split <;> omega
theorem part_rest {n t u : Int} {up : Bool} (u1 : 1 ≤ u) : (if up = true then 0 else 1 - u) ≤ partOf n t u up * u - n * t ∧ partOf n t u up * u - n * t < (if up = true then u else 1) := by
  unfold partOf
  cases up
  · simp only [Bool.false_eq_true, ↓reduceIte, Int.add_zero]
    have h1 := Int.mul_ediv_add_emod (n * t) u
    have h2 := Int.emod_nonneg (n * t) (show u ≠ 0 by omega)
    have h3 := Int.emod_lt_of_pos (n * t) (show 0 < u by omega)
    rw [Int.mul_comm u] at h1
    omega
  · simp only [↓reduceIte]
    have h1 := Int.mul_ediv_add_emod (n * t + (u - 1)) u
    have h2 := Int.emod_nonneg (n * t + (u - 1)) (show u ≠ 0 by omega)
    have h3 := Int.emod_lt_of_pos (n * t + (u - 1)) (show 0 < u by omega)
    rw [Int.mul_comm u] at h1
    omega
theorem part_zero {n u : Int} {up : Bool} (u1 : 1 ≤ u) : partOf n 0 u up = 0 := by
  unfold partOf
  rw [Int.mul_zero, Int.zero_add]
  exact Int.ediv_eq_zero_of_lt (by split <;> omega) (by split <;> omega)
theorem part_all {n u : Int} {up : Bool} (u1 : 1 ≤ u) : partOf n u u up = n := by
  unfold partOf
  exact divq (by split <;> omega) (by split <;> omega)
theorem mod_eq {a u : Int} (u1 : 1 ≤ u) : a / u * u + a % u = a ∧ 0 ≤ a % u ∧ a % u < u := by
  have h1 := Int.mul_ediv_add_emod a u
  rw [Int.mul_comm u] at h1
  exact ⟨h1, Int.emod_nonneg a (by omega), Int.emod_lt_of_pos a (by omega)⟩
def leftOf (n t u : Int) (up : Bool) : Int := n - partOf n t u up
theorem left_up {n t u : Int} (u1 : 1 ≤ u) : leftOf n t u true = n - n * t / u - (if 0 < n * t % u then 1 else 0) := by
  obtain ⟨h1, h2, h3⟩ := mod_eq (a := n * t) u1
  unfold leftOf
  rw [part_up h1 h2 h3]
  omega
theorem left_down {n t u : Int} (u1 : 1 ≤ u) : leftOf n t u false = n - n * t / u := by
  obtain ⟨h1, h2, h3⟩ := mod_eq (a := n * t) u1
  unfold leftOf
  rw [part_down h1 h2 h3]
theorem left_spared_up {n t u : Int} (u1 : 1 ≤ u) : n * (u - t) / u = leftOf n t u true := by
  obtain ⟨h1, h2, h3⟩ := mod_eq (a := n * t) u1
  rw [left_up u1, Int.mul_sub]
  generalize n * t / u = q at *
  generalize n * t % u = r at *
  split
  · rw [show n * u - n * t = (n - q - 1) * u + (u - r) by simp only [Int.sub_mul]; omega]
    exact divq (by omega) (by omega)
  · rw [show n * u - n * t = (n - q) * u + 0 by simp only [Int.sub_mul]; omega, divq (by omega) (by omega)]
    omega
theorem left_spared_down {n t u : Int} (u1 : 1 ≤ u) : -(-(n * (u - t)) / u) = leftOf n t u false := by
  obtain ⟨h1, h2, h3⟩ := mod_eq (a := n * t) u1
  rw [left_down u1, Int.mul_sub]
  generalize n * t / u = q at *
  generalize n * t % u = r at *
  rw [show -(n * u - n * t) = (q - n) * u + r by simp only [Int.sub_mul]; omega, divq (by omega) (by omega)]
  omega
theorem left_mono {n m t u : Int} {up : Bool} (u1 : 1 ≤ u) (t1 : t ≤ u) (h : n ≤ m) : leftOf n t u up ≤ leftOf m t u up := by
  have hm : n * (u - t) ≤ m * (u - t) := Int.mul_le_mul_of_nonneg_right h (by omega)
  cases up
  · rw [← left_spared_down u1, ← left_spared_down u1]
    have := Int.ediv_le_ediv (c := u) (by omega) (show -(m * (u - t)) ≤ -(n * (u - t)) by omega)
    omega
  · rw [← left_spared_up u1, ← left_spared_up u1]
    exact Int.ediv_le_ediv (by omega) hm
/-- t leaves enough -/
def enough (u : Int) (up : Bool) (spare start : Int) (t : Nat) : Bool := decide (spare ≤ leftOf start t u up)
def sp_left : Sp := fun vs H Q _ => ∃ (n t u : Int) (up : Bool), vs = [.int n, .int t, .int u, .bl up] ∧ 0 ≤ n ∧ n < 1000 ∧ 0 ≤ t ∧ t < 1000 ∧ 1 ≤ u ∧ u < 1000 ∧ Q (.int (leftOf n t u up)) H
theorem Tx.F__law_left (T : Tx w K mg) : Fn P w K mg base 1 "_law_left" ["_law_number", "_law_top", "_law_under", "_law_up"] (sp_left) := by
  refine fn_df T.d__law_left sc__law_left (fun vs H Q E h => ?_) (fun _ _ _ _ _ _ us hl => match us, hl with | [_, _, _, _], _ => rfl) (fun f cdv A outer s H vs Q E hr h => ?_)
  · obtain ⟨n, t, u, up, rfl, _⟩ := h
    rfl
  · have hu := hu_of hr
    obtain ⟨n, t, u, up, rfl, n0, n1, t0, t1, u1, u2, k⟩ := h
    refine ⟨_, (pss_cons (ps_par (by rfl) sc__law_left.nd (i := 4) (j := 5) rfl rfl (by decide) rfl rfl (pa_cons (pe_op op_fdiv (pe_op op_mul (pv 0) (pv 1)) (pv 2)) (pa_cons (pe_op op_mod (pe_op op_mul (pv 0) (pv 1)) (pv 2)) pa_nil)) (by rfl))
      (pss_one (ps_ret (pe_op op_sub (pe_op op_sub (pv 0) (pv 4)) (pe_ifExp (PW.pt (pw_and (pt_val (pv 3)) (pw_and1 (pt_cmpR op_gt (pv 5) pe_int (nomark _))))) pe_int pe_int))))), ?_⟩
    walk_at "x"
    refine x_I (.inr ⟨by omega, by omega⟩) ?_
    walk_at "x"
    refine x_I ⟨by omega, by omega⟩ ?_
    walk_at "x"
    refine x_I (.inr ⟨by omega, by omega⟩) ?_
    walk_at "x"
    refine x_I (by omega) ?_
    walk_at "x"
    refine ⟨_, _, rfl, ?_⟩
    walk_at "x"
    refine ifc (fun h => ?_) (fun h => ?_)
    · walk_at "x"
      rw [h, left_up u1] at k
      refine ifc (fun h2 => ?_) (fun h2 => ?_)
      · walk_at "x"
        rw [if_pos (by simpa using h2)] at k
        exact k
      · walk_at "x"
        rw [if_neg (by simpa using h2)] at k
        exact k
    · refine iteN rfl ?_
      walk_at "x"
      rw [h, left_down u1] at k
      simpa using k

def sp_spared : Sp := fun vs H Q _ => ∃ (n t u : Int) (up : Bool), vs = [.int t, .int u, .bl up, .int n] ∧ 0 ≤ n ∧ n < 1000 ∧ 0 ≤ t ∧ t ≤ u ∧ 1 ≤ u ∧ u < 1000 ∧ Q (.int (leftOf n t u up)) H
theorem Tx.F_spared (T : Tx w K mg) : Fn P w K mg base 1 "spared" ["top", "under", "up", "number"] (sp_spared) := by
  refine fn_df T.d_spared sc_spared (fun vs H Q E h => ?_) (fun _ _ _ _ _ _ us hl => match us, hl with | [_, _, _, _], _ => rfl) (fun f cdv A outer s H vs Q E hr h => ?_)
  · obtain ⟨n, t, u, up, rfl, _⟩ := h
    rfl
  · have hu := hu_of hr
    obtain ⟨n, t, u, up, rfl, n0, n1, t0, t1, u1, u2, k⟩ := h
    refine ⟨_, (pss_cons (ps_set (i := 4) sc_spared.nd rfl (Or.inl rfl) (pe_op op_mul (pv 3) (pe_op op_sub (pv 1) (pv 0))))
      (pss_one (ps_ret (pe_ifExp (pt_val (pv 2)) (pe_op op_fdiv (pv 4) (pv 1)) (pe_un un_neg (pe_op op_fdiv (pe_un un_neg (pv 4)) (pv 1))))))), ?_⟩
    walk_at "x"
    refine x_I (.inl ⟨by omega, by omega⟩) ?_
    walk_at "x"
    refine ifc (fun h => ?_) (fun h => ?_)
    · walk_at "x"
      refine x_I ⟨by omega, by omega⟩ ?_
      rw [h, ← left_spared_up u1] at k
      exact k
    · walk_at "x"
      refine x_I ⟨by omega, by omega⟩ ?_
      walk_at "x"
      rw [h, ← left_spared_down u1] at k
      exact k

def sp_safe : Sp := fun vs H Q _ => ∃ (u spare start : Int) (up : Bool), vs = [.int u, .bl up, .int spare, .int start] ∧ 0 ≤ start ∧ start < 1000 ∧ 1 ≤ u ∧ u < 1000 ∧ ∀ H', Ex H H' → Q (lastV (enough u up spare start) (u + 1).toNat) H' 
theorem Tx.F_safe_top (T : Tx w K mg) : Fn P w K mg base 2 "safe_top" ["under", "up", "spare", "start"] (sp_safe) := by
  refine fn_df T.d_safe_top sc_safe_top (fun vs H Q E h => ?_) (fun _ _ _ _ _ _ us hl => match us, hl with | [_, _, _, _], _ => rfl) (fun f cdv A outer s H vs Q E hr h => ?_)
  · obtain ⟨u, spare, start, up, rfl, _⟩ := h
    rfl
  · have hu := hu_of hr
    obtain ⟨u, spare, start, up, rfl, s0, s1, u1, u2, k⟩ := h
    refine ⟨_, (pss_cons (ps_setLc (i := 4) (own := [("top", 5)]) (g := gName 5) (by rfl) sc_safe_top.nd rfl rfl (sw_true rfl rfl rfl (by decide +kernel)) (pi_range1 (by rfl) T.b_range (pa_cons (pe_op op_add (pv 0) pe_int) pa_nil)) (blkOk_by (own := [("top", 5)]) (N := ["under", "up", "spare", "start", "some", "top"]) (sc := defScope s_safe_top) (by decide +kernel)) (fun _ _ _ _ _ => pg_name (i := 5) sc_safe_top.nd rfl (Or.inl rfl)) (fun _ _ _ _ _ => pts_one (pt_cmpR op_ge (pe_fn T.F_spared (hr.mono (by decide)) (by rfl) (pa_cons (pv 5) (pa_cons (pv 0) (pa_cons (pv 1) (pa_cons (pv 3) pa_nil))))) (pv 2) (nomark _))) (fun _ _ _ _ _ => (pv 5)))
      (pss_one (ps_ret (pe_ifExp (pt_cmpR op_gt (pe_callB call_lenQ (by rfl) T.b_len PySem.boot_len (pa_cons (pv 4) pa_nil)) pe_int (nomark _)) (pe_callB (call_maxV rfl) (by rfl) T.b_max (by decide +kernel) (pa_cons (pe_lc (own := [("top", 5)]) (g := gName 5) (tt := tYes) (by rfl) sc_safe_top.nd (pi_list (pv 4)) (blkOk_by (own := [("top", 5)]) (N := ["under", "up", "spare", "start", "some", "top"]) (sc := defScope s_safe_top) (by decide +kernel)) (fun _ _ _ _ _ => pg_name (i := 5) sc_safe_top.nd rfl (Or.inl rfl)) (fun _ _ _ _ _ => pts_nil) (fun _ _ _ _ _ => (pe_callTy call_int1' (by rfl) T.b_int boot_int (pa_cons (pv 5) pa_nil)))) pa_nil)) pe_non)))), ?_⟩
    walk_at "x"
    refine ⟨by omega, by omega, ?_⟩
    refine comp_rangeP (enough u up spare start) (fun i => 0 + (i : Int)) (by omega) (fun _ => rfl) (fun i H' hi e KT kt => ?_) (fun i H' hi hp e KY ky => ?_) (fun D H1 hD e1 hl => ?_)
    · walk_at "x"
      refine ⟨start, 0 + (i : Int), u, up, rfl, s0, s1, by omega, by omega, u1, u2, ?_⟩
      walk_at "x"
      have := kt H' (Ex.refl _)
      unfold enough at this
      rw [show (0 : Int) + (i : Int) = (i : Int) by omega]
      exact this
    · walk_at "x"
      exact ky
    walk_at "x"
    refine x_lenL hl ?_
    walk_at "x"
    have kk := k
    unfold lastV at k
    cases hq : lastP (enough u up spare start) (u + 1).toNat with
    | none =>
      rw [hq] at k
      refine iteN (by rw [lastP_none hq]; rfl) ?_
      walk_at "x"
      exact k H1 e1
    | some x =>
      rw [hq] at k
      obtain ⟨x1, x2, x3⟩ := lastP_some hq
      have hx : x ∈ (List.range (u + 1).toNat).filter (enough u up spare start) := by rw [List.mem_filter, List.mem_range]; exact ⟨x1, x2⟩
      have hlen : 0 < ((List.range (u + 1).toNat).filter (enough u up spare start)).length := List.length_pos_of_mem hx
      have hlen2 : ((List.range (u + 1).toNat).filter (enough u up spare start)).length ≤ (u + 1).toNat := by
        have := List.length_filter_le (enough u up spare start) (List.range (u + 1).toNat)
        rwa [List.length_range] at this
      refine iteP (by simp only [List.length_map]; exact decide_eq_true (by omega)) ?_
      walk_at "x"
      refine ⟨⟨_, SqL.of hl⟩, ?_⟩
      refine comp_listF (fun n => n) (SqL.of hl) (by rw [List.length_map]; omega) (fun _ => rfl) (fun n H' hn e KY ky => ?_) (fun D2 H2 hD2 e2 hl2 => ?_)
      · walk_at "x"
        exact ky
      walk_at "x"
      refine ⟨_, _, rfl, SqL.of hl2, by simp only [List.length_map]; exact hlen, fun m hm hmax => ?_⟩
      rw [List.map_id'] at hm hmax
      obtain ⟨z, hz, ez⟩ := List.mem_map.mp hm
      rw [List.mem_filter, List.mem_range] at hz
      have h1 := x3 z hz.1 hz.2
      have h2 := hmax (0 + (x : Int)) (List.mem_map.mpr ⟨x, hx, rfl⟩)
      have : m = (x : Int) := by omega
      rw [this]
      exact k H2 (e1.trans e2)

theorem lastV_plain (p : Nat → Bool) {m : Nat} (h : m < 2000) : (∃ i, lastV p m = .int i ∧ i.natAbs.log2 < 1920) ∨ (∃ b, lastV p m = .bl b) ∨ lastV p m = .non := by
  unfold lastV
  cases hq : lastP p m with
  | none => exact .inr (.inr rfl)
  | some x =>
    have := (lastP_some hq).1
    exact .inl ⟨x, rfl, num_small (by omega) (by show (x : Int) < 1000000000; omega)⟩
theorem two_at {x : V} {i : Nat} {a b : Int} (h : ([.int a, .int b] : List V)[i]? = some x) : ∃ z : Int, x = .int z ∧ (z = a ∨ z = b) := by
  match i, h with
  | 0, h => cases h; exact ⟨_, rfl, .inl rfl⟩
  | 1, h => cases h; exact ⟨_, rfl, .inr rfl⟩
  | i + 2, h => simp at h
theorem three_at {x : V} {i : Nat} {a b c : Int} (h : ([.int a, .int b, .int c] : List V)[i]? = some x) : ∃ z : Int, x = .int z ∧ (z = a ∨ z = b ∨ z = c) := by
  match i, h with
  | 0, h => cases h; exact ⟨_, rfl, .inl rfl⟩
  | 1, h => cases h; exact ⟨_, rfl, .inr (.inl rfl)⟩
  | 2, h => cases h; exact ⟨_, rfl, .inr (.inr rfl)⟩
  | i + 3, h => simp at h
theorem enough_all {u spare start : Int} {up : Bool} {i : Nat} (u1 : 1 ≤ u) (hi : (i : Int) ≤ u) : decide ((((List.range 90).filter fun (k : Nat) => decide (leftOf (start + (k : Int)) i u up < spare)).map fun (k : Nat) => start + (k : Int)) = []) = enough u up spare start i := by
  unfold enough
  by_cases h : spare ≤ leftOf start i u up
  · rw [decide_eq_true h, decide_eq_true_eq, List.map_eq_nil_iff, List.filter_eq_nil_iff]
    intro k _
    have := left_mono (up := up) u1 hi (show start ≤ start + (k : Int) by omega)
    simp only [decide_eq_true_eq]
    omega
  · rw [decide_eq_false h, decide_eq_false_iff_not, List.map_eq_nil_iff, List.filter_eq_nil_iff]
    intro z
    have := z 0 (by simp)
    simp only [decide_eq_true_eq] at this
    rw [show start + ((0 : Nat) : Int) = start by omega] at this
    omega
def spLaw (K : PySem.W.Frag) : Sp := fun vs H Q _ => ∃ (a : Addr) (ns : List Int), vs = [.ref a] ∧ SqL K H a (ns.map V.int) ∧ ns.length ≤ 63 ∧ ∀ H', Q (.bl true) H' 
theorem Tx.law_ok (T : Tx w K mg) {f : Addr} {fd : FuncData} (F : Fun K "law" "law" s_law f fd) : FnOk P w K mg base CX0 7 f fd ["_law_script"] (spLaw K) := by
  refine F.ok sc_law (fun vs H Q E h => ?_) (fun cdv A outer s H vs Q E hr h => ?_)
  · obtain ⟨a, ns, rfl, _⟩ := h
    rfl
  · have hu := hu_of hr
    obtain ⟨a, ns, rfl, hS, hlen, k⟩ := h
    refine ⟨_, (pss_cons (ps_for PassesOwn.never rfl (pi_range1 (by rfl) T.b_range (pa_cons (pe_callB (call_max2' rfl) (by rfl) T.b_max (by decide +kernel) (pa_cons pe_int (pa_cons (pe_callB (call_min2' rfl) (by rfl) T.b_min (by decide +kernel) (pa_cons pe_int (pa_cons (pe_callB call_lenQ (by rfl) T.b_len PySem.boot_len (pa_cons (pv 0) pa_nil)) pa_nil))) pa_nil))) pa_nil)) (pg_name (i := 1) sc_law.nd rfl (Or.inl rfl)) (pss_cons (ps_set (i := 2) sc_law.nd rfl (Or.inl rfl) (pe_fn T.F__law_feed (hr.mono (by decide)) (by rfl) (pa_cons (pv 0) (pa_cons (pv 1) pa_nil))))
      (pss_one (ps_for PassesOwn.never rfl (pi_range1 (by rfl) T.b_range (pa_cons pe_int pa_nil)) (pg_name (i := 3) sc_law.nd rfl (Or.inl rfl)) (pss_cons (ps_asg (pe_tup (pa_cons (pe_op op_add pe_int (pe_fn T.F__law_take (hr.mono (by decide)) (by rfl) (pa_cons (pv 2) (pa_cons pe_int pa_nil)))) (pa_cons (pe_cmpR op_eq (pe_fn T.F__law_take (hr.mono (by decide)) (by rfl) (pa_cons (pv 2) (pa_cons pe_int pa_nil))) pe_int (nomark _)) pa_nil))) (pg_tup rfl (pgs_cons (pg_name (i := 4) sc_law.nd rfl (Or.inr rfl)) (pgs_cons (pg_name (i := 5) sc_law.nd rfl (Or.inr rfl)) pgs_nil))))
      (pss_cons (ps_set (i := 6) sc_law.nd rfl (Or.inl rfl) (pe_op op_add pe_int (pe_fn T.F__law_take (hr.mono (by decide)) (by rfl) (pa_cons (pv 2) (pa_cons (pe_fn T.F__law_pick (hr.mono (by decide)) (by rfl) (pa_cons (pv 2) (pa_cons (pe_lst (pa_cons pe_int (pa_cons pe_int pa_nil))) pa_nil))) pa_nil)))))
      (pss_cons (ps_set (i := 7) sc_law.nd rfl (Or.inr rfl) (pe_fn T.F__law_take (hr.mono (by decide)) (by rfl) (pa_cons (pv 2) (pa_cons (pe_fn T.F__law_pick (hr.mono (by decide)) (by rfl) (pa_cons (pv 2) (pa_cons (pe_lst (pa_cons pe_int (pa_cons (pe_callB (call_min2' rfl) (by rfl) T.b_min (by decide +kernel) (pa_cons pe_int (pa_cons (pe_callTy call_int1' (by rfl) T.b_int boot_int (pa_cons (pe_op op_add (pv 6) pe_int) pa_nil)) pa_nil))) (pa_cons pe_int pa_nil)))) pa_nil))) pa_nil))))
      (pss_cons (ps_set (i := 8) sc_law.nd rfl (Or.inl rfl) pe_non)
      (pss_cons (ps_for PassesOwn.never rfl (pi_range1 (by rfl) T.b_range (pa_cons (pe_op op_add (pv 4) pe_int) pa_nil)) (pg_name (i := 9) sc_law.nd rfl (Or.inr rfl)) (pss_one (ps_if (pt_cmpR (op_eqD hr.units) (pe_lc (own := [("_law_n", 10)]) (g := gName 10) (by rfl) sc_law.nd (pi_range2 (by rfl) T.b_range (pa_cons (pv 6) (pa_cons (pe_op op_add (pv 6) pe_int) pa_nil))) (blkOk_by (own := [("_law_n", 10)]) (N := ["_law_script", "_law_base", "_law_box", "_law_turn", "_law_under", "_law_up", "_law_start", "_law_spare", "_law_due", "_law_top", "_law_n", "_law_rule"]) (sc := defScope s_law) (by decide +kernel)) (fun _ _ _ _ _ => pg_name (i := 10) sc_law.nd rfl (Or.inl rfl)) (fun _ _ _ _ _ => pts_one (pt_cmpR op_lt (pe_fn T.F__law_left (hr.mono (by decide)) (by rfl) (pa_cons (pv 10) (pa_cons (pv 9) (pa_cons (pv 4) (pa_cons (pv 5) pa_nil))))) (pv 7) (nomark _))) (fun _ _ _ _ _ => (pv 10))) (pe_lst pa_nil) (nomark _)) (pss_one (ps_set (i := 8) sc_law.nd rfl (Or.inl rfl) (pv 9))) pss_nil)))
      (pss_cons (ps_if (pt_cmpR op_ne (pe_callB call_reprV (by rfl) T.b_repr (by decide +kernel) (pa_cons (pe_fn T.F_safe_top (hr.mono (by decide)) (by rfl) (pa_cons (pv 4) (pa_cons (pv 5) (pa_cons (pv 7) (pa_cons (pv 6) pa_nil))))) pa_nil)) (pe_callB call_reprV (by rfl) T.b_repr (by decide +kernel) (pa_cons (pv 8) pa_nil)) (nomark _)) (pss_one (ps_ret pe_bl)) pss_nil)
      (pss_cons (ps_set (i := 11) sc_law.nd rfl (Or.inl rfl) (pe_new T.M_Rule (hr.mono (by decide)) (by rfl) (pa_cons pe_int (pa_cons pe_int (pa_cons pe_int (pa_cons pe_int (pa_cons pe_int (pa_cons pe_int (pa_cons pe_str (pa_cons (pe_ifExp (pt_cmp (pc_isN (pv 8))) (pv 4) (pv 8)) (pa_cons (pv 4) (pa_cons (pv 5) (pa_cons pe_str pa_nil)))))))))))))
      (pss_one (ps_for PassesOwn.never rfl (pi_tup (pe_tup (pa_cons (pv 6) (pa_cons (pe_op op_add (pv 6) pe_int) (pa_cons (pe_op op_add (pv 6) pe_int) pa_nil))))) (pg_name (i := 10) sc_law.nd rfl (Or.inl rfl)) (pss_cons (ps_if (pt_cmpR op_ne (pe_mt T.m_Rule_limit (hr.mono (by decide)) (pv 11) (pa_cons (pv 10) pa_nil)) (pe_op op_sub (pv 10) (pe_fn T.F__law_left (hr.mono (by decide)) (by rfl) (pa_cons (pv 10) (pa_cons (pe_fld (pv 11) rfl) (pa_cons (pv 4) (pa_cons (pv 5) pa_nil)))))) (nomark _)) (pss_one (ps_ret pe_bl)) pss_nil)
      (pss_one (ps_if (PW.pt (pw_and (pt_cmp (pc_notN (pv 8))) (pw_and1 (pt_cmpR op_lt (pe_op op_sub (pv 10) (pe_mt T.m_Rule_limit (hr.mono (by decide)) (pv 11) (pa_cons (pv 10) pa_nil))) (pv 7) (nomark _))))) (pss_one (ps_ret pe_bl)) pss_nil))))))))))))))))
      (pss_one (ps_ret (pe_and (pe_cmpR op_eq (pe_fn T.F_safe_top (hr.mono (by decide)) (by rfl) (pa_cons pe_int (pa_cons pe_bl (pa_cons pe_int (pa_cons pe_int pa_nil))))) pe_int (nomark _)) (pe_and (pe_cmpR op_eq (pe_fn T.F_safe_top (hr.mono (by decide)) (by rfl) (pa_cons pe_int (pa_cons pe_bl (pa_cons pe_int (pa_cons pe_int pa_nil))))) pe_int (nomark _)) (pe_one (pe_cmp (pc_isN (pe_fn T.F_safe_top (hr.mono (by decide)) (by rfl) (pa_cons pe_int (pa_cons pe_bl (pa_cons pe_int (pa_cons pe_int pa_nil)))))) rfl))))))), ?_⟩
    refine x_cut (fun σ' H' => ∃ x1 x2 x3 x4 x5 x6 x7 x8 x9 x10 x11, σ' = [some (.ref a), x1, x2, x3, x4, x5, x6, x7, x8, x9, x10, x11]) (fun nn hn => ?_) ?_
    · walk_at "y"
      refine ⟨_, _, rfl, .inl hS, ?_⟩
      walk_at "y"
      generalize hM : (if (if (((ns.map V.int).length : Nat) : Int) < 3 then (((ns.map V.int).length : Nat) : Int) else 3) > 1 then (if (((ns.map V.int).length : Nat) : Int) < 3 then (((ns.map V.int).length : Nat) : Int) else 3) else 1) = M
      have hM3 : M ≤ 3 := by rw [← hM]; repeat' split
                             all_goals omega
      have hM1 : 1 ≤ M := by rw [← hM]; repeat' split
                             all_goals omega
      refine ⟨by omega, by omega, turns_range (fun i σ' H' => (∃ x1 x2 x3 x4 x5 x6 x7 x8 x9 x10 x11, σ' = [some (.ref a), x1, x2, x3, x4, x5, x6, x7, x8, x9, x10, x11]) ∧ SqL K H' a (ns.map V.int)) ⟨⟨none, none, none, none, none, none, none, none, none, none, none, rfl⟩, hS⟩ ?_ (fun σ' H' h => hn _ _ h.1)⟩
      rintro i σ' H hi ⟨⟨x1, x2, x3, x4, x5, x6, x7, x8, x9, x10, x11, rfl⟩, hS⟩
      clear hn k
      walk_at "y"
      refine ⟨a, ns, _, rfl, hS, hlen, by omega, by omega, fun d H0 e0 D0 => ?_⟩
      replace hS := ex_l e0 hS
      walk_at "y"
      refine ⟨by decide, by decide, turns_range (fun j σ' H' => (∃ x3 x4 x5 x6 x7 x8 x9 x10 x11, σ' = [some (.ref a), some (.int (0 + (i : Int))), some (.ref d), x3, x4, x5, x6, x7, x8, x9, x10, x11]) ∧ Box P w H' d ∧ SqL K H' a (ns.map V.int)) ⟨⟨_, _, _, _, _, _, _, _, _, rfl⟩, D0, hS⟩ ?_ (fun σ' H' h => ⟨by obtain ⟨⟨x3, x4, x5, x6, x7, x8, x9, x10, x11, rfl⟩, _⟩ := h; exact ⟨_, _, _, _, _, _, _, _, _, _, _, rfl⟩, h.2.2⟩)⟩
      rintro j σ' H hj ⟨⟨x3, x4, x5, x6, x7, x8, x9, x10, x11, rfl⟩, D, hS⟩
      clear D0 e0
      walk_at "y"
      refine ⟨d, _, rfl, D, by decide, by decide, fun un Hun un0 un1 eun => ?_⟩
      have Dun := D.mono eun
      walk_at "y"
      refine ⟨d, _, rfl, Dun, by decide, by decide, fun bb Hbb bb0 bb1 ebb => ?_⟩
      have Dbb := Dun.mono ebb
      walk_at "y"
      refine ⟨by show 2 ≤ sizeLine; decide, fun tt htt => ?_⟩
      generalize hU : 1 + un = u
      have u1 : 1 ≤ u := by omega
      have u2 : u ≤ 20 := by omega
      generalize decide (V.int bb = V.int 0) = up
      refine x_gtup (SqT.of upd_same) rfl ?_
      obtain ⟨H2, hH2, e2⟩ : ∃ H2, upd Hbb tt (.tup [.int u, .bl up]) = H2 ∧ Ex Hbb H2 := ⟨_, rfl, Ex.new htt⟩
      rw [hH2]
      clear hH2 htt
      replace Dbb := Dbb.mono e2
      walk_at "y"
      refine ⟨by show 2 ≤ sizeLine; decide, fun l1 hl1 => ?_⟩
      obtain ⟨H3, hH3, e3, L3'⟩ : ∃ H3, upd H2 l1 (.lst [.int 6, .int 50]) = H3 ∧ Ex H2 H3 ∧ H3 l1 = some (.lst [.int 6, .int 50]) := ⟨_, rfl, Ex.new hl1, upd_same⟩
      rw [hH3]
      clear hH3 hl1
      have D3 := Dbb.mono e3
      walk_at "y"
      refine ⟨d, l1, _, rfl, D3, SqL.of L3', by decide, by decide, fun i1 x1 H4 hx1 e4 => ?_⟩
      obtain ⟨w1, rfl, hw1⟩ := two_at hx1
      have D4 := D3.mono e4
      walk_at "y"
      refine ⟨d, _, rfl, D4, by omega, by omega, fun ss Hss ss0 ss1 ess => ?_⟩
      have Dss := D4.mono ess
      walk_at "y"
      generalize hSt : 1 + ss = st
      have s1 : 1 ≤ st := by omega
      have s2 : st ≤ 50 := by omega
      walk_at "y"
      refine ⟨by show 3 ≤ sizeLine; decide, fun l2 hl2 => ?_⟩
      generalize hmn : (if st + 2 < 51 then st + 2 else 51) = mn
      have hmn1 : 1 ≤ mn ∧ mn ≤ 51 := by rw [← hmn]; split <;> omega
      obtain ⟨H5, hH5, e5, L5⟩ : ∃ H5, upd Hss l2 (.lst [.int 3, .int mn, .int 51]) = H5 ∧ Ex Hss H5 ∧ H5 l2 = some (.lst [.int 3, .int mn, .int 51]) := ⟨_, rfl, Ex.new hl2, upd_same⟩
      rw [hH5]
      clear hH5 hl2
      have D5 := Dss.mono e5
      walk_at "y"
      refine ⟨d, l2, _, rfl, D5, SqL.of L5, by simp, by simp, fun i2 x2 H6 hx2 e6 => ?_⟩
      obtain ⟨w2, rfl, hw2⟩ := three_at hx2
      have D6 := D5.mono e6
      walk_at "y"
      refine ⟨d, _, rfl, D6, by omega, by omega, fun sp Hsp sp0 sp1 esp => ?_⟩
      have Dsp := D6.mono esp
      walk_at "y"
      replace hS : SqL K Hsp a (ns.map V.int) := ex_l (eun.trans (ebb.trans (e2.trans (e3.trans (e4.trans (ess.trans (e5.trans (e6.trans esp)))))))) hS
      clear L3' L5 hx1 hx2 D D3 D4 D5 D6 Dun Dbb Dss e2 e3 e4 e5 e6 eun ebb ess esp
      walk_at "y"
      refine x_cut (fun σ' H' => ∃ x9 x10, σ' = [some (.ref a), some (.int (0 + (i : Int))), some (.ref d), some (.int (0 + (j : Int))), some (.int u), some (.bl up), some (.int st), some (.int sp), some (lastV (enough u up sp st) (u + 1).toNat), x9, x10, x11] ∧ Ex Hsp H') (fun nn hn => ?_) ?_
      · walk_at "x"
        refine ⟨by omega, by omega, turns_range (fun j2 σ' H' => ∃ x9 x10, σ' = [some (.ref a), some (.int (0 + (i : Int))), some (.ref d), some (.int (0 + (j : Int))), some (.int u), some (.bl up), some (.int st), some (.int sp), some (lastV (enough u up sp st) j2), x9, x10, x11] ∧ Ex Hsp H') ⟨_, _, rfl, Ex.refl _⟩ ?_ (fun σ' H' h => hn _ _ h)⟩
        rintro j2 σ' H' hj2 ⟨x9, x10, rfl, e⟩
        walk_at "x"
        refine ⟨_, _, rfl, ⟨by omega, by omega, by omega, by omega⟩, ?_⟩
        rw [show (st + 90 - st).toNat = 90 by omega]
        refine comp_rangeP (fun kk => decide (leftOf (st + (kk : Int)) j2 u up < sp)) (fun kk => st + (kk : Int)) (by decide) (fun _ => rfl) (fun kk H' hk e KT kt => ?_) (fun kk H' hk hp e KY ky => ?_) (fun Dd H2 hD e2 hl => ?_)
        · walk_at "x"
          refine ⟨st + (kk : Int), 0 + (j2 : Int), u, up, rfl, by omega, by omega, by omega, by omega, u1, by omega, ?_⟩
          walk_at "x"
          rw [show (0 : Int) + (j2 : Int) = (j2 : Int) by omega]
          exact kt _ (Ex.refl _)
        · walk_at "x"
          exact ky
        · walk_at "x"
          refine ⟨Nat.zero_le _, fun q hq => ?_⟩
          refine x_eqInts (ms := []) (Ex.new hq _ _ hl) upd_same ?_
          rw [enough_all u1 (by omega)]
          walk_at "x"
          have eN : Ex Hsp (upd H2 q (.lst [])) := e.trans (e2.trans (Ex.new hq))
          refine ifc (fun h => ?_) (fun h => ?_)
          · walk_at "x"
            have : lastV (enough u up sp st) (j2 + 1) = .int (0 + (j2 : Int)) := by unfold lastV lastP; rw [if_pos h, Int.zero_add]
            rw [← this]
            exact ⟨_, _, rfl, eN⟩
          · walk_at "x"
            have : lastV (enough u up sp st) (j2 + 1) = lastV (enough u up sp st) j2 := by unfold lastV; rw [lastP, if_neg (by rw [h]; decide)]
            rw [← this]
            exact ⟨_, _, rfl, eN⟩
      rintro σ' H6 ⟨x9, x10, rfl, e6⟩
      replace hS := ex_l e6 hS
      replace Dsp := Dsp.mono e6
      refine x_cutE (fun nn hn => ?_) (fun H7 e7 => ?_)
      · walk_at "x"
        refine ⟨u, sp, st, up, rfl, by omega, by omega, u1, by omega, fun H7 e7 => ?_⟩
        walk_at "x"
        refine ⟨_, rfl, lastV_plain _ (by omega), ?_⟩
        walk_at "x"
        refine ⟨_, rfl, lastV_plain _ (by omega), ?_⟩
        walk_at "x"
        refine iteN (by simp) ?_
        walk_at "x"
        exact hn _ e7
      have D7 := Dsp.mono e7
      have S7 := ex_l e7 hS
      clear Dsp hS
      unfold lastV
      cases hq : lastP (enough u up sp st) (u + 1).toNat with
      | none =>
        walk_at "y"
        refine iteP rfl ?_
        walk_at "y"
        intro p9 dx9 hx9 hdx9 ne9
        refine ⟨p9, dx9, ⟨1, 1, 1, 0, 1, 0, "open", u, u, up, "no"⟩, rfl, (by constructor <;> dsimp only <;> first | omega | decide +kernel), upd_same, rfl, ?_⟩
        obtain ⟨H9, hH9, e9, R9⟩ := rule_heap (C := He.ga K "Rule") ⟨1, 1, 1, 0, 1, 0, "open", u, u, up, "no"⟩ hx9 hdx9
        rw [hH9]
        clear hH9
        walk_at "x"
        refine ⟨by show 3 ≤ sizeLine; decide, fun q hq => ⟨q, rfl, ⟨_, SqT.of upd_same⟩, ?_⟩⟩
        obtain ⟨H10, hH10, e10, L10⟩ : ∃ H10, upd H9 q (.tup [.int st, .int (st + 1), .int (st + 7)]) = H10 ∧ Ex H9 H10 ∧ H10 q = some (.tup [.int st, .int (st + 1), .int (st + 7)]) := ⟨_, rfl, Ex.new hq, upd_same⟩
        rw [hH10]
        clear hH10
        have R10 := R9.mono e10
        have D10 := (D7.mono e9).mono e10
        have S10 := ex_l e10 (ex_l e9 S7)
        refine turns_tup (K := K) (xs := [.int st, .int (st + 1), .int (st + 7)]) (fun j2 σ' H' => (∃ x9 x10, σ' = [some (.ref a), some (.int (0 + (i : Int))), some (.ref d), some (.int (0 + (j : Int))), some (.int u), some (.bl up), some (.int st), some (.int sp), some (.non), x9, x10, some (.ref p9)]) ∧ H' = H10) ⟨⟨_, _, rfl⟩, rfl⟩ (fun j2 σ' H' _ z => by rw [z.2]; exact SqT.of L10) ?_ ?_
        · rintro j2 y σ' H' hj ⟨⟨x9, x10, rfl⟩, hH⟩
          rw [hH]
          obtain ⟨n, rfl, hn⟩ := three_at hj
          obtain ⟨dx, hp⟩ := R10
          walk_at "x"
          refine ⟨_, dx, _, rfl, hp, rfl, ?_⟩
          walk_at "x"
          refine ⟨_, _, _, rfl, ⟨dx, hp⟩, (by constructor <;> dsimp only <;> first | omega | decide +kernel), ?_⟩
          walk_at "x"
          refine ⟨_, _, dx, _, _, rfl, hp, T.c_Rule, T.n_Rule_top, rfl, ?_⟩
          walk_at "x"
          refine ⟨n, u, u, up, rfl, by omega, by omega, by omega, by omega, u1, by omega, ?_⟩
          walk_at "x"
          refine iteN (by show (!decide (V.int (partOf n (u) u up) = V.int (n - leftOf n (u) u up))) = false; unfold leftOf; rw [show n - (n - partOf n (u) u up) = partOf n (u) u up by omega]; simp) ?_
          walk_at "x"
          refine iteN (by rfl) ?_
          walk_at "x"
          exact ⟨⟨_, _, rfl⟩, rfl⟩
        · rintro σ' H' ⟨⟨x9, x10, rfl⟩, hH⟩
          rw [hH]
          exact ⟨⟨_, _, _, _, _, _, _, _, _, rfl⟩, D10, S10⟩
      | some x =>
        obtain ⟨x1, x2, _⟩ := lastP_some hq
        have x2 : sp ≤ leftOf st x u up := by simpa [enough] using x2
        walk_at "y"
        refine iteN rfl ?_
        walk_at "y"
        intro p9 dx9 hx9 hdx9 ne9
        refine ⟨p9, dx9, ⟨1, 1, 1, 0, 1, 0, "open", (x : Int), u, up, "no"⟩, rfl, (by constructor <;> dsimp only <;> first | omega | decide +kernel), upd_same, rfl, ?_⟩
        obtain ⟨H9, hH9, e9, R9⟩ := rule_heap (C := He.ga K "Rule") ⟨1, 1, 1, 0, 1, 0, "open", (x : Int), u, up, "no"⟩ hx9 hdx9
        rw [hH9]
        clear hH9
        walk_at "x"
        refine ⟨by show 3 ≤ sizeLine; decide, fun q hq => ⟨q, rfl, ⟨_, SqT.of upd_same⟩, ?_⟩⟩
        obtain ⟨H10, hH10, e10, L10⟩ : ∃ H10, upd H9 q (.tup [.int st, .int (st + 1), .int (st + 7)]) = H10 ∧ Ex H9 H10 ∧ H10 q = some (.tup [.int st, .int (st + 1), .int (st + 7)]) := ⟨_, rfl, Ex.new hq, upd_same⟩
        rw [hH10]
        clear hH10
        have R10 := R9.mono e10
        have D10 := (D7.mono e9).mono e10
        have S10 := ex_l e10 (ex_l e9 S7)
        refine turns_tup (K := K) (xs := [.int st, .int (st + 1), .int (st + 7)]) (fun j2 σ' H' => (∃ x9 x10, σ' = [some (.ref a), some (.int (0 + (i : Int))), some (.ref d), some (.int (0 + (j : Int))), some (.int u), some (.bl up), some (.int st), some (.int sp), some (.int (x : Int)), x9, x10, some (.ref p9)]) ∧ H' = H10) ⟨⟨_, _, rfl⟩, rfl⟩ (fun j2 σ' H' _ z => by rw [z.2]; exact SqT.of L10) ?_ ?_
        · rintro j2 y σ' H' hj ⟨⟨x9, x10, rfl⟩, hH⟩
          rw [hH]
          obtain ⟨n, rfl, hn⟩ := three_at hj
          obtain ⟨dx, hp⟩ := R10
          walk_at "x"
          refine ⟨_, dx, _, rfl, hp, rfl, ?_⟩
          walk_at "x"
          refine ⟨_, _, _, rfl, ⟨dx, hp⟩, (by constructor <;> dsimp only <;> first | omega | decide +kernel), ?_⟩
          walk_at "x"
          refine ⟨_, _, dx, _, _, rfl, hp, T.c_Rule, T.n_Rule_top, rfl, ?_⟩
          walk_at "x"
          refine ⟨n, (x : Int), u, up, rfl, by omega, by omega, by omega, by omega, u1, by omega, ?_⟩
          walk_at "x"
          refine iteN (by show (!decide (V.int (partOf n ((x : Int)) u up) = V.int (n - leftOf n ((x : Int)) u up))) = false; unfold leftOf; rw [show n - (n - partOf n ((x : Int)) u up) = partOf n ((x : Int)) u up by omega]; simp) ?_
          walk_at "x"
          refine iteP (by rfl) ?_
          walk_at "x"
          refine ⟨_, dx, _, rfl, hp, rfl, ?_⟩
          walk_at "x"
          refine ⟨_, _, _, rfl, ⟨dx, hp⟩, (by constructor <;> dsimp only <;> first | omega | decide +kernel), ?_⟩
          walk_at "x"
          refine iteN (decide_eq_false (by have := left_mono (up := up) u1 (show (x : Int) ≤ u by omega) (show st ≤ n by omega); show ¬ (n - partOf n x u up < sp); unfold leftOf at *; omega)) ?_
          walk_at "x"
          exact ⟨⟨_, _, rfl⟩, rfl⟩
        · rintro σ' H' ⟨⟨x9, x10, rfl⟩, hH⟩
          rw [hH]
          exact ⟨⟨_, _, _, _, _, _, _, _, _, rfl⟩, D10, S10⟩
    · rintro σ' H' ⟨x1, x2, x3, x4, x5, x6, x7, x8, x9, x10, x11, rfl⟩
      walk_at "x"
      refine ⟨1, 0, 1, true, rfl, by decide, by decide, by decide, by decide, fun H1 e1 => ?_⟩
      rw [show lastV (enough 1 true 0 1) ((1 : Int) + 1).toNat = .int 1 by unfold lastV; rw [show lastP (enough 1 true 0 1) ((1 : Int) + 1).toNat = some 1 by decide +kernel]; rfl]
      walk_at "x"
      refine iteP (by decide) ?_
      walk_at "x"
      refine ⟨1, 1, 1, false, rfl, by decide, by decide, by decide, by decide, fun H2 e2 => ?_⟩
      rw [show lastV (enough 1 false 1 1) ((1 : Int) + 1).toNat = .int 0 by unfold lastV; rw [show lastP (enough 1 false 1 1) ((1 : Int) + 1).toNat = some 0 by decide +kernel]; rfl]
      walk_at "x"
      refine iteP (by decide) ?_
      walk_at "x"
      refine ⟨20, 50, 49, true, rfl, by decide, by decide, by decide, by decide, fun H3 e3 => ?_⟩
      rw [show lastV (enough 20 true 50 49) ((20 : Int) + 1).toNat = .non by unfold lastV; rw [show lastP (enough 20 true 50 49) ((20 : Int) + 1).toNat = none by decide +kernel]]
      exact k _

end
end L3
namespace L3
open PySem PySem.Spec PyProof.Rows L2
def fxs : List Fx := [.fa (.free "len"), .fa (.free "int"), .fa (.free "abs"), .fa (.glo "_law_take"), .fa (.glo "_law_feed"), .fa (.glo "_law_pick"), .fa (.free "isinstance"), .fa (.free "bool"), .fa (.free "str"), .fa (.glo "is_integer"), .fa (.glo "is_number"), .fa (.glo "is_from"), .fa (.glo "is_word"), .fa (.noat "Rule" "need"), .fa (.noat "Rule" "of"), .fa (.noat "Rule" "base"), .fa (.noat "Rule" "more"), .fa (.noat "Rule" "most"), .fa (.noat "Rule" "calm"), .fa (.noat "Rule" "back"), .fa (.noat "Rule" "top"), .fa (.noat "Rule" "under"), .fa (.noat "Rule" "up"), .fa (.noat "Rule" "hears"), .fa (.noat "Rule" "cap"), .fa (.cls "Rule"), .fa (.glo "BACKS"), .tup "BACKS" [.str "half", .str "open", .str "trial"], .fa (.glo "HEARD"), .tup "HEARD" [.str "fault", .str "no", .str "out"], .fa (.glo "wrong_number"), .fa (.glo "wrong_word"), .fa (.glo "Rule"), .fa (.mkr "Rule"), .fa (.meth "Rule" "limit"), .fa (.free "range"), .fa (.free "max"), .fa (.free "min"), .fa (.free "repr"), .fa (.glo "_law_left"), .fa (.glo "spared"), .fa (.glo "safe_top"), .fa (.glo "law")]
def fns : List He5.DefA := [gdef "_law_take" s__law_take, gdef "_law_feed" s__law_feed, gdef "_law_pick" s__law_pick, gdef "is_integer" s_is_integer, gdef "is_number" s_is_number, gdef "is_from" s_is_from, gdef "is_word" s_is_word, gdef "wrong_number" s_wrong_number, gdef "wrong_word" s_wrong_word, mdef "Rule" "__init__" "Rule.__init__" s_Rule___init__, mdef "Rule" "limit" "Rule.limit" s_Rule_limit, gdef "_law_left" s__law_left, gdef "spared" s_spared, gdef "safe_top" s_safe_top, gdef "law" s_law]
def exs (K : PySem.W.Frag) : Bool := fxs.all fun f => f.ok K
abbrev hR : PySem.W.OpenRow := PySem.W.OpenLaw.row PySem.Challenge.rw_sitout_k60_shares_that_leave_enough
def htabs : Tabs := []
abbrev hk : PySem.W.Hook := hookW 4 exs fns htabs
def hob (s : PySem.W.SharedT) : hk.α := obsWG 4 exs fns htabs (HandSHeadRun.getT s)
theorem hob_eq (s : PySem.W.SharedT) : hob s = hk.obs s.abs := obsWG_eq (HandSHeadRun.getT_eq s)
def hnm0 : List PySem.Str := ["_wall", "__name__", "SitError", "InvalidRule", "InvalidText", "DIGITS", "is_integer", "is_number", "is_from", "is_word", "number_in", "BACKS", "HEARD", "ROUNDS", "wrong_number", "wrong_word", "numbers_in", "share_in", "Rule", "words_between", "spared", "safe_top", "_law_feed", "_law_take", "_law_pick", "_law_left"]
def hnames : List PySem.Str := hnm0
theorem hrunA (w : World) : HandSHeadRun.RunEq hR (PySem.W.view hR.prog [30]) hk hob 8000 hnames (w.withFollow "special-get-raises" false) := by
  intro os
  kernel_rfl
theorem hrunB (w : World) : HandSHeadRun.RunEq hR (PySem.W.view hR.prog [30]) hk hob 8000 hnames (w.withFollow "special-get-raises" true) := by
  intro os
  kernel_rfl
theorem hrun (w : World) : HandSHeadRun.RunEq hR (PySem.W.view hR.prog [30]) hk hob 8000 hnames w := PySem.W.byRow2 "special-get-raises" hrunA hrunB w
theorem tx_of {w : World} {K : PySem.W.Frag} {h : Heap} {mg : Str → Option Value} (X : K.In h) (G : h.Ns mainGlobals mg) (c : SaysW exs fns htabs w K) : Tx w K mg := by
  have s := c.b
  have hx : (fxs.all fun f => f.ok K) = true := s.fx
  exact ⟨He.free_ok X G (fx_at hx 0 (f := .fa (.free "len"))), He.free_ok X G (fx_at hx 1 (f := .fa (.free "int"))), He.free_ok X G (fx_at hx 2 (f := .fa (.free "abs"))), df_of X G (fx_at hx 3 (f := .fa (.glo "_law_take"))) s 0, df_of X G (fx_at hx 4 (f := .fa (.glo "_law_feed"))) s 1, df_of X G (fx_at hx 5 (f := .fa (.glo "_law_pick"))) s 2, He.free_ok X G (fx_at hx 6 (f := .fa (.free "isinstance"))), He.free_ok X G (fx_at hx 7 (f := .fa (.free "bool"))), He.free_ok X G (fx_at hx 8 (f := .fa (.free "str"))), df_of X G (fx_at hx 9 (f := .fa (.glo "is_integer"))) s 3, df_of X G (fx_at hx 10 (f := .fa (.glo "is_number"))) s 4, df_of X G (fx_at hx 11 (f := .fa (.glo "is_from"))) s 5, df_of X G (fx_at hx 12 (f := .fa (.glo "is_word"))) s 6, He.noat_ok (fx_at hx 13 (f := .fa (.noat "Rule" "need"))), He.noat_ok (fx_at hx 14 (f := .fa (.noat "Rule" "of"))), He.noat_ok (fx_at hx 15 (f := .fa (.noat "Rule" "base"))), He.noat_ok (fx_at hx 16 (f := .fa (.noat "Rule" "more"))), He.noat_ok (fx_at hx 17 (f := .fa (.noat "Rule" "most"))), He.noat_ok (fx_at hx 18 (f := .fa (.noat "Rule" "calm"))), He.noat_ok (fx_at hx 19 (f := .fa (.noat "Rule" "back"))), He.noat_ok (fx_at hx 20 (f := .fa (.noat "Rule" "top"))), He.noat_ok (fx_at hx 21 (f := .fa (.noat "Rule" "under"))), He.noat_ok (fx_at hx 22 (f := .fa (.noat "Rule" "up"))), He.noat_ok (fx_at hx 23 (f := .fa (.noat "Rule" "hears"))), He.noat_ok (fx_at hx 24 (f := .fa (.noat "Rule" "cap"))), He.cls_ok (fx_at hx 25 (f := .fa (.cls "Rule"))), He.glo_ok X G (fx_at hx 26 (f := .fa (.glo "BACKS"))), fun H => He.tupB_ok (fx_at hx 27 (f := .tup "BACKS" [.str "half", .str "open", .str "trial"])) H, He.glo_ok X G (fx_at hx 28 (f := .fa (.glo "HEARD"))), fun H => He.tupB_ok (fx_at hx 29 (f := .tup "HEARD" [.str "fault", .str "no", .str "out"])) H, df_of X G (fx_at hx 30 (f := .fa (.glo "wrong_number"))) s 7, df_of X G (fx_at hx 31 (f := .fa (.glo "wrong_word"))) s 8, ki_of X G (fx_at hx 32 (f := .fa (.glo "Rule"))) (fx_at hx 25 (f := .fa (.cls "Rule"))) (fx_at hx 33 (f := .fa (.mkr "Rule"))) s 9, md_of (fx_at hx 34 (f := .fa (.meth "Rule" "limit"))) s 10, He.free_ok X G (fx_at hx 35 (f := .fa (.free "range"))), He.free_ok X G (fx_at hx 36 (f := .fa (.free "max"))), He.free_ok X G (fx_at hx 37 (f := .fa (.free "min"))), He.free_ok X G (fx_at hx 38 (f := .fa (.free "repr"))), df_of X G (fx_at hx 39 (f := .fa (.glo "_law_left"))) s 11, df_of X G (fx_at hx 40 (f := .fa (.glo "spared"))) s 12, df_of X G (fx_at hx 41 (f := .fa (.glo "safe_top"))) s 13, df_of X G (fx_at hx 42 (f := .fa (.glo "law"))) s 14⟩
theorem facts {P : Program} {w : World} {K : PySem.W.Frag} {h : Heap} {mg : Str → Option Value} {f : Addr} (X : K.In h) (G : h.Ns mainGlobals mg) (hfa : mg ("law" : Str) = some (.ref f)) (c : SaysW exs fns htabs w K) :
    ∃ fd : FuncData, (∀ (s : Shared) (v : Value), BindsTo s fd ⟨[v], []⟩ [("_law_script", v)]) ∧ ∀ base : Heap, K.In base → base.Ns mainGlobals mg → FnOk P w K mg base CX0 7 f fd ["_law_script"] (spLaw K) := by
  have T := tx_of X G c
  obtain ⟨f1, fd, F, g⟩ := T.d_law.ex
  have e := hfa.symm.trans g
  cases e
  have b := F.binds (ps := ["_law_script"]) fun _ _ _ _ _ _ us hl => match us, hl with | [_], _ => rfl
  refine ⟨fd, fun s v => ?_, fun base _ _ => ?_⟩
  · obtain ⟨oc, od, kV, doc, pm, an, cdv, ct, osl, rfl, lk, hcd⟩ := F.ex
    exact .of_eq rfl
  · exact Tx.law_ok T F
end L3
open PySem PySem.W PySem.Calls PyProof.Rows in
set_option maxRecDepth 100000 in
set_option maxHeartbeats 0 in
theorem PySem.Challenge.cw_sitout_k60_shares_that_leave_enough_holds : PySem.Challenge.rw_sitout_k60_shares_that_leave_enough.Holds := by
  w_on; o_law
  refine HandSHeadRun.head_any (r := OpenLaw.row PySem.Challenge.rw_sitout_k60_shares_that_leave_enough) (q := view (OpenLaw.row PySem.Challenge.rw_sitout_k60_shares_that_leave_enough).prog [30]) (H := L3.hk) (ob := L3.hob) (M := 8000) (loose := L3.hnames) (d := HandSHeadRun.topDef (OpenLaw.row PySem.Challenge.rw_sitout_k60_shares_that_leave_enough).prog 30) (kwd := []) L3.hob_eq
    (by kernel_rfl) (fun s => by kernel_rfl) L3.hrun (by kernel_rfl) (by kernel_rfl) (by kernel_rfl) (by rfl) (by first | assumption | decide +kernel) (by decide +kernel) ⟨rfl, rfl, rfl, rfl, rfl, by decide +kernel⟩ ?hw ?hc
  case hw => w_witness2
  case hc =>
    refine L2.walk_ofE (l := PySem.Challenge.rw_sitout_k60_shares_that_leave_enough) (n := 63) (k := 7) (x := "_law_script") (CX := L2.CX0) rfl (by decide) (by kernel_rfl) ⟨rfl, by decide, by decide⟩ ?F (fun _ _ _ _ z => z)
    intro w mg fa h Y G hmg0
    obtain ⟨K, KX, c⟩ := Y
    have hmg : mg ("law" : PySem.Str) = some (.ref fa) := by
      have e : (HandSHeadRun.topDef (OpenLaw.row PySem.Challenge.rw_sitout_k60_shares_that_leave_enough).prog 30).name = ("law" : PySem.Str) := by kernel_rfl
      rw [← e]
      exact hmg0
    obtain ⟨fd, hb, hF⟩ := L3.facts (P := (PySem.Challenge.rw_sitout_k60_shares_that_leave_enough).prog) (w := w) KX G hmg c
    exact ⟨K, fd, L3.spLaw K, KX, hb, fun H a ns hl _ hS => ⟨a, ns, rfl, hS, hl, fun _ => rfl⟩, hF⟩
#print axioms PySem.Challenge.cw_sitout_k60_shares_that_leave_enough_holds
