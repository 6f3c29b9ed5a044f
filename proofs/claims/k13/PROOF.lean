import PyProof.Rows.All
import Wide.All
import OpenK.AllK
import Wide.FinOn
import HandS.ForMost
import HandS.Evl
import HandS.Codes
import HandS.Defaults
import HandS.IsInst
import HandS.FStr
import KE.KStateDown
import Lean
import HandS.HeadEnd
import HandS.HeadNt
import HandS.HeadHook3
import HandS.Head0
import HandS.Head1
import HandS.Head2
import HandS.Style
import HandS.OwnEq
import KE.KCallOwn
import HandS.Star
import HandS.ClsMeth
import HandS.CallLocal
import KE.GoesNew
import KE.GoesEnum
import HandS.Walk
import HandS.Sort
import HandS.Conv
import HandS.RaiseMore
import HandS.WordsDict
import PySem.Challenge.RW_sitout_k13_whole_rules_and_their_parts
set_option Elab.async false
set_option linter.all false
set_option maxRecDepth 100000
set_option maxHeartbeats 4000000
namespace L3
open PySem L2 Evl
/-! objects of which an invariant alone is told -/
def Flat : HO → Prop
  | .lst _ => True
  | .dK _ => True
  | _ => False
def anyO (P : Program) (w : World) (S : HO → Prop) (a : Addr) : HO := .ext fun h => ∃ u, S u ∧ ObjOk P w (fun _ => none) h a u
section
variable {P : Program} {w : World} {H H' : Hp} {h h' : Heap} {a : Addr} {u : HO}
theorem flat_any (f : Flat u) (o : ObjOk P w H h a u) : ObjOk P w H' h a u := by
  cases u with
  | lst xs => exact o
  | dK kvs => exact o
  | _ => exact f.elim
theorem any_of {S : HO → Prop} (f : Flat u) (s : S u) (hf : ∀ u, S u → Flat u) (o : ObjOk P w H h a u) : ObjOk P w H' h a (anyO P w S a) := by
  refine ⟨⟨u, s, flat_any f o⟩, ?_, ?_⟩
  · cases u with
    | lst xs => obtain ⟨_, its, n, _, e⟩ := o; exact ⟨_, e⟩
    | dK kvs => obtain ⟨_, _, _, _, ob, _, _, e, _⟩ := o; exact ⟨_, e⟩
    | _ => exact f.elim
  · rintro h1 h2 ⟨u', s', o'⟩ k
    refine ⟨u', s', o'.stay (fun b v hb e => ?_) (fun b e => nomatch e) fun b xs e => nomatch e⟩
    rcases hb with rfl | hb
    · exact k v e
    · cases hb
end
/-- the same heap told by less: some lists and dicts by an invariant alone -/
def Abs (P : Program) (w : World) (H H' : Hp) : Prop := ∀ a, H' a = H a ∨ ∃ u S, H a = some u ∧ (∀ u, S u → Flat u) ∧ S u ∧ H' a = some (anyO P w S a)
section
variable {P : Program} {w : World} {H H' H0 : Hp} {h h0 : Heap}
theorem Abs.hok (b : Abs P w H H') (o : HOk P w H h) : HOk P w H' h := fun a u e => by
  have ho : ∀ c y, H c = some (.own y) → H' c = some (.own y) := fun c y q => by
    rcases b c with z | ⟨u, S, e1, f, s, e2⟩
    · rw [z]; exact q
    · rw [q] at e1; cases e1; exact (f _ s).elim
  have ht : ∀ c xs, H c = some (.tup xs) → H' c = some (.tup xs) := fun c y q => by
    rcases b c with z | ⟨u, S, e1, f, s, e2⟩
    · rw [z]; exact q
    · rw [q] at e1; cases e1; exact (f _ s).elim
  rcases b a with z | ⟨u', S, e1, f, s, e2⟩
  · rw [z] at e
    exact (o a u e).stay (fun _ _ _ q => q) (fun c q => ho c a q) ht
  · rw [e2] at e
    cases e
    exact any_of (f _ s) s f (o a u' e1)
theorem Abs.un {fs ex : List Addr} (b : Abs P w H H') (u : Un fs ex H0 H h0 h) : Un fs ex H0 H' h0 h where
  keep := u.keep
  slot := u.slot
  free := fun c o q n hx => by
    have z := u.free c o q n hx
    rcases b c with r | ⟨_, _, e1, _⟩
    · rw [r]; exact z
    · rw [z] at e1; cases e1
  there := u.there
  tups := fun c xs q => by
    have z := u.tups c xs q
    rcases b c with r | ⟨_, _, e1, f, s, _⟩
    · rw [r]; exact z
    · rw [z] at e1; cases e1; exact (f _ s).elim
  frzs := fun c o v q => by
    have z := u.frzs c o v q
    rcases b c with r | ⟨_, _, e1, f, s, _⟩
    · rw [r]; exact z
    · rw [z] at e1; cases e1; exact (f _ s).elim
  tbls := fun c ps q => by
    obtain ⟨m, z⟩ := u.tbls c ps q
    rcases b c with r | ⟨_, _, e1, f, s, _⟩
    · exact ⟨m, by rw [r]; exact z⟩
    · rw [z] at e1; cases e1; exact (f _ s).elim
/-- an object told by its invariant is opened -/
theorem open_hok {a : Addr} {S : HO → Prop} (ha : H a = some (anyO P w S a)) (hf : ∀ u, S u → Flat u) (o : HOk P w H h) : ∃ u, S u ∧ HOk P w (upd H a u) h := by
  obtain ⟨⟨u, s, q⟩, _, _⟩ := o a _ ha
  have ne : ∀ b v, H b = some v → (∀ φ, v ≠ .ext φ) → b ≠ a := fun b v e n z => by
    rw [z, ha] at e; cases e; exact n _ rfl
  refine ⟨u, s, fun b v e => ?_⟩
  by_cases hb : b = a
  · subst hb
    rw [upd_same] at e
    cases e
    exact flat_any (hf _ s) q
  · rw [upd_ne hb] at e
    exact (o b v e).stay (fun _ _ _ q => q) (fun c q => by rw [upd_ne (ne c _ q (fun _ z => nomatch z))]; exact q) fun c xs q => by rw [upd_ne (ne c _ q (fun _ z => nomatch z))]; exact q
theorem open_un {fs ex : List Addr} {a : Addr} {S : HO → Prop} {u0 : HO} (ha : H0 a = some (anyO P w S a)) (x : Un fs ex (upd H0 a u0) H h0 h) : Un fs ex H0 H h0 h := by
  have ne : ∀ b v, H0 b = some v → (∀ φ, v ≠ .ext φ) → b ≠ a := fun b v e n z => by
    rw [z, ha] at e; cases e; exact n _ rfl
  have nn : ∀ b, H0 b = none → b ≠ a := fun b e z => by rw [z, ha] at e; cases e
  exact ⟨fun b o q n => x.keep b o q (by rw [upd_ne (nn b n)]; exact n), fun b o q n => x.slot b o q (by rw [upd_ne (nn b n)]; exact n), fun b o q n => x.free b o q (by rw [upd_ne (nn b n)]; exact n), x.there,
    fun b xs q => x.tups b xs (by rw [upd_ne (ne b _ q (fun _ z => nomatch z))]; exact q), fun b o v q => x.frzs b o v (by rw [upd_ne (ne b _ q (fun _ z => nomatch z))]; exact q), fun b ps q => x.tbls b ps (by rw [upd_ne (ne b _ q (fun _ z => nomatch z))]; exact q)⟩
end
section
variable {P : Program} {w : World} {K : PySem.W.Frag} {mg : Str → Option Value} {base : Heap} {k : Nat} {f : Addr} {fd : FuncData} {ps : List Str} {sp : Sp}
/-- what a def leaves may be told by less -/
theorem post (F : FnOk P w K mg base CX0 k f fd ps sp) : FnOk P w K mg base CX0 k f fd ps (fun vs H Q E => sp vs H (fun v H' => ∃ H'', Abs P w H' H'' ∧ Q v H'') E) := by
  refine ⟨fun vs H Q E q => F.len vs H _ E q, fun A outer s H args us vs Q E hr he hb hv hs => ?_⟩
  refine codeAny_mono (F.run A outer s H args us vs _ E hr he hb hv hs) fun r s' z => ?_
  cases r with
  | error e => exact z
  | ok fl =>
    cases fl with
    | ret u =>
      obtain ⟨v, H', e1, e2, un, ok, rv, H'', ab, q⟩ := z
      exact ⟨v, H'', e1, e2, ab.un un, ab.hok ok, rv, q⟩
    | _ => exact z
/-- an object told by an invariant is opened ahead of the call -/
def opened (P : Program) (w : World) (n : Nat) (sp : Sp) : Sp := fun vs H Q E => vs.length = n ∧ ∃ a S, H a = some (anyO P w S a) ∧ (∀ u, S u → Flat u) ∧ ∀ u, S u → sp vs (upd H a u) Q E
theorem pre (F : FnOk P w K mg base CX0 k f fd ps sp) : FnOk P w K mg base CX0 k f fd ps (opened P w ps.length sp) := by
  refine ⟨fun vs H Q E h => h.1, fun A outer s H args us vs Q E hr he hb hv hs => ?_⟩
  obtain ⟨_, a, S, ha, hf, hq⟩ := hs
  obtain ⟨u, su, ok⟩ := open_hok ha hf he.hok
  have nn : ∀ b, H b = none → b ≠ a := fun b e z => by rw [z, ha] at e; cases e
  have he' : Env0 P w K mg base A outer s (upd H a u) := ⟨he.frames, he.mod, fun b o q => ⟨(he.bs b o q).1, by rw [upd_ne (nn b (he.bs b o q).2)]; exact (he.bs b o q).2⟩, he.bsz, he.funs, fun b q => by rw [upd_ne (nn b (he.frf b q))]; exact he.frf b q, ok, he.bare⟩
  refine codeAny_mono (F.run A outer s (upd H a u) args us vs Q E hr he' hb hv (hq u su)) fun r s' z => ?_
  cases r with
  | error e => exact z.elim
  | ok fl =>
    cases fl with
    | ret u' =>
      obtain ⟨v, H', e1, e2, un, ok', rv, q⟩ := z
      exact ⟨v, H', e1, e2, open_un ha un, ok', rv, q⟩
    | _ => exact z
end
end L3

namespace L3
open PySem L2 Evl
/-! named readings of built-ins -/
def rInt1 : List V → Hp → VK → Prop := fun xs H Q => (∃ i, xs = [.int i] ∧ Q (.int i) H) ∨ ∃ k, xs = [.bl k] ∧ Q (.int (if k then 1 else 0)) H
theorem call_int1' {X : Cx} : CallR X (.type "int") rInt1 := call_int1
def rLenQ (K : PySem.W.Frag) : List V → Hp → VK → Prop := fun xs H Q => ∃ p ys, xs = [.ref p] ∧ (SqL K H p ys ∨ SqT K H p ys) ∧ Q (.int ys.length) H
theorem call_lenQ {X : Cx} : CallR X (.builtin "len") (rLenQ X.K) := call_len_seq
theorem boot_int : bootBuiltins "int" = some (.type "int") := by decide +kernel
/-! the steps of a walk over readings -/
section
variable {σ : L2.St} {H : Hp} {Q : VK} {D : Ends} {QT : Bool → Hp → Prop} {QA : List V → Hp → Prop} {K : PySem.W.Frag}
theorem x_seq {n r b c} {t u : TS} (k : t ⟨u ⟨n, r, b, c⟩, r, b, c⟩ σ H) : tSeq t u ⟨n, r, b, c⟩ σ H := k
theorem x_cut {n r b c} {t u : TS} (B : L2.St → Hp → Prop) (h1 : ∀ nn : L2.St → Hp → Prop, (∀ σ H, B σ H → nn σ H) → t ⟨nn, r, b, c⟩ σ H) (h2 : ∀ σ H, B σ H → u ⟨n, r, b, c⟩ σ H) : tSeq t u ⟨n, r, b, c⟩ σ H := h1 _ h2
theorem x_next {n r b c} (k : n σ H) : tNext ⟨n, r, b, c⟩ σ H := k
theorem x_brk {n r b c} (k : b σ H) : tBreak ⟨n, r, b, c⟩ σ H := k
theorem x_cont {n r b c} (k : c σ H) : tCont ⟨n, r, b, c⟩ σ H := k
theorem x_asg {n r b c} {te : TE} {i : Nat} (k : te σ H fun x H1 => n (σ.set i (some x)) H1) : tAsg te (gName i) ⟨n, r, b, c⟩ σ H := k
theorem x_drop {n r b c} {te : TE} (k : te σ H fun _ H1 => n σ H1) : tDrop te ⟨n, r, b, c⟩ σ H := k
theorem x_ret {n r b c} {te : TE} (k : te σ H r) : tRet te ⟨n, r, b, c⟩ σ H := k
theorem x_retN {n r b c} (k : r .non H) : tRetN ⟨n, r, b, c⟩ σ H := k
theorem x_ifs {n r b c} {cc : TT} {t u : TS} (k : cc σ H fun d H1 => if d = true then t ⟨n, r, b, c⟩ σ H1 else u ⟨n, r, b, c⟩ σ H1) : tIfS cc t u ⟨n, r, b, c⟩ σ H := k
theorem x_while {n r b c} {cc : TT} {tb : TS} (W : Nat → L2.St → Hp → Prop) (m : Nat) (h0 : W m σ H) (h : ∀ m σ H, W m σ H → cc σ H fun d H1 => if d = true then ∃ N : L2.St → Hp → Prop, (∀ σ' H', N σ' H' → ∃ m', m' < m ∧ W m' σ' H') ∧ tb ⟨N, r, n, N⟩ σ H1 else n σ H1) : tWhile cc tb ⟨n, r, b, c⟩ σ H :=
  ⟨W, ⟨m, h0⟩, h⟩
theorem x_turn {n r} {tb : TS} {W : Nat → L2.St → Hp → Prop} {m : Nat} (k : tb ⟨fun σ' H' => ∃ m', m' < m ∧ W m' σ' H', r, n, fun σ' H' => ∃ m', m' < m ∧ W m' σ' H'⟩ σ H) : ∃ N : L2.St → Hp → Prop, (∀ σ' H', N σ' H' → ∃ m', m' < m ∧ W m' σ' H') ∧ tb ⟨N, r, n, N⟩ σ H := ⟨_, fun _ _ q => q, k⟩
theorem x_var {i : Nat} {v : V} (h : σ[i]? = some (some v)) (k : Q v H) : tVar i σ H Q := ⟨v, h, k⟩
theorem x_c {v : V} (k : Q v H) : tC v σ H Q := k
theorem x_op {r : R2} {ta tb : TE} (k : ta σ H fun x H1 => tb σ H1 fun y H2 => r x y H2 Q) : tOp r ta tb σ H Q := k
theorem x_un {r : V → Hp → VK → Prop} {ta : TE} (k : ta σ H fun x H1 => r x H1 Q) : tUn r ta σ H Q := k
theorem x_I0 {g : Int → Int → V} {i j : Int} (k : Q (g i j) H) : rI0 g (.int i) (.int j) H Q := ⟨i, j, rfl, rfl, k⟩
theorem x_I {C : Int → Int → Prop} {g : Int → Int → V} {i j : Int} (c : C i j) (k : Q (g i j) H) : rI C g (.int i) (.int j) H Q := ⟨i, j, rfl, rfl, c, k⟩
theorem x_U {g : Int → V} {i : Int} (k : Q (g i) H) : rU g (.int i) H Q := ⟨i, rfl, k⟩
theorem x_eq {x y : V} (s : scal x y = true) (k : Q (.bl (decide (x = y))) H) : rEq x y H Q := ⟨s, k⟩
theorem x_ne {x y : V} (s : scal x y = true) (k : Q (.bl (!decide (x = y))) H) : rNe x y H Q := ⟨s, k⟩
theorem x_test {te : TE} (k : te σ H fun x H1 => ∃ c, x = .bl c ∧ QT c H1) : tTest te σ H QT := k
theorem x_tb {te : TE} (k : te σ H fun x H1 => ∃ c, x = .bl c ∧ QT c H1) : tB te σ H QT := k
theorem x_bl {c : Bool} (k : QT c H) : ∃ d, V.bl c = .bl d ∧ QT d H := ⟨c, rfl, k⟩
theorem x_and {t u : TT} (k : t σ H fun c H1 => if c = true then u σ H1 QT else QT false H1) : tAnd t u σ H QT := k
theorem x_or {t u : TT} (k : t σ H fun c H1 => if c = true then QT true H1 else u σ H1 QT) : tOr t u σ H QT := k
theorem x_not {t : TT} (k : t σ H fun c H1 => QT (!c) H1) : tNot t σ H QT := k
theorem x_if {t : TT} {ta tb : TE} (k : t σ H fun c H1 => if c = true then ta σ H1 Q else tb σ H1 Q) : tIf t ta tb σ H Q := k
theorem x_andV {ta tb : TE} (k : ta σ H fun x H1 => ∃ c, x = .bl c ∧ if c = true then tb σ H1 Q else Q (.bl false) H1) : tAndV ta tb σ H Q := k
theorem x_orV {ta tb : TE} (k : ta σ H fun x H1 => ∃ c, x = .bl c ∧ if c = true then Q (.bl true) H1 else tb σ H1 Q) : tOrV ta tb σ H Q := k
theorem x_notV {ta : TE} (k : ta σ H fun x H1 => ∃ c, x = .bl c ∧ Q (.bl (!c)) H1) : tNotV ta σ H Q := k
theorem x_blV {c : Bool} {R : Bool → Prop} (k : R c) : ∃ d, V.bl c = .bl d ∧ R d := ⟨c, rfl, k⟩
theorem x_isN {ta : TE} (k : ta σ H fun x H1 => Q (.bl (decide (x = .non))) H1) : tIsN ta σ H Q := k
theorem x_notN {ta : TE} (k : ta σ H fun x H1 => Q (.bl (!decide (x = .non))) H1) : tNotN ta σ H Q := k
theorem x_cb {r : List V → Hp → VK → Prop} {t : TA} (k : t σ H fun vs H1 => r vs H1 Q) : tCB r t σ H Q := k
theorem x_nil (k : QA [] H) : tNil σ H QA := k
theorem x_cons {te : TE} {tr : TA} (k : te σ H fun x H1 => tr σ H1 fun xs H2 => QA (x :: xs) H2) : tCons te tr σ H QA := k
theorem x_int1 {i : Int} (k : Q (.int i) H) : rInt1 [.int i] H Q := .inl ⟨i, rfl, k⟩
theorem x_int1b {b : Bool} (k : Q (.int (if b then 1 else 0)) H) : rInt1 [.bl b] H Q := .inr ⟨b, rfl, k⟩
theorem x_lenL {p : Addr} {ys : List V} (h : H p = some (.lst ys)) (k : Q (.int ys.length) H) : rLenQ K [.ref p] H Q := ⟨p, ys, rfl, .inl (SqL.of h), k⟩
theorem x_lenT {p : Addr} {ys : List V} (h : H p = some (.tup ys)) (k : Q (.int ys.length) H) : rLenQ K [.ref p] H Q := ⟨p, ys, rfl, .inr (SqT.of h), k⟩
theorem x_tup {t : TA} (k : t σ H fun xs H1 => xs.length ≤ sizeLine ∧ ∀ p, H1 p = none → Q (.ref p) (upd H1 p (.tup xs))) : tTup t σ H Q := k
theorem x_lst {t : TA} (k : t σ H fun xs H1 => xs.length ≤ sizeLine ∧ ∀ p, H1 p = none → Q (.ref p) (upd H1 p (.lst xs))) : tLst t σ H Q := k
theorem x_dget {td ty : TE} (k : td σ H fun x H1 => ty σ H1 fun y H2 => ∃ a v, x = .ref a ∧ DGet H2 a y (some v) ∧ Q v H2) : tDGet td ty σ H Q := k
theorem x_dgot {a : Addr} {y v : V} (h : DGet H a y (some v)) (k : Q v H) : ∃ a' v, V.ref a = .ref a' ∧ DGet H a' y (some v) ∧ Q v H := ⟨a, v, rfl, h, k⟩
theorem x_dput {n r b c} {td ty tv : TE} (k : tv σ H fun v H1 => td σ H1 fun x H2 => ty σ H2 fun y H3 => ∃ a H4, x = .ref a ∧ DPut H3 a y v H4 ∧ n σ H4) : sDPut td ty tv ⟨n, r, b, c⟩ σ H := k
theorem x_dputs {n : L2.St → Hp → Prop} {a : Addr} {y v : V} {H4 : Hp} (h : DPut H a y v H4) (k : n σ H4) : ∃ a' H4, V.ref a = .ref a' ∧ DPut H a' y v H4 ∧ n σ H4 := ⟨a, H4, rfl, h, k⟩
theorem x_bm0L {r : V → List V → Hp → VK → Prop} {to : TE} (k : to σ H fun x H1 => tyV K "list" x H1 ∧ r x [] H1 Q) : tBM0 K "list" r to σ H Q := k
theorem x_pop {p : Addr} {xs : List V} {y : V} (h : H p = some (.lst xs)) (hy : xs[xs.length - 1]? = some y) (k : Q y (upd H p (.lst xs.dropLast))) : tyV K "list" (.ref p) H ∧ rPop (.ref p) [] H Q := ⟨.inl ⟨rfl, _, SqL.of h⟩, p, xs, y, rfl, rfl, h, hy, k⟩
theorem x_bmL {r : V → List V → Hp → VK → Prop} {to : TE} {t : TA} (k : to σ H fun x H1 => tyV K "list" x H1 ∧ t σ H1 fun xs H2 => r x xs H2 Q) : tBM K "list" r to t σ H Q := k
theorem tyL {p : Addr} {xs : List V} (h : H p = some (.lst xs)) : tyV K "list" (.ref p) H := .inl ⟨rfl, _, SqL.of h⟩
theorem x_fld {ta : TE} {f : Str} (k : ta σ H fun x H1 => ∃ a C dx fs v, x = .ref a ∧ H1 a = some (.ins C dx fs) ∧ Cls K C ∧ NoAttr K C f ∧ fs.lookup f = some v ∧ Q v H1) : tFld K ta f σ H Q := k
theorem x_call {sp : Sp} {dvs : List V} {E : XK} {t : TA} (k : t σ H fun vs H1 => sp (vs ++ dvs) H1 Q E) : tCall sp dvs E t σ H Q := k
theorem ifc {b : Bool} {p q : Prop} (h1 : b = true → p) (h2 : b = false → q) : if b = true then p else q := by
  cases b
  · exact h2 rfl
  · exact h1 rfl
end
end L3

namespace L3
open PySem L2 Evl
/-! a def of the top, by its name -/
structure Df (K : PySem.W.Frag) (mg : Str → Option Value) (x : Str) (st : Stmt) : Prop where
  ex : ∃ f fd, Fun K x x st f fd ∧ mg x = some (.ref f)
structure Fn (P : Program) (w : World) (K : PySem.W.Frag) (mg : Str → Option Value) (base : Heap) (k : Nat) (x : Str) (ps : List Str) (sp : Sp) : Prop where
  ex : ∃ f fd, FnOk P w K mg base CX0 k f fd ps sp ∧ mg x = some (.ref f) ∧ PySem.W.keepIn K (.ref f) = true ∧ Binds K fd ps []
/-- a method -/
structure Md (K : PySem.W.Frag) (C : Addr) (m q : Str) (st : Stmt) : Prop where
  ex : ∃ f fd, Fun K m q st f fd ∧ Meth K C m f
structure Mt (P : Program) (w : World) (K : PySem.W.Frag) (mg : Str → Option Value) (base : Heap) (k : Nat) (C : Addr) (m : Str) (ps : List Str) (sp : Sp) : Prop where
  cl : Cls K C
  ex : ∃ f fd, FnOk P w K mg base CX0 k f fd ps sp ∧ Meth K C m f ∧ Binds K fd ps []
/-- a class with its __init__ -/
structure Ki (K : PySem.W.Frag) (mg : Str → Option Value) (x : Str) (C : Addr) (q : Str) (st : Stmt) : Prop where
  cl : Cls K C
  mgC : mg x = some (.ref C)
  ex : ∃ f fd, Fun K "__init__" q st f fd ∧ Mk K C f
structure Nw (P : Program) (w : World) (K : PySem.W.Frag) (mg : Str → Option Value) (base : Heap) (k : Nat) (x : Str) (C : Addr) (ps : List Str) (sp : Sp) : Prop where
  mgC : mg x = some (.ref C)
  ex : ∃ f fd, FnOk P w K mg base CX0 k f fd ps sp ∧ Mk K C f ∧ Binds K fd ps []
section
variable {P : Program} {w : World} {K : PySem.W.Frag} {mg : Str → Option Value} {base : Heap} {k : Nat} {x q m : Str} {C : Addr} {ps N : List Str} {sp sp' : Sp} {st : Stmt}
theorem fn_df (D : Df K mg x st) (S : FnScope N ps (defScope st)) (len : ∀ vs H Q E, sp vs H Q E → vs.length = ps.length)
    (hb : ∀ (kV doc pm : Value) (an : Option Addr) (cdv ct : Value) (us : List Value), us.length = ps.length → bindArgs (PySem.W.fnOf x x (defArgs st) (defBody st) (defScope st) .none kV doc pm an cdv ct) ⟨us, []⟩ = pure (ps.zip us))
    (hbody : ∀ (f : Addr) (cdv : Value) (A : Around) (outer : List Env) (s : Shared) (H : Hp) (vs : List V) (Q : VK) (E : XK), Room k (A.deeper (PyProof.Rows.envOfC x (defScope st) s.heap.objs.size f cdv)) → sp vs H Q E →
      ∃ t, PSs (cxOf CX0 P w K mg base N x (defScope st) f cdv A outer s H E).nox (defBody st) t ∧ t { nx := fun _ H' => Q .non H', rt := Q } (start N vs) H) : Fn P w K mg base (k + 1) x ps sp := by
  obtain ⟨f, fd, F, g⟩ := D.ex
  exact ⟨f, fd, F.ok S len (hbody f), g, F.kp, F.binds hb⟩
theorem Fn.imp (F : Fn P w K mg base k x ps sp) (h : ∀ vs H Q E, sp' vs H Q E → sp vs H Q E) : Fn P w K mg base k x ps sp' := by
  obtain ⟨f, fd, F, r⟩ := F.ex
  exact ⟨f, fd, F.imp h, r⟩
theorem Fn.post (F : Fn P w K mg base k x ps sp) : Fn P w K mg base k x ps (fun vs H Q E => sp vs H (fun v H' => ∃ H'', Abs P w H' H'' ∧ Q v H'') E) := by
  obtain ⟨f, fd, F, r⟩ := F.ex
  exact ⟨f, fd, L3.post F, r⟩
theorem Fn.pre (F : Fn P w K mg base k x ps sp) : Fn P w K mg base k x ps (opened P w ps.length sp) := by
  obtain ⟨f, fd, F, r⟩ := F.ex
  exact ⟨f, fd, L3.pre F, r⟩
theorem mt_md (D : Md K C m q st) (c : Cls K C) (S : FnScope N ps (defScope st)) (len : ∀ vs H Q E, sp vs H Q E → vs.length = ps.length)
    (hb : ∀ (kV doc pm : Value) (an : Option Addr) (cdv ct : Value) (us : List Value), us.length = ps.length → bindArgs (PySem.W.fnOf m q (defArgs st) (defBody st) (defScope st) .none kV doc pm an cdv ct) ⟨us, []⟩ = pure (ps.zip us))
    (hbody : ∀ (f : Addr) (cdv : Value) (A : Around) (outer : List Env) (s : Shared) (H : Hp) (vs : List V) (Q : VK) (E : XK), Room k (A.deeper (PyProof.Rows.envOfC q (defScope st) s.heap.objs.size f cdv)) → sp vs H Q E →
      ∃ t, PSs (cxOf CX0 P w K mg base N q (defScope st) f cdv A outer s H E).nox (defBody st) t ∧ t { nx := fun _ H' => Q .non H', rt := Q } (start N vs) H) : Mt P w K mg base (k + 1) C m ps sp := by
  obtain ⟨f, fd, F, g⟩ := D.ex
  exact ⟨c, f, fd, F.ok S len (hbody f), g, F.binds hb⟩
theorem nw_ki (D : Ki K mg x C q st) (S : FnScope N ps (defScope st)) (len : ∀ vs H Q E, sp vs H Q E → vs.length = ps.length)
    (hb : ∀ (kV doc pm : Value) (an : Option Addr) (cdv ct : Value) (us : List Value), us.length = ps.length → bindArgs (PySem.W.fnOf "__init__" q (defArgs st) (defBody st) (defScope st) .none kV doc pm an cdv ct) ⟨us, []⟩ = pure (ps.zip us))
    (hbody : ∀ (f : Addr) (cdv : Value) (A : Around) (outer : List Env) (s : Shared) (H : Hp) (vs : List V) (Q : VK) (E : XK), Room k (A.deeper (PyProof.Rows.envOfC q (defScope st) s.heap.objs.size f cdv)) → sp vs H Q E →
      ∃ t, PSs (cxOf CX0 P w K mg base N q (defScope st) f cdv A outer s H E).nox (defBody st) t ∧ t { nx := fun _ H' => Q .non H', rt := Q } (start N vs) H) : Nw P w K mg base (k + 1) x C ps sp := by
  obtain ⟨f, fd, F, g⟩ := D.ex
  exact ⟨D.mgC, f, fd, F.ok S len (hbody f), g, F.binds hb⟩
end
section
variable {X : Cx} {k : Nat} {x m : Str} {C : Addr} {ps : List Str} {sp : Sp} {e o : Expr} {es : List Expr} {p pos apos : Pos} {t : TA} {ta : TE}
theorem pe_fn (F : Fn X.prog X.w X.K X.mg X.base k x ps sp) (hr : Room k X.A) (hg : Gl X x) (ha : PA X (e :: es) t) (hdb : (x == ("__debug__" : Str)) = false := by decide)
    (he : starEach (e :: es) X.env = (false, eval e X.env) :: starEach es X.env := by rfl) (hpl : (backTo pos (starEach es X.env)).any (·.1) = false := by rfl) : PE X (.Call (.Name x p) (e :: es) [] pos) (tCall sp [] E0 t) := by
  obtain ⟨f, fd, F, g, kp, b⟩ := F.ex
  exact pe_call F hr hg g kp b .nil pass0 ha hdb he hpl
theorem pe_fn0 (F : Fn X.prog X.w X.K X.mg X.base k x ps sp) (hr : Room k X.A) (hg : Gl X x) (hdb : (x == ("__debug__" : Str)) = false := by decide) : PE X (.Call (.Name x p) [] [] pos) (tCall sp [] E0 tNil) := by
  obtain ⟨f, fd, F, g, kp, b⟩ := F.ex
  exact pe_call0 F hr hg g kp b .nil pass0 hdb
theorem pe_mt {pl : Sem Bool} (M : Mt X.prog X.w X.K X.mg X.base k C m ps sp) (hr : Room k X.A) (ho : PE X o ta) (ha : PA X (e :: es) t)
    (hst : starEach (e :: es) X.env = (false, eval e X.env) :: starEach es X.env := by rfl) (hpl : (backTo pos (starEach es X.env)).any (·.1) = false := by rfl)
    (ht : eval (.Call (.Attribute o m apos) (e :: es) [] pos) X.env = (do
      let ov ← eval o X.env
      standAt apos.atName
      let (f, first) ← holding [ov] (getMethod ov m pl)
      callWith pos f first (backTo pos (starEach (e :: es) X.env)) (backToKw pos (keywordEach [] X.env))) := by rfl) : PE X (.Call (.Attribute o m apos) (e :: es) [] pos) (tMeth C m sp [] E0 ta t) := by
  obtain ⟨f, fd, F, g, b⟩ := M.ex
  exact pe_meth ho M.cl g F hr b .nil pass0 ha hst hpl ht
theorem pe_mt0 {pl : Sem Bool} (M : Mt X.prog X.w X.K X.mg X.base k C m ps sp) (hr : Room k X.A) (ho : PE X o ta)
    (ht : eval (.Call (.Attribute o m apos) [] [] pos) X.env = (do
      let ov ← eval o X.env
      standAt apos.atName
      let (f, first) ← holding [ov] (getMethod ov m pl)
      callWith pos f first (backTo pos (starEach [] X.env)) (backToKw pos (keywordEach [] X.env))) := by rfl) : PE X (.Call (.Attribute o m apos) [] [] pos) (tMeth C m sp [] E0 ta tNil) := by
  obtain ⟨f, fd, F, g, b⟩ := M.ex
  exact pe_meth0 ho M.cl g F hr b .nil pass0 ht
theorem pe_new (M : Nw X.prog X.w X.K X.mg X.base k x C ps sp) (hr : Room (k + 1) X.A) (hg : Gl X x) (ha : PA X (e :: es) t) (hdb : (x == ("__debug__" : Str)) = false := by decide)
    (he : starEach (e :: es) X.env = (false, eval e X.env) :: starEach es X.env := by rfl) (hpl : (backTo pos (starEach es X.env)).any (·.1) = false := by rfl) : PE X (.Call (.Name x p) (e :: es) [] pos) (tMake C sp [] E0 t) := by
  obtain ⟨f, fd, F, g, b⟩ := M.ex
  exact pe_make g F hr hg M.mgC b .nil pass0 ha hdb he hpl
end
/-! named readings -/
def rAbs : List V → Hp → VK → Prop := fun xs H Q => ∃ i, xs = [.int i] ∧ Q (.int (if i < 0 then -i else i)) H
theorem call_abs' {X : Cx} : CallR X (.builtin "abs") rAbs := call_abs
def rMin2 : List V → Hp → VK → Prop := fun xs H Q => ∃ i j, xs = [.int i, .int j] ∧ Q (.int (if j < i then j else i)) H
theorem call_min2' {X : Cx} (hc : X.calm = true) : CallR X (.builtin "min") rMin2 := call_min2 hc
def rMax2' : List V → Hp → VK → Prop := fun xs H Q => ∃ i j, xs = [.int i, .int j] ∧ Q (.int (if j > i then j else i)) H
theorem call_max2' {X : Cx} (hc : X.calm = true) : CallR X (.builtin "max") rMax2' := call_max2 hc
def rStrI : List V → Hp → VK → Prop := fun xs H Q => ∃ i, xs = [.int i] ∧ i.natAbs.log2 < 1920 ∧ Q (.str (toString i)) H
theorem call_str_int' {X : Cx} : CallR X (.type "str") rStrI := call_str_int
/-- a value that is no object of the package -/
inductive Plain (H : Hp) : V → Prop where
  | non : Plain H .non
  | bl (b : Bool) : Plain H (.bl b)
  | int (i : Int) : Plain H (.int i)
  | str (x : Str) : Plain H (.str x)
  | lst {a : Addr} {xs : List V} (h : H a = some (.lst xs)) : Plain H (.ref a)
  | tup {a : Addr} {xs : List V} (h : H a = some (.tup xs)) : Plain H (.ref a)
def isI : V → Bool | .int _ => true | _ => false
def isB : V → Bool | .bl _ => true | _ => false
def isS : V → Bool | .str _ => true | _ => false
section
variable {σ : L2.St} {H : Hp} {Q : VK} {K : PySem.W.Frag}
theorem x_abs {i : Int} (k : Q (.int (if i < 0 then -i else i)) H) : rAbs [.int i] H Q := ⟨i, rfl, k⟩
theorem x_min2 {i j : Int} (k : Q (.int (if j < i then j else i)) H) : rMin2 [.int i, .int j] H Q := ⟨i, j, rfl, k⟩
theorem x_max2 {i j : Int} (k : Q (.int (if j > i then j else i)) H) : rMax2' [.int i, .int j] H Q := ⟨i, j, rfl, k⟩
theorem x_isInt {v : V} (p : Plain H v) (k : Q (.bl (isI v || isB v)) H) : rIsi K [v, .ty "int"] H Q := by
  cases p with
  | non => exact ⟨_, _, _, _, false, rfl, .ty _, .base .non, kit_ty (by decide +kernel), k⟩
  | bl b => exact ⟨_, _, _, _, true, rfl, .ty _, .base (.bl b), kit_ty (by decide +kernel), k⟩
  | int i => exact ⟨_, _, _, _, true, rfl, .ty _, .base (.int i), kit_ty (by decide +kernel), k⟩
  | str x => exact ⟨_, _, _, _, false, rfl, .ty _, .base (.str x), kit_ty (by decide +kernel), k⟩
  | lst h => exact ⟨_, _, _, _, false, rfl, .ty _, .base (.lst h), kit_ty (by decide +kernel), k⟩
  | tup h => exact ⟨_, _, _, _, false, rfl, .ty _, .base (.tup h), kit_ty (by decide +kernel), k⟩
theorem x_isBool {v : V} (p : Plain H v) (k : Q (.bl (isB v)) H) : rIsi K [v, .ty "bool"] H Q := by
  cases p with
  | non => exact ⟨_, _, _, _, false, rfl, .ty _, .base .non, kit_ty (by decide +kernel), k⟩
  | bl b => exact ⟨_, _, _, _, true, rfl, .ty _, .base (.bl b), kit_ty (by decide +kernel), k⟩
  | int i => exact ⟨_, _, _, _, false, rfl, .ty _, .base (.int i), kit_ty (by decide +kernel), k⟩
  | str x => exact ⟨_, _, _, _, false, rfl, .ty _, .base (.str x), kit_ty (by decide +kernel), k⟩
  | lst h => exact ⟨_, _, _, _, false, rfl, .ty _, .base (.lst h), kit_ty (by decide +kernel), k⟩
  | tup h => exact ⟨_, _, _, _, false, rfl, .ty _, .base (.tup h), kit_ty (by decide +kernel), k⟩
theorem x_isStr {v : V} (p : Plain H v) (k : Q (.bl (isS v)) H) : rIsi K [v, .ty "str"] H Q := by
  cases p with
  | non => exact ⟨_, _, _, _, false, rfl, .ty _, .base .non, kit_ty (by decide +kernel), k⟩
  | bl b => exact ⟨_, _, _, _, false, rfl, .ty _, .base (.bl b), kit_ty (by decide +kernel), k⟩
  | int i => exact ⟨_, _, _, _, false, rfl, .ty _, .base (.int i), kit_ty (by decide +kernel), k⟩
  | str x => exact ⟨_, _, _, _, true, rfl, .ty _, .base (.str x), kit_ty (by decide +kernel), k⟩
  | lst h => exact ⟨_, _, _, _, false, rfl, .ty _, .base (.lst h), kit_ty (by decide +kernel), k⟩
  | tup h => exact ⟨_, _, _, _, false, rfl, .ty _, .base (.tup h), kit_ty (by decide +kernel), k⟩
theorem x_meth {C : Addr} {m : Str} {sp : Sp} {dvs : List V} {E : XK} {ta : TE} {t : TA} (k : ta σ H fun x H1 => ∃ a dx fs, x = .ref a ∧ H1 a = some (.ins C dx fs) ∧ fs.lookup m = none ∧ t σ H1 fun vs H2 => sp (x :: (vs ++ dvs)) H2 Q E) : tMeth C m sp dvs E ta t σ H Q := k
theorem x_make {C : Addr} {sp : Sp} {dvs : List V} {E : XK} {t : TA} (k : t σ H fun vs H1 => ∀ x dx, H1 x = none → H1 dx = none → dx ≠ x → sp (.ref x :: (vs ++ dvs)) (upd (upd H1 dx (.own x)) x (.ins C dx [])) (fun v H2 => v = .non ∧ Q (.ref x) H2) E) : tMake C sp dvs E t σ H Q := k
theorem x_sfld {n r b c} {ta tv : TE} {f : Str} (k : tv σ H fun y H1 => ta σ H1 fun x H2 => ∃ a C dx fs, x = .ref a ∧ H2 a = some (.ins C dx fs) ∧ Cls K C ∧ NoAttr K C f ∧ fs.length < 1000 ∧ n σ (upd H2 a (.ins C dx (putF f y fs)))) : sFld K ta tv f ⟨n, r, b, c⟩ σ H := k
end
end L3
namespace L3
theorem iteP {b : Bool} {p q : Prop} (h : b = true) (k : p) : if b = true then p else q := by rw [if_pos h]; exact k
theorem iteN {b : Bool} {p q : Prop} (h : b = false) (k : q) : if b = true then p else q := by rw [if_neg (by rw [h]; decide)]; exact k
end L3

/-! the head's facts: any Bool of the written part, and defs -/
namespace L3
open PySem PySem.W PyProof.Rows
def obsB (ex : Frag → Bool) (fn : List He5.DefA) (K : Frag) : He.AlD := (ex K && fn.all fun d => d.ok K, fn.map fun d => He5.fnA K (d.at_ K))
def SaysB (ex : Frag → Bool) (fn : List He5.DefA) (K : Frag) : Prop := obsB ex fn K = He5.valA fn
def obsBG (n : Nat) (ex : Frag → Bool) (fn : List He5.DefA) (g : Addr → Option Obj) : He.AlD := obsB ex fn (He.frG g (He5.asA g n))
def hookB (n : Nat) (ex : Frag → Bool) (fn : List He5.DefA) : PySem.W.Hook where
  α := He.AlD
  obs := fun s => obsBG n ex fn s.heap.get?
  val := fun _ => He5.valA fn
  says := fun _ h => ∃ K : Frag, K.In h ∧ SaysB ex fn K
  of := fun _ _ e => ⟨_, He.frG_in, e⟩
  keeps := fun _ _ _ ⟨K, hK, c⟩ k => ⟨K, Frag.In.keeps hK k, c⟩
theorem obsBG_eq {n : Nat} {ex : Frag → Bool} {fn : List He5.DefA} {g : Addr → Option Obj} {s : Shared} (h : ∀ a, g a = s.heap.get? a) : obsBG n ex fn g = (hookB n ex fn).obs s := by
  have e : g = s.heap.get? := funext h
  rw [e] <;> rfl
section
variable {ex : Frag → Bool} {fn : List He5.DefA} {K : Frag}
theorem SaysB.fx (c : SaysB ex fn K) : ex K = true :=
  (He.ba (show (ex K && fn.all fun d => d.ok K) = true from congrArg (fun z : He.AlD => z.1) c)).1
theorem SaysB.def_ (c : SaysB ex fn K) (i : Nat) {d : He5.DefA} (h : fn[i]? = some d := by rfl) : ∃ fd, L2.FunD K d.name d.qual d.params d.body d.scope (d.dvs K) (d.kws K) (d.at_ K) fd := by
  have c2 := (He.ba (show (ex K && fn.all fun d => d.ok K) = true from congrArg (fun z : He.AlD => z.1) c)).2
  have e : fn.map (fun d => He5.fnA K (d.at_ K)) = fn.map He5.DefA.val := congrArg (fun z : He.AlD => z.2) c
  have e2 : (fn.map fun d => He5.fnA K (d.at_ K))[i]? = (fn.map He5.DefA.val)[i]? := by rw [e]
  rw [List.getElem?_map, List.getElem?_map, h] at e2
  exact He5.DefA.funD (Option.some.inj e2) (List.all_eq_true.mp c2 d (List.mem_of_getElem? h))
end
/-- one fact more, a tuple of the top among them -/
inductive Fx where
  | fa (f : He.Fa)
  | tup (x : PySem.Str) (vs : List He.Dv)
  | wrap (x m : PySem.Str)
  | dic (x : PySem.Str)
  | insc (x : PySem.Str)
  | bo (f : Frag → Bool)
def Fx.ok0 (K : Frag) : Fx → Bool
  | .fa f => f.ok K
  | _ => false
def Fx.ok (K : Frag) : Fx → Bool
  | .fa f => f.ok K
  | .tup x vs => He.tupB K x vs
  | .wrap x m => He5.wrapB K (He.ga K x) "classmethod" "classmethod.__get__" m
  | .dic x => (He.dicW K (He.ga K x)).isSome
  | .bo f => f K
  | .insc x => (Fx.fa (.cls x)).ok0 K && (He.eqO (findIn K (.ref (He.ga K x)) "__class__") (some (some (.builtin "object.__class__"))) && (He.eqO (specialIn K (.builtin "object.__class__") "__get__") (some (some (.builtin "getset_descriptor.__get__"))) &&
    (decide (takesIn K (.builtin "object.__class__") = some true) && (decide (mroIn K (He.ga K x) (.type "object") = some true) && decide (kitOne K (.ref (He.ga K x)) (.ref (He.ga K x)) = some true)))))
theorem fx_at {fx : List Fx} {K : Frag} (h : (fx.all fun f => f.ok K) = true) (i : Nat) {f : Fx} (e : fx[i]? = some f := by rfl) : f.ok K = true := List.all_eq_true.mp h f (List.mem_of_getElem? e)
theorem insc_ok {x : PySem.Str} {K : Frag} (h : (Fx.insc x).ok K = true) : C8.InsC K (He.ga K x) := by
  obtain ⟨h1, h⟩ := He.ba h
  obtain ⟨h2, h⟩ := He.ba h
  obtain ⟨h3, h⟩ := He.ba h
  obtain ⟨h4, h⟩ := He.ba h
  obtain ⟨h5, h6⟩ := He.ba h
  exact ⟨He.cls_ok h1, He.eqO_ok h2, He.eqO_ok h3, of_decide_eq_true h4, of_decide_eq_true h5, of_decide_eq_true h6⟩
def gdef (x : PySem.Str) (st : Stmt) : He5.DefA := ⟨fun K => He.ga K x, x, x, L2.defArgs st, L2.defBody st, L2.defScope st, [], []⟩
def mdef (c m q : PySem.Str) (st : Stmt) : He5.DefA := ⟨fun K => He.ma K (He.ga K c) m, m, q, L2.defArgs st, L2.defBody st, L2.defScope st, [], []⟩
section
variable {K : Frag} {h : Heap} {mg : PySem.Str → Option Value} {ex : Frag → Bool} {fn : List He5.DefA} {x c m q : PySem.Str} {st : Stmt}
theorem df_of (X : K.In h) (G : h.Ns mainGlobals mg) (f : (Fx.fa (.glo x)).ok K = true) (s : SaysB ex fn K) (i : Nat) (e : fn[i]? = some (gdef x st) := by rfl) : Df K mg x st := by
  obtain ⟨fd, F⟩ := s.def_ i e
  exact ⟨He.ga K x, fd, He5.fun_of F, He.glo_ok X G f⟩
theorem md_of (f : (Fx.fa (.meth c m)).ok K = true) (s : SaysB ex fn K) (i : Nat) (e : fn[i]? = some (mdef c m q st) := by rfl) : Md K (He.ga K c) m q st := by
  obtain ⟨fd, F⟩ := s.def_ i e
  exact ⟨He.ma K (He.ga K c) m, fd, He5.fun_of F, He.meth_ok f⟩
theorem ki_of (X : K.In h) (G : h.Ns mainGlobals mg) (f : (Fx.fa (.glo x)).ok K = true) (f1 : (Fx.fa (.cls x)).ok K = true) (f2 : (Fx.fa (.mkr x)).ok K = true) (s : SaysB ex fn K) (i : Nat) (e : fn[i]? = some (mdef x "__init__" q st) := by rfl) : Ki K mg x (He.ga K x) q st := by
  obtain ⟨fd, F⟩ := s.def_ i e
  exact ⟨He.cls_ok f1, He.glo_ok X G f, He.ma K (He.ga K x) "__init__", fd, He5.fun_of F, He.mkr_ok f2⟩
end
/-! .. and dicts of the top with text keys (their hashes hang on the world) -/
abbrev Tabs := List (PySem.Str × List PySem.Str)
def tabsOf (ts : Tabs) (K : Frag) : List (Option (List (Option (PySem.Str × Int)))) := ts.map fun t => He.dicW K (He.ga K t.1)
def tabsIn (ts : Tabs) (P : Params) : List (Option (List (Option (PySem.Str × Int)))) := ts.map fun t => some (He.keysIn P t.2)
def obsWG (n : Nat) (ex : Frag → Bool) (fn : List He5.DefA) (ts : Tabs) (g : Addr → Option Obj) : He.AlD × List (Option (List (Option (PySem.Str × Int)))) := (obsBG n ex fn g, tabsOf ts (He.frG g (He5.asA g n)))
structure SaysW (ex : Frag → Bool) (fn : List He5.DefA) (ts : Tabs) (w : World) (K : Frag) : Prop where
  b : SaysB ex fn K
  t : tabsOf ts K = tabsIn ts w.params
def hookW (n : Nat) (ex : Frag → Bool) (fn : List He5.DefA) (ts : Tabs) : PySem.W.Hook where
  α := He.AlD × List (Option (List (Option (PySem.Str × Int))))
  obs := fun s => obsWG n ex fn ts s.heap.get?
  val := fun w => (He5.valA fn, tabsIn ts w.params)
  says := fun w h => ∃ K : Frag, K.In h ∧ SaysW ex fn ts w K
  of := fun w s e => ⟨He.frG s.heap.get? (He5.asA s.heap.get? n), He.frG_in, ⟨congrArg Prod.fst e, congrArg Prod.snd e⟩⟩
  keeps := fun _ _ _ ⟨K, hK, c⟩ k => ⟨K, Frag.In.keeps hK k, c⟩
theorem obsWG_eq {n : Nat} {ex : Frag → Bool} {fn : List He5.DefA} {ts : Tabs} {g : Addr → Option Obj} {s : Shared} (h : ∀ a, g a = s.heap.get? a) : obsWG n ex fn ts g = (hookW n ex fn ts).obs s := by
  have e : g = s.heap.get? := funext h
  rw [e] <;> rfl
theorem SaysW.tab {ex : Frag → Bool} {fn : List He5.DefA} {ts : Tabs} {w : World} {K : Frag} (c : SaysW ex fn ts w K) (i : Nat) {t : PySem.Str × List PySem.Str} (h : ts[i]? = some t := by rfl) : ∃ es n, L2.KDict K w (He.ga K t.1) es n := by
  have e : (tabsOf ts K)[i]? = (tabsIn ts w.params)[i]? := by rw [c.t]
  unfold tabsOf tabsIn at e
  rw [List.getElem?_map, List.getElem?_map, h] at e
  exact He.dicW_ok (Option.some.inj e)
end L3

namespace L3
open PySem L2 Evl
section
variable {σ : L2.St} {H : Hp} {Q : VK} {K : PySem.W.Frag} {R : It → Hp → Prop}
theorem x_iList {tl : TE} (k : tl σ H fun x H1 => ∃ a, x = .ref a ∧ (∃ xs, SqL K H1 a xs) ∧ R (Itl K a) H1) : iList K tl σ H R := k
theorem x_iTup {tl : TE} (k : tl σ H fun x H1 => ∃ a, x = .ref a ∧ (∃ xs, SqT K H1 a xs) ∧ R (Itt K a) H1) : iTup K tl σ H R := k
theorem x_iRng1 {ta : TA} (k : ta σ H fun vs H1 => ∃ j : Int, vs = [.int j] ∧ -(2 ^ 62) ≤ j ∧ j < 2 ^ 62 ∧ R (Itr 0 j.toNat) H1) : iRng1 ta σ H R := k
theorem x_iRng2 {ta : TA} (k : ta σ H fun vs H1 => ∃ i j : Int, vs = [.int i, .int j] ∧ (-(2 ^ 62) ≤ i ∧ i < 2 ^ 62 ∧ -(2 ^ 62) ≤ j ∧ j < 2 ^ 62) ∧ R (Itr i (j - i).toNat) H1) : iRng2 ta σ H R := k
/-- what is left of a for: its turns -/
def Turns (J : It) (g : TG) (tb : TS) (n : L2.St → Hp → Prop) (r : VK) (σ : L2.St) (H : Hp) : Prop := ∃ W : Nat → Nat → L2.St → Hp → Prop, (∃ m, W 0 m σ H) ∧ ∀ i m σ H, W i m σ H →
  (J.stop i H ∧ n σ H) ∨ (J.go i H ∧ ∃ N : L2.St → Hp → Prop, (∀ σ' H', N σ' H' → ∃ m', m' < m ∧ W (i + 1) m' σ' H') ∧ ∀ x H', J.yld i H x H' → g x σ H' fun σ2 H2 => tb ⟨N, r, n, N⟩ σ2 H2)
theorem x_for {n r b c} {wi : TI} {g : TG} {tb : TS} (k : wi σ H fun J H1 => Turns J g tb n r σ H1) : tFor wi g tb ⟨n, r, b, c⟩ σ H := k
theorem turns_list {n : L2.St → Hp → Prop} {r : VK} {a : Addr} {xs : List V} {g : TG} {tb : TS} (Pv : Nat → L2.St → Hp → Prop) (h0 : Pv 0 σ H) (hl : ∀ i σ H, i ≤ xs.length → Pv i σ H → SqL K H a xs)
    (hs : ∀ i x σ H, xs[i]? = some x → Pv i σ H → g x σ H fun σ2 H2 => tb ⟨Pv (i + 1), r, n, Pv (i + 1)⟩ σ2 H2) (hd : ∀ σ H, Pv xs.length σ H → n σ H) : Turns (Itl K a) g tb n r σ H :=
  for_list (D := ⟨n, r, fun _ _ => False, fun _ _ => False⟩) Pv h0 hl hs hd
theorem turns_tup {n : L2.St → Hp → Prop} {r : VK} {a : Addr} {xs : List V} {g : TG} {tb : TS} (Pv : Nat → L2.St → Hp → Prop) (h0 : Pv 0 σ H) (hl : ∀ i σ H, i ≤ xs.length → Pv i σ H → SqT K H a xs)
    (hs : ∀ i x σ H, xs[i]? = some x → Pv i σ H → g x σ H fun σ2 H2 => tb ⟨Pv (i + 1), r, n, Pv (i + 1)⟩ σ2 H2) (hd : ∀ σ H, Pv xs.length σ H → n σ H) : Turns (Itt K a) g tb n r σ H :=
  for_tup (D := ⟨n, r, fun _ _ => False, fun _ _ => False⟩) Pv h0 hl hs hd
theorem turns_range {n : L2.St → Hp → Prop} {r : VK} {lo : Int} {m : Nat} {g : TG} {tb : TS} (Pv : Nat → L2.St → Hp → Prop) (h0 : Pv 0 σ H)
    (hs : ∀ (i : Nat) σ H, i < m → Pv i σ H → g (.int (lo + i)) σ H fun σ2 H2 => tb ⟨Pv (i + 1), r, n, Pv (i + 1)⟩ σ2 H2) (hd : ∀ σ H, Pv m σ H → n σ H) : Turns (Itr lo m) g tb n r σ H :=
  for_range (D := ⟨n, r, fun _ _ => False, fun _ _ => False⟩) Pv h0 hs hd
theorem x_gname {i : Nat} {v : V} {QG : L2.St → Hp → Prop} (k : QG (σ.set i (some v)) H) : gName i v σ H QG := k
/-! comprehensions -/
def Comp (J : It) (g : TG) (tt : TT) (te : TE) (vs : List Nat) (Q : VK) (σ : L2.St) (H1 : Hp) : Prop := ∀ D, H1 D = none → ∃ W : Nat → Nat → Hp → Prop, (∃ m, W 0 m (upd H1 D (.lst []))) ∧ ∀ i m H, W i m H →
  (J.stop i H ∧ Q (.ref D) H) ∨ (J.go i H ∧ ∃ Nx : Hp → Prop, (∀ H', Nx H' → ∃ m', m' < m ∧ W (i + 1) m' H') ∧ ∀ x H', J.yld i H x H' → g x (wipe σ vs) H' fun σ2 H2 => wipe σ2 vs = wipe σ vs ∧ tt σ2 H2 fun b H3 =>
    if b = true then te σ2 H3 fun y H4 => ∃ acc, H4 D = some (.lst acc) ∧ acc.length < sizeLine ∧ Nx (upd H4 D (.lst (acc ++ [y]))) else Nx H3)
theorem x_lc {wi : TI} {g : TG} {tt : TT} {te : TE} {vs : List Nat} (k : wi σ H fun J H1 => Comp J g tt te vs Q σ H1) : tLc wi g tt te vs σ H Q := k
theorem x_yes {QT : Bool → Hp → Prop} (k : QT true H) : tYes σ H QT := k
/-- one turn of a comprehension whose element and test leave what is known -/
def CTurn (tt : TT) (te : TE) (σ2 : L2.St) (H : Hp) (R : List V → Prop) (acc : List V) : Prop :=
  ∀ (KY : VK) (KN : Hp → Prop), (∀ y H4, Ex H H4 → R (acc ++ [y]) → KY y H4) → (∀ H3, Ex H H3 → R acc → KN H3) → tt σ2 H fun b H3 => if b = true then te σ2 H3 KY else KN H3
private theorem ex_new {H H' : Hp} {D : Addr} {u : HO} (h : H D = none) (e : Ex H H') : Ex H (upd H' D u) := fun b o hb => by
  rw [upd_ne (ne_of_none hb h)]
  exact e b o hb
theorem comp_list {a : Addr} {xs : List V} {j : Nat} {tt : TT} {te : TE} {vs : List Nat} (Rr : Nat → List V → Prop) (hx : SqL K H a xs) (hz : xs.length < 100000) (hw : ∀ x, wipe ((wipe σ vs).set j (some x)) vs = wipe σ vs) (h0 : Rr 0 [])
    (hs : ∀ i x acc H', xs[i]? = some x → Rr i acc → Ex H H' → CTurn tt te ((wipe σ vs).set j (some x)) H' (Rr (i + 1)) acc)
    (k : ∀ D acc H', H D = none → Ex H H' → H' D = some (.lst acc) → Rr xs.length acc → Q (.ref D) H') : Comp (Itl K a) (gName j) tt te vs Q σ H := fun D hD => by
  refine lc_list (K := K) (a := a) (xs := xs) (fun i H' => ∃ acc, Rr i acc ∧ acc.length ≤ i ∧ Ex H H' ∧ H' D = some (.lst acc)) ⟨[], h0, Nat.le_refl _, Ex.new hD, upd_same⟩ (fun i H' _ ⟨_, _, _, e, _⟩ => ex_l e hx) ?_ ?_
  · rintro i x H' hi ⟨acc, r, l, e, hd⟩
    have hi' : i < xs.length := (List.getElem?_eq_some_iff.mp hi).1
    refine ⟨hw x, hs i x acc H' hi r e _ _ (fun y H4 e4 r4 => ?_) (fun H3 e3 r3 => ?_)⟩
    · refine ⟨acc, e4 _ _ hd, Nat.lt_of_le_of_lt l (Nat.lt_of_lt_of_le hi' (Nat.le_trans (Nat.le_of_lt hz) (by decide))), acc ++ [y], r4, by simp; omega, ex_new hD (e.trans e4), upd_same⟩
    · exact ⟨acc, r3, Nat.le_succ_of_le l, e.trans e3, e3 _ _ hd⟩
  · rintro H' ⟨acc, r, l, e, hd⟩
    exact k D acc H' hD e hd r
theorem comp_tup {a : Addr} {xs : List V} {j : Nat} {tt : TT} {te : TE} {vs : List Nat} (Rr : Nat → List V → Prop) (hx : SqT K H a xs) (hz : xs.length < 100000) (hw : ∀ x, wipe ((wipe σ vs).set j (some x)) vs = wipe σ vs) (h0 : Rr 0 [])
    (hs : ∀ i x acc H', xs[i]? = some x → Rr i acc → Ex H H' → CTurn tt te ((wipe σ vs).set j (some x)) H' (Rr (i + 1)) acc)
    (k : ∀ D acc H', H D = none → Ex H H' → H' D = some (.lst acc) → Rr xs.length acc → Q (.ref D) H') : Comp (Itt K a) (gName j) tt te vs Q σ H := fun D hD => by
  refine lc_tup (K := K) (a := a) (xs := xs) (fun i H' => ∃ acc, Rr i acc ∧ acc.length ≤ i ∧ Ex H H' ∧ H' D = some (.lst acc)) ⟨[], h0, Nat.le_refl _, Ex.new hD, upd_same⟩ (fun i H' _ ⟨_, _, _, e, _⟩ => ex_t e hx) ?_ ?_
  · rintro i x H' hi ⟨acc, r, l, e, hd⟩
    have hi' : i < xs.length := (List.getElem?_eq_some_iff.mp hi).1
    refine ⟨hw x, hs i x acc H' hi r e _ _ (fun y H4 e4 r4 => ?_) (fun H3 e3 r3 => ?_)⟩
    · refine ⟨acc, e4 _ _ hd, Nat.lt_of_le_of_lt l (Nat.lt_of_lt_of_le hi' (Nat.le_trans (Nat.le_of_lt hz) (by decide))), acc ++ [y], r4, by simp; omega, ex_new hD (e.trans e4), upd_same⟩
    · exact ⟨acc, r3, Nat.le_succ_of_le l, e.trans e3, e3 _ _ hd⟩
  · rintro H' ⟨acc, r, l, e, hd⟩
    exact k D acc H' hD e hd r
theorem comp_range {lo : Int} {m : Nat} {j : Nat} {tt : TT} {te : TE} {vs : List Nat} (Rr : Nat → List V → Prop) (hz : m < 100000) (hw : ∀ x, wipe ((wipe σ vs).set j (some x)) vs = wipe σ vs) (h0 : Rr 0 [])
    (hs : ∀ (i : Nat) acc H', i < m → Rr i acc → Ex H H' → CTurn tt te ((wipe σ vs).set j (some (.int (lo + i)))) H' (Rr (i + 1)) acc)
    (k : ∀ D acc H', H D = none → Ex H H' → H' D = some (.lst acc) → Rr m acc → Q (.ref D) H') : Comp (Itr lo m) (gName j) tt te vs Q σ H := fun D hD => by
  refine lc_range (lo := lo) (n := m) (fun i H' => ∃ acc, Rr i acc ∧ acc.length ≤ i ∧ Ex H H' ∧ H' D = some (.lst acc)) ⟨[], h0, Nat.le_refl _, Ex.new hD, upd_same⟩ ?_ ?_
  · rintro i H' hi ⟨acc, r, l, e, hd⟩
    refine ⟨hw _, hs i acc H' hi r e _ _ (fun y H4 e4 r4 => ?_) (fun H3 e3 r3 => ?_)⟩
    · refine ⟨acc, e4 _ _ hd, Nat.lt_of_le_of_lt l (Nat.lt_of_lt_of_le hi (Nat.le_trans (Nat.le_of_lt hz) (by decide))), acc ++ [y], r4, by simp; omega, ex_new hD (e.trans e4), upd_same⟩
    · exact ⟨acc, r3, Nat.le_succ_of_le l, e.trans e3, e3 _ _ hd⟩
  · rintro H' ⟨acc, r, l, e, hd⟩
    exact k D acc H' hD e hd r
theorem x_slice {r : V → Option Int → Option Int → Hp → VK → Prop} {te : TE} {tl th : TO} (k : te σ H fun x H1 => tl σ H1 fun lo H2 => th σ H2 fun hi H3 => r x lo hi H3 Q) : tSl r te tl th σ H Q := k
theorem x_part {te : TE} {QO : Option Int → Hp → Prop} (k : te σ H fun x H1 => ∃ i, x = .int i ∧ QO (some i) H1) : tPart te σ H QO := k
theorem x_nopart {QO : Option Int → Hp → Prop} (k : QO none H) : tNoPart σ H QO := k
theorem x_revL {te : TE} (k : te σ H fun x H1 => ∃ a xs, x = .ref a ∧ SqL K H1 a xs ∧ ∀ p, H1 p = none → Q (.ref p) (upd H1 p (.lst xs.reverse))) : tRevL K te σ H Q := k
theorem x_disp {trs : List (TE × TE)} (k : ∀ p, H p = none → tPairs trs σ (upd H p (.dK [])) fun ps H2 => H2 p = some (.dK []) ∧ ∃ kvs : List (Key × V), ps = kvs.map (fun kv => (kV kv.1, kv.2)) ∧ kvs.length ≤ 15 ∧ Q (.ref p) (upd H2 p (.dK (mergeK [] kvs)))) : tDisp trs σ H Q := k
theorem x_pairs {tk tv : TE} {r : List (TE × TE)} {QP : List (V × V) → Hp → Prop} (k : tk σ H fun x H1 => tv σ H1 fun y H2 => tPairs r σ H2 fun ps H3 => QP ((x, y) :: ps) H3) : tPairs ((tk, tv) :: r) σ H QP := k
theorem x_pairs0 {QP : List (V × V) → Hp → Prop} (k : QP [] H) : tPairs [] σ H QP := k
end
end L3
namespace L3
open PySem L2 Evl
theorem q_for {wi : TI} {g : TG} {tb u : TS} {D : Ends} {σ : L2.St} {H : Hp} (h : False) : tSeq (tFor wi g tb) u D σ H := h.elim
theorem q_while {c : TT} {tb u : TS} {D : Ends} {σ : L2.St} {H : Hp} (h : False) : tSeq (tWhile c tb) u D σ H := h.elim
end L3

namespace L3
open PySem L2 Evl
/-! == by an own __eq__ of two instances of one class; str() by an own __str__ -/
def rEqI (C : Addr) (sp : Sp) : R2 := fun x y H Q => ∃ a b dx fs dy gs, x = .ref a ∧ y = .ref b ∧ H a = some (.ins C dx fs) ∧ H b = some (.ins C dy gs) ∧ sp [.ref a, .ref b] H (fun v H' => ∃ c, v = .bl c ∧ Q (.bl c) H') E0
section
variable {X : Cx} {k : Nat} {C : Addr} {ps : List Str} {sp : Sp}
theorem op_eqI (M : Mt X.prog X.w X.K X.mg X.base k C "__eq__" ps sp) (hr : Room k X.A) : OpR X (compareOp .Eq) (rEqI C sp) := by
  intro pins s σ H x y v u Q I rx ry hq
  obtain ⟨a, b, dx, fs, dy, gs, rfl, rfl, ha, hb', hsp⟩ := hq
  obtain ⟨f, fd, F, me, bi⟩ := M.ex
  cases rx
  cases ry
  obtain ⟨mA, J, _⟩ := ins_get I.hok ha
  obtain ⟨mB, J', _⟩ := ins_get I.hok hb'
  obtain ⟨od, J, _⟩ := J.look
  obtain ⟨od', J', _⟩ := J'.look
  obtain ⟨m, hF⟩ := I.fr
  show wpAny (model X.prog X.w) X.A (richCompare .Eq (.ref a) (.ref b)) (EP X pins σ Q) X.xe s
  refine PySem.W.cmp_K (op := .Eq) (tb := .ref C) hr.units0 hF I.ok.mod.kin J J'.type (by simp [PySem.W.notFirst]) me.at_ me.fn ?_
  have e0 : Env0 X.prog X.w X.K X.mg X.base X.A X.stack s H := I.env0
  have hl := F.len _ _ _ _ hsp
  have r2 : Vals [V.ref a, V.ref b] [Value.ref a, Value.ref b] := .cons rfl (.cons rfl .nil)
  refine wpAny_call (codeAny_mono (F.run X.A X.stack s H ⟨[.ref a, .ref b], []⟩ [.ref a, .ref b] [.ref a, .ref b] _ E0 hr e0 (by
    have := bi s [.ref a, .ref b] I.kIn (by simpa using hl)
    simpa using this) r2 hsp) fun r s' hq => ?_)
  cases r with
  | error e => exact hq.elim
  | ok fl =>
    cases fl with
    | ret w =>
      obtain ⟨z, H', I', rz, c, ez, q⟩ := I.after hq
      subst ez
      cases rz
      exact ⟨.bl c, H', I', rfl, q⟩
    | next => exact False.elim hq
    | brk => exact False.elim hq
    | cont => exact False.elim hq
theorem x_eqI {H : Hp} {Q : VK} {a b dx dy : Addr} {fs gs : List (Str × V)} (ha : H a = some (.ins C dx fs)) (hb : H b = some (.ins C dy gs)) (k : sp [.ref a, .ref b] H (fun v H' => ∃ c, v = .bl c ∧ Q (.bl c) H') E0) : rEqI C sp (.ref a) (.ref b) H Q :=
  ⟨a, b, dx, fs, dy, gs, rfl, rfl, ha, hb, k⟩
def rStrO (C : Addr) (sp : Sp) : List V → Hp → VK → Prop := fun xs H Q => ∃ a dx fs, xs = [.ref a] ∧ H a = some (.ins C dx fs) ∧ sp [.ref a] H (fun v H' => ∃ x, v = .str x ∧ Q (.str x) H') E0
theorem call_strO (M : Mt X.prog X.w X.K X.mg X.base k C "__str__" ps sp) (hr : Room (k + 2) X.A) : CallR X (.type "str") (rStrO C sp) := by
  intro pins s σ H xs us Q I r h
  obtain ⟨a, dx, fs, rfl, ha, hsp⟩ := h
  obtain ⟨f, fd, F, me, bi⟩ := M.ex
  obtain ⟨u, rfl, rx⟩ := vals1 r
  cases rx
  obtain ⟨mA, J, _⟩ := ins_get I.hok ha
  obtain ⟨od, J, _⟩ := J.look
  have hr1 : Room k X.A.in1.in1 := (Room.in1 (k := k + 1) hr).in1
  refine PySem.W.kso_call hr1.units0 I.kIn J me.at_ me.fn ?_
  have e0 : Env0 X.prog X.w X.K X.mg X.base X.A.in1.in1 X.stack s H := I.env0.in1.in1
  have hl := F.len _ _ _ _ hsp
  have r2 : Vals [V.ref a] [Value.ref a] := .cons rfl .nil
  refine wpAny_call (codeAny_mono (F.run X.A.in1.in1 X.stack s H ⟨[.ref a], []⟩ [.ref a] [.ref a] _ E0 hr1 e0 (by
    have := bi s [.ref a] I.kIn (by simpa using hl)
    simpa using this) r2 hsp) fun r s' hq => ?_)
  cases r with
  | error e => exact hq.elim
  | ok fl =>
    cases fl with
    | ret w =>
      obtain ⟨z, H', I', rz, c, ez, q⟩ := I.after hq
      subst ez
      obtain ⟨t, rfl⟩ := rz
      exact ⟨.str c, H', I', ⟨t, rfl⟩, q⟩
    | next => exact False.elim hq
    | brk => exact False.elim hq
    | cont => exact False.elim hq
theorem x_strO {H : Hp} {Q : VK} {a dx : Addr} {fs : List (Str × V)} (ha : H a = some (.ins C dx fs)) (k : sp [.ref a] H (fun v H' => ∃ x, v = .str x ∧ Q (.str x) H') E0) : rStrO C sp [.ref a] H Q := ⟨a, dx, fs, rfl, ha, k⟩
/-! f-strings -/
theorem x_fmtI {σ : L2.St} {H : Hp} {Q : VK} {te : TE} (k : te σ H fun x H1 => (∃ y : Str, x = .str y ∧ y.length ≤ sizeLine ∧ Q (.str y) H1) ∨ ∃ i : Int, x = .int i ∧ i.natAbs.log2 < 1920 ∧ Q (.str (toString i)) H1) : tFmt te σ H Q := k
abbrev numS (i : Int) : Str := Str.ofString (toString i)
theorem x_fint {H : Hp} {Q : VK} {i : Int} (h : i.natAbs.log2 < 1920) (k : Q (.str (numS i)) H) : (∃ y : Str, V.int i = .str y ∧ y.length ≤ sizeLine ∧ Q (.str y) H) ∨ ∃ j : Int, V.int i = .int j ∧ j.natAbs.log2 < 1920 ∧ Q (.str (toString j)) H := .inr ⟨i, rfl, h, k⟩
theorem x_fstr {H : Hp} {Q : VK} {y : Str} (h : y.length ≤ sizeLine) (k : Q (.str y) H) : (∃ z : Str, V.str y = .str z ∧ z.length ≤ sizeLine ∧ Q (.str z) H) ∨ ∃ j : Int, V.str y = .int j ∧ j.natAbs.log2 < 1920 ∧ Q (.str (toString j)) H := .inl ⟨y, rfl, h, k⟩
theorem x_js {σ : L2.St} {H : Hp} {t : TE} {ts : List TE} {acc : Str} {QS : Str → Hp → Prop} (k : t σ H fun x H1 => ∃ y : Str, x = .str y ∧ (acc ++ y).length ≤ sizeLine ∧ tJs ts (acc ++ y) σ H1 QS) : tJs (t :: ts) acc σ H QS := k
theorem x_js0 {σ : L2.St} {H : Hp} {acc : Str} {QS : Str → Hp → Prop} (k : QS acc H) : tJs [] acc σ H QS := k
theorem num_small {i : Int} (h0 : 0 ≤ i) (h1 : i < 10 ^ 9) : i.natAbs.log2 < 1920 := by
  have : i.natAbs < 10 ^ 9 := by omega
  have h2 : i.natAbs.log2 ≤ 30 := by
    by_cases hz : i.natAbs = 0
    · rw [hz]; decide
    · have := (Nat.log2_lt hz (k := 31)).mpr (by omega)
      omega
  omega
theorem numS_len {i : Int} (h0 : 0 ≤ i) (h1 : i < 10 ^ 9) : (numS i).length ≤ 10 := PySem.W.KT.len_num h0 (by omega)
end
end L3

namespace L3
open PySem L2 Evl TL
/-! lists of ints compared -/
theorem dpAll_ints {K : PySem.W.Frag} {H : Hp} : ∀ ns : List Int, DpAll K H (ns.map V.int) (ns.map PyData.int)
  | [] => .nil
  | n :: ns => .cons (.int n) (dpAll_ints ns)
theorem dp_ints {K : PySem.W.Frag} {H : Hp} {p : Addr} {ns : List Int} (h : H p = some (.lst (ns.map V.int))) : Dp K H (.ref p) (.list (ns.map PyData.int)) := .lst (SqL.of h) (dpAll_ints ns)
theorem canLayAll_ints : ∀ ns : List Int, PyData.canLayAll0 (ns.map PyData.int) = true
  | [] => by simp [PyData.canLayAll0]
  | n :: ns => by simp [PyData.canLayAll0, PyData.canLay0, canLayAll_ints ns]
theorem depthAll_ints : ∀ ns : List Int, PyData.depthAll (ns.map PyData.int) = 0
  | [] => by simp [PyData.depthAll]
  | n :: ns => by simp [PyData.depthAll, PyData.depth, depthAll_ints ns]
theorem shaped_ints (ns : List Int) : SeqAt.shaped (.list (ns.map PyData.int)) = true := by
  unfold SeqAt.shaped
  simp only [PyData.canLay0, canLayAll_ints, PyData.depth, depthAll_ints]
  decide
theorem eqvAll_ints : ∀ ns ms : List Int, PyData.eqvAll (ns.map PyData.int) (ms.map PyData.int) = decide (ns = ms)
  | [], [] => by simp [PyData.eqvAll]
  | [], m :: ms => by simp [PyData.eqvAll]
  | n :: ns, [] => by simp [PyData.eqvAll]
  | n :: ns, m :: ms => by
    simp only [List.map_cons, PyData.eqvAll, PyData.eqv, eqvAll_ints ns ms]
    by_cases h : n = m
    · subst h; simp
    · simp [h]
theorem x_neInts {K : PySem.W.Frag} {H : Hp} {Q : VK} {p q : Addr} {ns ms : List Int} (h1 : H p = some (.lst (ns.map V.int))) (h2 : H q = some (.lst (ms.map V.int))) (k : Q (.bl (!decide (ns = ms))) H) : rNeD K (.ref p) (.ref q) H Q := by
  refine ⟨_, _, dp_ints h1, dp_ints h2, shaped_ints ns, shaped_ints ms, ?_⟩
  simp only [PyData.eqv, eqvAll_ints]
  exact k
theorem x_eqInts {K : PySem.W.Frag} {H : Hp} {Q : VK} {p q : Addr} {ns ms : List Int} (h1 : H p = some (.lst (ns.map V.int))) (h2 : H q = some (.lst (ms.map V.int))) (k : Q (.bl (decide (ns = ms))) H) : rEqD K (.ref p) (.ref q) H Q := by
  refine ⟨_, _, dp_ints h1, dp_ints h2, shaped_ints ns, shaped_ints ms, ?_⟩
  simp only [PyData.eqv, eqvAll_ints]
  exact k
def rIsC (C : Addr) : List V → Hp → VK → Prop := fun xs H Q => ∃ a dx fs, xs = [.ref a, .ref C] ∧ H a = some (.ins C dx fs) ∧ Q (.bl true) H
theorem call_isC' {X : Cx} {C : Addr} (c : C8.InsC X.K C) : CallR X (.builtin "isinstance") (rIsC C) := C8.call_isC c
theorem x_isC {C : Addr} {H : Hp} {Q : VK} {a dx : Addr} {fs : List (Str × V)} (h : H a = some (.ins C dx fs)) (k : Q (.bl true) H) : rIsC C [.ref a, .ref C] H Q := ⟨a, dx, fs, rfl, h, k⟩
/-! the text of a rule tells its arguments -/
theorem numS_tl {i : Int} (h : 0 ≤ i) : tl (numS i) = numL i.toNat := by
  obtain ⟨n, rfl⟩ := Int.eq_ofNat_of_zero_le h
  exact tl_num n
end L3
namespace L3
open PySem L2 Evl TL
theorem q_ifs {c : TT} {t1 t2 u : TS} {D : Ends} {σ : L2.St} {H : Hp} (h : False) : tSeq (tIfS c t1 t2) u D σ H := h.elim
theorem x_cutE {σ : L2.St} {H : Hp} {n r b c} {t u : TS} (h1 : ∀ nn : L2.St → Hp → Prop, (∀ H', Ex H H' → nn σ H') → t ⟨nn, r, b, c⟩ σ H) (h2 : ∀ H', Ex H H' → u ⟨n, r, b, c⟩ σ H') : tSeq t u ⟨n, r, b, c⟩ σ H := h1 _ h2
section
variable {σ : L2.St} {H : Hp} {Q : VK} {K : PySem.W.Frag} {j : Nat} {te : TE} {vs : List Nat}
theorem comp_rangeF {lo : Int} {m : Nat} (f : Nat → Int) (hz : m < 100000) (hw : ∀ x, wipe ((wipe σ vs).set j (some x)) vs = wipe σ vs)
    (hs : ∀ (i : Nat) H', i < m → Ex H H' → ∀ KY : VK, KY (.int (f i)) H' → te ((wipe σ vs).set j (some (.int (lo + i)))) H' KY)
    (k : ∀ D H', H D = none → Ex H H' → H' D = some (.lst (((List.range m).map f).map V.int)) → Q (.ref D) H') : Comp (Itr lo m) (gName j) tYes te vs Q σ H := by
  refine comp_range (fun i acc => acc = ((List.range i).map f).map V.int) hz hw rfl (fun i acc H' hi ha e KY KN ky kn => ?_) (fun D acc H' hD e hl ha => k D H' hD e (by rw [hl, ha]))
  refine x_yes ?_
  rw [if_pos rfl]
  exact hs i H' hi e KY (ky _ _ (Ex.refl _) (by rw [ha, List.range_succ]; simp))
theorem comp_tupF {a : Addr} {ns : List Int} (f : Int → Int) (hx : SqT K H a (ns.map V.int)) (hz : ns.length < 100000) (hw : ∀ x, wipe ((wipe σ vs).set j (some x)) vs = wipe σ vs)
    (hs : ∀ (n : Int) H', n ∈ ns → Ex H H' → ∀ KY : VK, KY (.int (f n)) H' → te ((wipe σ vs).set j (some (.int n))) H' KY)
    (k : ∀ D H', H D = none → Ex H H' → H' D = some (.lst ((ns.map f).map V.int)) → Q (.ref D) H') : Comp (Itt K a) (gName j) tYes te vs Q σ H := by
  refine comp_tup (fun i acc => acc = ((ns.take i).map f).map V.int) hx (by simpa using hz) hw rfl (fun i x acc H' hi ha e KY KN ky kn => ?_) (fun D acc H' hD e hl ha => k D H' hD e (by rw [hl, ha]; simp))
  rw [List.getElem?_map] at hi
  cases q : ns[i]? with
  | none => rw [q] at hi; cases hi
  | some n =>
    rw [q] at hi
    cases hi
    refine x_yes ?_
    rw [if_pos rfl]
    exact hs n H' (List.mem_of_getElem? q) e KY (ky _ _ (Ex.refl _) (by rw [ha, List.take_add_one, q]; simp))
end
end L3
namespace L3
open PySem L2 Evl TL
theorem x_par {σ : L2.St} {H : Hp} {n r b c} {i j : Nat} {ta : TA} (k : ta σ H fun vs H1 => ∃ v w, vs = [v, w] ∧ n ((σ.set i (some v)).set j (some w)) H1) : tPar i j ta ⟨n, r, b, c⟩ σ H := k
theorem x_rep {K : PySem.W.Frag} {H : Hp} {Q : VK} : True := trivial
end L3
namespace L3
open PySem L2 Evl TL
section
variable {σ : L2.St} {H : Hp} {Q : VK} {K : PySem.W.Frag} {j : Nat} {te : TE} {tt : TT} {vs : List Nat}
/-- a comprehension whose test never holds -/
theorem comp_range0 {lo : Int} {m : Nat} (hz : m < 100000) (hw : ∀ x, wipe ((wipe σ vs).set j (some x)) vs = wipe σ vs)
    (hs : ∀ (i : Nat) H', i < m → Ex H H' → ∀ KT : Bool → Hp → Prop, (∀ H3, Ex H' H3 → KT false H3) → tt ((wipe σ vs).set j (some (.int (lo + i)))) H' KT)
    (k : ∀ D H', H D = none → Ex H H' → H' D = some (.lst []) → Q (.ref D) H') : Comp (Itr lo m) (gName j) tt te vs Q σ H := by
  refine comp_range (fun i acc => acc = []) hz hw rfl (fun i acc H' hi ha e KY KN ky kn => ?_) (fun D acc H' hD e hl ha => k D H' hD e (by rw [hl, ha]))
  refine hs i H' hi e _ fun H3 e3 => ?_
  rw [if_neg (by decide)]
  exact kn H3 e3 ha
end
end L3
namespace L3
open PySem L2 Evl TL
section
variable {σ : L2.St} {H : Hp} {Q : VK} {K : PySem.W.Frag} {QG : L2.St → Hp → Prop}
theorem x_asgG {n r b c} {te : TE} {g : TG} (k : te σ H fun x H1 => g x σ H1 n) : tAsg te g ⟨n, r, b, c⟩ σ H := k
theorem x_gtup {a : Addr} {xs : List V} {m : Nat} {t : TGs} (h : SqT K H a xs) (hl : xs.length = m) (k : t xs σ H QG) : gTup K m t (.ref a) σ H QG := ⟨a, xs, rfl, h, hl, k⟩
theorem x_gcons {v : V} {r : List V} {t : TG} {u : TGs} (k : t v σ H fun σ' H' => u r σ' H' QG) : gCons t u (v :: r) σ H QG := ⟨v, r, rfl, k⟩
theorem x_gnil (k : QG σ H) : gNil [] σ H QG := ⟨rfl, k⟩
end
end L3

namespace L3
open PySem L2 Evl TL
/-! a call whose first argument is starred, with more behind -/
theorem evalArgs_star {M : Model} {A : Around} {E : Value → Shared → Prop} {s : Shared} {f : Value} {x : Sem Value} {y : Bool × Sem Value} {rest : List (Bool × Sem Value)} {Q : Args → Shared → Prop}
    (h : wpAny M A (spliced ((true, x) :: y :: rest)) (fun vs s' => Q ⟨vs, []⟩ s') E s) : wpAny M A (evalArgs f true ((true, x) :: y :: rest) []) Q E s := by
  unfold evalArgs
  show wpAny M A (spliced ((true, x) :: y :: rest) >>= _) Q E s
  refine wpAny_bind (wpAny_mono h (fun vs s' h' => ?_) fun _ _ x => x)
  refine wpAny_holding ?_
  exact wpAny_bind (wpAny_pure (wpAny_bind (wpAny_pure (wpAny_pure h'))))
/-- x(*e, ..), x a local name that holds the class at C -/
def tMakeL (i : Nat) (C : Addr) (sp : Sp) (t : TA) : TE := fun σ H Q => σ[i]? = some (some (.ref C)) ∧ t σ H fun vs H1 => ∀ x dx, H1 x = none → H1 dx = none → dx ≠ x →
  sp (.ref x :: (vs ++ [])) (upd (upd H1 dx (.own x)) x (.ins C dx [])) (fun v H2 => v = .non ∧ Q (.ref x) H2) E0
section
variable {X : Cx} {k i : Nat} {x y : Str} {C : Addr} {ps : List Str} {sp : Sp} {e e2 : Expr} {es : List Expr} {p p2 pos : Pos} {t : TA} {a2 : Bool × Sem Value} {r2 : List (Bool × Sem Value)}
theorem pe_newL (M : Nw X.prog X.w X.K X.mg X.base k y C ps sp) (hr : Room (k + 1) X.A) (hN : X.N[i]? = some x) (hv : Vis X.env.scope x) (ha : PA X (.Starred e p2 :: e2 :: es) t)
    (hdb : (x == ("__debug__" : Str)) = false := by decide) (hcd : (x == ("__classdict__" : Str)) = false := by decide)
    (he : starEach (.Starred e p2 :: e2 :: es) X.env = (true, eval e X.env) :: a2 :: r2 := by rfl) : PE X (.Call (.Name x p) (.Starred e p2 :: e2 :: es) [] pos) (tMakeL i C sp t) := by
  obtain ⟨f, fd, F, g, b⟩ := M.ex
  refine ⟨fun pins s σ H Q I h => ?_⟩
  obtain ⟨hs, ht⟩ := h
  refine wpAny_Call_Name_kw (thn ((pe_var (pos := p) hN hv hdb hcd).run pins s σ H (fun v H1 => v = .ref C ∧ H1 = H) I ⟨.ref C, hs, rfl, rfl⟩) fun u s1 ⟨v, H1, I1, r1, q1⟩ => ?_)
  obtain ⟨rfl, rfl⟩ := q1
  cases r1
  have hrun := ha.run pos pins s1 σ _ _ I1 ht
  rw [he] at hrun
  show wpAny _ _ (callWith pos (.ref C) [] (backTo pos (starEach (.Starred e p2 :: e2 :: es) X.env)) []) _ _ _
  rw [he]
  refine PySem.W.ks_call (P := fun h => X.K.In h) rfl (PySem.W.keeps_K g.kp) (evalArgs_star (thn hrun fun us s2 ⟨vs, H2, I2, r, q⟩ => ⟨I2.kIn, ?_⟩))
  exact run_make g F hr b .nil pass0 I2 r q
end
/-! class methods -/
structure Cmd (K : PySem.W.Frag) (C : Addr) (m q : Str) (st : Stmt) : Prop where
  ex : ∃ p g fd, Fun K m q st g fd ∧ ClX.CRead K C (.type "type") ∧ ClX.CMet K C (.type "type") m p g
structure Cm (P : Program) (w : World) (K : PySem.W.Frag) (mg : Str → Option Value) (base : Heap) (k : Nat) (C : Addr) (m : Str) (sp : Sp) : Prop where
  ex : ∃ p g, FnR P w K mg base CX0 k g sp ∧ ClX.CRead K C (.type "type") ∧ ClX.CMet K C (.type "type") m p g
section
variable {P : Program} {w : World} {K : PySem.W.Frag} {mg : Str → Option Value} {base : Heap} {k : Nat} {q m : Str} {C : Addr} {ps N : List Str} {sp : Sp} {st : Stmt}
theorem cm_md (D : Cmd K C m q st) (S : FnScope N ps (defScope st)) (len : ∀ vs H Q E, sp vs H Q E → vs.length = ps.length)
    (hb : ∀ (kV doc pm : Value) (an : Option Addr) (cdv ct : Value) (us : List Value), us.length = ps.length → bindArgs (PySem.W.fnOf m q (defArgs st) (defBody st) (defScope st) .none kV doc pm an cdv ct) ⟨us, []⟩ = pure (ps.zip us))
    (hbody : ∀ (f : Addr) (cdv : Value) (A : Around) (outer : List Env) (s : Shared) (H : Hp) (vs : List V) (Q : VK) (E : XK), Room k (A.deeper (PyProof.Rows.envOfC q (defScope st) s.heap.objs.size f cdv)) → sp vs H Q E →
      ∃ t, PSs (cxOf CX0 P w K mg base N q (defScope st) f cdv A outer s H E).nox (defBody st) t ∧ t { nx := fun _ H' => Q .non H', rt := Q } (start N vs) H) : Cm P w K mg base (k + 1) C m sp := by
  obtain ⟨p, g, fd, F, r, c⟩ := D.ex
  have R := (F.ok S len (hbody g)).raw (F.binds hb) .nil
  exact ⟨p, g, R.imp fun vs H Q E h => by simpa using h, r, c⟩
end
section
variable {X : Cx} {k : Nat} {m : Str} {C : Addr} {sp : Sp} {e o : Expr} {es : List Expr} {pos apos : Pos} {t : TA} {ta : TE}
theorem pe_cm {pl : Sem Bool} (M : Cm X.prog X.w X.K X.mg X.base k C m sp) (hr : Room k X.A) (ho : PE X o ta) (ha : PA X (e :: es) t)
    (hst : starEach (e :: es) X.env = (false, eval e X.env) :: starEach es X.env := by rfl) (hpl : (backTo pos (starEach es X.env)).any (·.1) = false := by rfl)
    (ht : eval (.Call (.Attribute o m apos) (e :: es) [] pos) X.env = (do
      let ov ← eval o X.env
      standAt apos.atName
      let (f, first) ← holding [ov] (getMethod ov m pl)
      callWith pos f first (backTo pos (starEach (e :: es) X.env)) (backToKw pos (keywordEach [] X.env))) := by rfl) : PE X (.Call (.Attribute o m apos) (e :: es) [] pos) (ClX.tCMeth C sp E0 ta t) := by
  obtain ⟨p, g, F, r, c⟩ := M.ex
  exact ClX.pe_cmeth ho r c F hr pass0 ha hst hpl ht
theorem x_cm {σ : L2.St} {H : Hp} {Q : VK} {E : XK} (k : ta σ H fun x H1 => x = .ref C ∧ t σ H1 fun vs H2 => sp (.ref C :: vs) H2 Q E) : ClX.tCMeth C sp E ta t σ H Q := k
theorem x_newL {σ : L2.St} {H : Hp} {Q : VK} {i : Nat} (h : σ[i]? = some (some (.ref C))) (k : t σ H fun vs H1 => ∀ x dx, H1 x = none → H1 dx = none → dx ≠ x →
  sp (.ref x :: (vs ++ [])) (upd (upd H1 dx (.own x)) x (.ins C dx [])) (fun v H2 => v = .non ∧ Q (.ref x) H2) E0) : tMakeL i C sp t σ H Q := ⟨h, k⟩
theorem x_star {K : PySem.W.Frag} {σ : L2.St} {H : Hp} {te : TE} {QA : List V → Hp → Prop} (k : te σ H fun x H1 => ∃ p xs, x = V.ref p ∧ (SqT K H1 p xs ∨ SqL K H1 p xs) ∧ t σ H1 fun ys H2 => QA (xs ++ ys) H2) : StX.tStar K te t σ H QA := k
end
/-! the head's facts of a class method -/
def cmB (x m : Str) (K : PySem.W.Frag) : Bool := He5.wrapB K (He.ga K x) "classmethod" "classmethod.__get__" m && (PySem.W.fnIn K (He5.wf K (He.ga K x) "classmethod" m) && (PySem.W.readsIn K (He.ga K x) (.type "type") && He.eqO (PySem.W.specialIn K (.ref (He.ga K x)) "__getattribute__") (some (some (.builtin "type.__getattribute__")))))
def cdef (c m q : Str) (st : Stmt) : He5.DefA := ⟨fun K => He5.wf K (He.ga K c) "classmethod" m, m, q, L2.defArgs st, L2.defBody st, L2.defScope st, [], []⟩
theorem cmd_of {K : PySem.W.Frag} {x m q : Str} {st : Stmt} {ex : PySem.W.Frag → Bool} {fn : List He5.DefA} (f : cmB x m K = true) (s : SaysB ex fn K) (i : Nat) (e : fn[i]? = some (cdef x m q st) := by rfl) : Cmd K (He.ga K x) m q st := by
  obtain ⟨h1, h⟩ := He.ba f
  obtain ⟨h2, h⟩ := He.ba h
  obtain ⟨h3, h4⟩ := He.ba h
  obtain ⟨fd, F⟩ := s.def_ i e
  exact ⟨_, _, fd, He5.fun_of F, ⟨h3, He.eqO_ok h4⟩, He5.cmet_of h1 h2⟩
end L3

namespace L3
open PySem L2 Evl TL
/-! zip of a tuple and a list -/
def ItzM (K : PySem.W.Frag) (a b : Addr) : It where
  go := fun i H => ∃ (xs ys : List V) (x y : V), SqT K H a xs ∧ SqL K H b ys ∧ xs[i]? = some x ∧ ys[i]? = some y
  yld := fun i H v H' => ∃ T x y, v = .ref T ∧ H T = none ∧ H' = upd H T (.tup [x, y]) ∧ (∀ xs, SqT K H a xs → xs[i]? = some x) ∧ ∀ ys, SqL K H b ys → ys[i]? = some y
  stop := fun i H => ∃ xs ys : List V, SqT K H a xs ∧ SqL K H b ys ∧ i = min xs.length ys.length
def zSt (N a b i : Nat) (h : Heap) : Prop := IsZip h (N + 4) (N + 2) (N + 3) .none ∧ IsTupOf2 h (N + 2) (.ref N) (.ref (N + 1)) ∧ (∃ a1 a2, IsTupOf2 h (N + 3) a1 a2) ∧ h.IsTupleIter N a i ∧ h.IsListIter (N + 1) b i
theorem turn_zipM {P : Program} {w : World} {K : PySem.W.Frag} {elts : List Expr} {kk : Nat} {tpos : Pos} {N a b : Nat} (ha : a < N) (hb : b < N) :
    Turn P w K (.Tuple elts kk tpos) (ItzM K a b) [N + 4, N + 2, N + 3, N, N + 1] (N + 4) (zSt N a b) where
  mem := by simp
  obj := by
    rintro i h ⟨z1, z2, ⟨x1, x2, z3⟩, ⟨o4, z4, _, d4⟩, ⟨o5, z5, _, d5⟩⟩ c hc
    simp only [List.mem_cons, List.not_mem_nil, or_false] at hc
    rcases hc with rfl | rfl | rfl | rfl | rfl
    · exact ⟨_, z1, nofun⟩
    · exact ⟨_, z2, nofun⟩
    · exact ⟨_, z3, nofun⟩
    · exact ⟨o4, z4, fun v q => by rw [d4] at q; cases q⟩
    · exact ⟨o5, z5, fun v q => by rw [d5] at q; cases q⟩
  keep := by
    rintro i h h' ⟨z1, z2, ⟨x1, x2, z3⟩, z4, z5⟩ k
    exact ⟨k _ (by simp) _ z1, k _ (by simp) _ z2, ⟨x1, x2, k _ (by simp) _ z3⟩, z4.at fun o q => k _ (by simp) o q, z5.at fun o q => k _ (by simp) o q⟩
  item := by
    rintro X rfl rfl rfl hc i pins s σ H E I hf st ⟨xs, ys, x, y, qx, qy, hx, hy⟩
    obtain ⟨z1, z2, z3, z4, z5⟩ := st
    obtain ⟨us, ru, pu, _⟩ := I.tuple qx
    obtain ⟨ws, rw', pw, _⟩ := I.list qy
    have lu := ru.length
    have lw := rw'.length
    have ix : i < xs.length := (List.getElem?_eq_some_iff.mp hx).1
    have iy : i < ys.length := (List.getElem?_eq_some_iff.mp hy).1
    have hh : X.A.in1.handled = none := I.ok.hd hc
    have nz : N + 4 < s.heap.objs.size := Heap.lt_size z1
    have W := GoesN.zip2 (prog := X.prog) (w := X.w) (A := X.A) (elts := elts) (x1 := kk) (pos := tpos) (zip_sep2 (N := N) (fp1 := [a]) (fp2 := [b]) (by simpa using ha) (by simpa using hb))
      (Draws.tuple hh N a (Nat.ne_of_lt ha) us.toArray) (Draws.list hh (N + 1) b (Nat.ne_of_lt (Nat.lt_succ_of_lt hb)) ws.toArray)
    refine W.goes i s _ E (by simp; omega) ⟨z1, z2, z3, ⟨z4, pu⟩, ⟨z5, pw.isList⟩⟩ fun v h' tk hY st' hk htk => ?_
    obtain ⟨T, u1, u2, rfl, hT, e1, e2, hTt⟩ := hY
    obtain ⟨w1, w2, w3, ⟨w4, _⟩, ⟨w5, _⟩⟩ := st'
    obtain ⟨v1, g1, r1⟩ := ru.get hx
    obtain ⟨v2, g2, r2⟩ := rw'.get hy
    have q1 : u1 = v1 := by
      have : us.toArray[i]? = us[i]? := by simp
      rw [this, g1] at e1
      exact (Option.some.inj e1).symm
    have q2 : u2 = v2 := by
      have : ws.toArray[i]? = ws[i]? := by simp
      rw [this, g2] at e2
      exact (Option.some.inj e2).symm
    subst q1 q2
    have new : ObjOk X.prog X.w (upd H T (.tup [x, y])) h' T (.tup [x, y]) := ⟨by show 2 ≤ sizeLine; decide, [u1, u2], .cons r1 (.cons r2 .nil), hTt⟩
    have I1 : Inv X pins σ (upd H T (.tup [x, y])) { s with heap := h', toks := tk } := I.turnedNew (t' := tk) (ch := [N + 4, N + 3, N, N + 1]) (fun c o hb q => hk c o hb q) (fun c hc' => hf c (by
      simp only [List.mem_cons, List.not_mem_nil, or_false] at hc' ⊢
      rcases hc' with z | z | z | z <;> simp [z])) hT new
    refine ⟨.ref T, _, I1, rfl, ⟨T, x, y, rfl, I.hok.fresh hT, rfl, fun l hl => by rw [I.tuple_inj hl qx]; exact hx, fun l hl => by rw [I.list_inj hl qy]; exact hy⟩, ⟨w1, w2, w3, w4, w5⟩, fun c hc' => ?_⟩
    have lt : c < s.heap.objs.size := by
      simp only [List.mem_cons, List.not_mem_nil, or_false] at hc'
      rcases hc' with z | z | z | z | z
      · exact Nat.lt_of_le_of_lt (Nat.le_of_eq z) nz
      · exact Nat.lt_of_le_of_lt (Nat.le_of_eq z) (by omega)
      · exact Nat.lt_of_le_of_lt (Nat.le_of_eq z) (by omega)
      · exact Nat.lt_of_le_of_lt (Nat.le_of_eq z) (by omega)
      · exact Nat.lt_of_le_of_lt (Nat.le_of_eq z) (by omega)
    rw [upd_ne (Nat.ne_of_lt (Nat.lt_of_lt_of_le lt hT))]
    exact (hf c hc').1
  done := by
    rintro X rfl rfl rfl hc i pins s σ H E I hf st ⟨xs, ys, qx, qy, hi⟩
    obtain ⟨z1, z2, z3, z4, z5⟩ := st
    obtain ⟨us, ru, pu, _⟩ := I.tuple qx
    obtain ⟨ws, rw', pw, _⟩ := I.list qy
    have lu := ru.length
    have lw := rw'.length
    have hh : X.A.in1.handled = none := I.ok.hd hc
    have W := GoesN.zip2 (prog := X.prog) (w := X.w) (A := X.A) (elts := elts) (x1 := kk) (pos := tpos) (zip_sep2 (N := N) (fp1 := [a]) (fp2 := [b]) (by simpa using ha) (by simpa using hb))
      (Draws.tuple hh N a (Nat.ne_of_lt ha) us.toArray) (Draws.list hh (N + 1) b (Nat.ne_of_lt (Nat.lt_succ_of_lt hb)) ws.toArray)
    have e : min us.toArray.size ws.toArray.size = i := by simp; omega
    refine W.stops s (fun s1 => Inv X pins σ H s1) E (by rw [e]; exact ⟨z1, z2, z3, ⟨z4, pu⟩, ⟨z5, pw.isList⟩⟩) fun h' tk hk htk => ?_
    exact I.turnedL (t' := tk) (ch := [N + 4, N + 3, N, N + 1]) (fun c o hb q => hk c o hb q) (fun c hc' => hf c (by
      simp only [List.mem_cons, List.not_mem_nil, or_false] at hc' ⊢
      rcases hc' with z | z | z | z <;> simp [z]))
  self := fun A i s Q E st h => wpAny_pyIter_zip st.1 h
def iZipM (K : PySem.W.Frag) (ta : TA) : TI := fun σ H R => ta σ H fun vs H1 => ∃ a b xs ys, vs = [.ref a, .ref b] ∧ SqT K H1 a xs ∧ SqL K H1 b ys ∧ R (ItzM K a b) H1
theorem pi_zipM {X : Cx} {e e2 : Expr} {ta : TA} {p pos tpos : Pos} {elts : List Expr} {kk : Nat} (hg : Gl X "zip") (hm : X.mg "zip" = none) (ha : PA X [e, e2] ta)
    (hs : starEach [e, e2] X.env = (false, eval e X.env) :: starEach [e2] X.env := by rfl) (hpl : (backTo pos (starEach [e2] X.env)).any (·.1) = false := by rfl) : PI X (.Tuple elts kk tpos) (.Call (.Name "zip" p) [e, e2] [] pos) (iZipM X.K ta) := by
  refine ⟨fun pins s σ H R I h => ?_⟩
  refine PyProof.Rows.Call_ (ld_blt I hg hm PyProof.Rows.boot_zip (PyProof.Rows.callWith_type1 (thn (ha.run pos pins s σ H _ I h) fun us s1 ⟨vs, H1, I1, r1, a, b, xs, ys, ex, qx, qy, q⟩ => ?_) hs hpl))
  subst ex
  obtain ⟨u1, u2, rfl, ra, rb⟩ := vals2 r1
  cases ra
  cases rb
  obtain ⟨its, rv, p1, _⟩ := I1.tuple qx
  obtain ⟨its2, rv2, p2, _⟩ := I1.list qy
  have la : a < s1.heap.objs.size := by
    obtain ⟨o1, ho1, _⟩ := id p1
    exact Heap.lt_size ho1
  refine zip_begins2 (begins_tuple a its.toArray) (begins_list b its2.toArray) p1 p2.isList fun h' hz hTI hTO h1 h2 hsz hk => wpAny_pyIter_zip hz ?_
  have I2 : Inv X pins σ H1 { s1 with heap := h' } := I1.kept (t' := s1.toks) hk
  refine ⟨s1.heap.objs.size + 4, [s1.heap.objs.size + 4, s1.heap.objs.size + 2, s1.heap.objs.size + 3, s1.heap.objs.size, s1.heap.objs.size + 1], _, _, H1, rfl, I2, turn_zipM la p2.lt, ⟨hz, hTI, ⟨_, _, hTO⟩, ?_, ?_⟩, fun c hc => ?_, q⟩
  · exact ⟨_, h1, rfl, rfl⟩
  · exact ⟨_, h2, rfl, rfl⟩
  · have hle : s1.heap.objs.size ≤ c := by
      simp only [List.mem_cons, List.not_mem_nil, or_false] at hc
      rcases hc with z | z | z | z | z <;> rw [z] <;> first | exact Nat.le_refl _ | exact Nat.le_add_right _ _
    exact I1.fpOk hle (I1.hok.fresh hle)
theorem x_iZipM {K : PySem.W.Frag} {σ : L2.St} {H : Hp} {R : It → Hp → Prop} {ta : TA} (k : ta σ H fun vs H1 => ∃ a b xs ys, vs = [.ref a, .ref b] ∧ SqT K H1 a xs ∧ SqL K H1 b ys ∧ R (ItzM K a b) H1) : iZipM K ta σ H R := k
theorem turns_zipM {K : PySem.W.Frag} {σ : L2.St} {H : Hp} {n : L2.St → Hp → Prop} {r : VK} {a b : Addr} {xs ys : List V} {g : TG} {tb : TS} (hl : xs.length = ys.length) (Pv : Nat → L2.St → Hp → Prop) (h0 : Pv 0 σ H) (hq : ∀ i σ H, i ≤ xs.length → Pv i σ H → SqT K H a xs ∧ SqL K H b ys)
    (hs : ∀ i x y T σ H, xs[i]? = some x → ys[i]? = some y → Pv i σ H → H T = none → g (.ref T) σ (upd H T (.tup [x, y])) fun σ2 H2 => tb ⟨Pv (i + 1), r, n, Pv (i + 1)⟩ σ2 H2) (hd : ∀ σ H, Pv xs.length σ H → n σ H) : Turns (ItzM K a b) g tb n r σ H := by
  refine ⟨fun i m σ H => m = xs.length - i ∧ i ≤ xs.length ∧ Pv i σ H, ⟨_, rfl, Nat.zero_le _, h0⟩, ?_⟩
  rintro i m σ H ⟨rfl, hi, p⟩
  obtain ⟨q1, q2⟩ := hq i σ H hi p
  by_cases e : i = xs.length
  · subst e
    exact .inl ⟨⟨xs, ys, q1, q2, by omega⟩, hd σ H p⟩
  · have lt : i < xs.length := by omega
    refine .inr ⟨⟨xs, ys, xs[i], ys[i]'(by omega), q1, q2, List.getElem?_eq_getElem lt, List.getElem?_eq_getElem (by omega)⟩, Pv (i + 1), fun σ' H' z => ⟨_, by omega, rfl, lt, z⟩, ?_⟩
    rintro v H' ⟨T, x, y, rfl, hT, rfl, k1, k2⟩
    exact hs i x y T σ H (k1 xs q1) (k2 ys q2) p hT
end L3
namespace L3
open PySem L2 Evl TL
section
variable {σ : L2.St} {H : Hp} {Q : VK} {K : PySem.W.Frag} {j : Nat} {te : TE} {tt : TT} {vs : List Nat}
theorem comp_str {z : Str} (Rr : Nat → List V → Prop) (hz : z.cps.size < 100000) (hw : ∀ x, wipe ((wipe σ vs).set j (some x)) vs = wipe σ vs) (h0 : Rr 0 [])
    (hs : ∀ i c acc H', z.cps[i]? = some c → Rr i acc → Ex H H' → CTurn tt te ((wipe σ vs).set j (some (.str ⟨#[c]⟩))) H' (Rr (i + 1)) acc)
    (k : ∀ D acc H', H D = none → Ex H H' → H' D = some (.lst acc) → Rr z.cps.size acc → Q (.ref D) H') : Comp (Its z) (gName j) tt te vs Q σ H := fun D hD => by
  refine lc_it (walk_str (z := z)) (fun i H' => ∃ acc, Rr i acc ∧ acc.length ≤ i ∧ Ex H H' ∧ H' D = some (.lst acc)) ⟨[], h0, Nat.le_refl _, Ex.new hD, upd_same⟩ (fun i H' _ _ => trivial) ?_ ?_
  · rintro i v H' _ hi ⟨acc, r, l, e, hd⟩ ⟨rfl, c, hc, rfl⟩
    refine ⟨hw _, hs i c acc _ hc r e _ _ (fun y H4 e4 r4 => ?_) (fun H3 e3 r3 => ?_)⟩
    · refine ⟨acc, e4 _ _ hd, Nat.lt_of_le_of_lt l (Nat.lt_of_lt_of_le hi (Nat.le_trans (Nat.le_of_lt hz) (by decide))), acc ++ [y], r4, by simp; omega, fun a o h => ?_, upd_same⟩
      rw [upd_ne (ne_of_none h hD)]
      exact e4 _ _ (e _ _ h)
    · exact ⟨acc, r3, Nat.le_succ_of_le l, e.trans e3, e3 _ _ hd⟩
  · rintro H' ⟨acc, r, l, e, hd⟩
    exact k D acc H' hD e hd r
theorem x_iStr {R : It → Hp → Prop} (k : te σ H fun v H1 => ∃ x, v = .str x ∧ R (Its x) H1) : iStr te σ H R := k
end
end L3
namespace L3
open PySem L2 Evl TL
theorem x_chain {σ : L2.St} {H : Hp} {Q : VK} {r r' : R2} {ta tb tc : TE} (k : ta σ H fun x H1 => tb σ H1 fun y H2 => r x y H2 fun z H3 => ∃ k, z = .bl k ∧ (if k = true then tc σ H3 fun w' H4 => r' y w' H4 Q else Q (.bl false) H3)) : tChain r r' ta tb tc σ H Q := k
/-! numbers below a hundred, as texts -/
def numChk (w : Str) : Bool := decide (1 ≤ w.length) && decide (w.length ≤ 2) && w.cps.all (fun c => decide (48 ≤ c) && decide (c ≤ 57)) && (decide (w = "0") || (match w.cps.toList with
  | c :: _ => decide (c ≠ 48)
  | [] => false))
theorem numChk_all : ∀ n : Fin 100, numChk (numS ((n.val : Nat) : Int)) = true := by decide +kernel
theorem numChk_of {n : Int} (h0 : 0 ≤ n) (h1 : n < 100) : numChk (numS n) = true := by
  obtain ⟨m, rfl⟩ := Int.eq_ofNat_of_zero_le h0
  exact numChk_all ⟨m, by omega⟩
theorem digit_in {c : Nat} (h : 48 ≤ c ∧ c ≤ 57) : decide (c ∈ (Str.ofString "0123456789").cps.toList) = true := by
  have : c = 48 ∨ c = 49 ∨ c = 50 ∨ c = 51 ∨ c = 52 ∨ c = 53 ∨ c = 54 ∨ c = 55 ∨ c = 56 ∨ c = 57 := by omega
  rcases this with rfl | rfl | rfl | rfl | rfl | rfl | rfl | rfl | rfl | rfl <;> decide +kernel
end L3
namespace L3
open PySem L2 Evl TL
theorem x_m1 {σ : L2.St} {H : Hp} {Q : VK} {r : V → List V → Hp → VK → Prop} {to te : TE} (k : to σ H fun x H1 => (∃ a, x = .str a) ∧ te σ H1 fun y H2 => r x [y] H2 Q) : tM1 r to te σ H Q := k
theorem x_m0 {σ : L2.St} {H : Hp} {Q : VK} {r : V → List V → Hp → VK → Prop} {to : TE} (k : to σ H fun x H1 => (∃ a, x = .str a) ∧ r x [] H1 Q) : tM0 r to σ H Q := k
end L3
namespace L3
open PySem L2 Evl TL
theorem x_gsub {σ : L2.St} {H : Hp} {v : V} {to ti : TE} {t : TSet} {QG : L2.St → Hp → Prop} (k : to σ H fun o H1 => ti σ H1 fun i H2 => t o i v H2 fun H3 => QG σ H3) : gSub to ti t v σ H QG := k
theorem upd_id {H : Hp} {a : Addr} {o : HO} (h : H a = some o) : upd H a o = H := by
  funext b
  by_cases e : b = a
  · rw [e, upd_same, h]
  · rw [upd_ne e]
theorem set_id {α : Type} {xs : List α} {k : Nat} {y : α} (h : xs[k]? = some y) : xs.set k y = xs := by
  apply List.ext_getElem?
  intro i
  rw [List.getElem?_set]
  split
  · rename_i e
    subst e
    obtain ⟨hl, _⟩ := List.getElem?_eq_some_iff.mp h
    rw [if_pos hl, h]
  · rfl
theorem ixN_of {n k : Nat} (h : k < n) : ixN n (k : Int) = some k := by
  unfold ixN
  rw [if_pos (Int.natCast_nonneg k), if_pos (by exact_mod_cast h)]
  simp
def rInKD (K : PySem.W.Frag) (d : Addr) (neg : Bool) : R2 := fun x y H Q => ∃ (z : Str) (r : Option Value), x = .str z ∧ y = .ref d ∧ PySem.W.nsIn K d z = some r ∧ Q (.bl (if neg then !r.isSome else r.isSome)) H
theorem op_notIn_kd' {X : Cx} {d : Addr} {es : Array DictEntry} {n : Nat} (D : KDict X.K X.w d es n) : OpR X (compareOp .NotIn) (rInKD X.K d true) := op_notIn_kd D
end L3

namespace L3
open PySem PySem.Spec PyProof.Rows L2 Evl TL
/-! ranges as values; lists of ranges -/
def rRg2 : List V → Hp → VK → Prop := fun vs H Q => ∃ i j, vs = [V.int i, V.int j] ∧ ∀ p, H p = none → Q (.ref p) (upd H p (.rng i j))
theorem call_rg2 {X : Cx} : CallR X (.type "range") rRg2 := cr_range2
def rOutR : R2 := fun x y H Q => ∃ i a lo hi, x = V.int i ∧ y = V.ref a ∧ H a = some (.rng lo hi) ∧ Q (.bl (!decide (lo ≤ i ∧ i < hi))) H
theorem op_outR {X : Cx} : OpR X (compareOp .NotIn) rOutR := by
  intro pins s σ H x y v u Q I rx ry h
  obtain ⟨i, a, lo, hi, rfl, rfl, ha, q⟩ := h
  obtain ⟨k, rfl⟩ := rx
  cases (show u = Value.ref a from ry)
  obtain ⟨t1, t2, t3, ho⟩ := I.hok a _ ha
  show wpAny _ _ (do return Value.bool (!(← contains (Value.ref a) (Value.int i k)))) _ _ s
  refine wpAny_bind ?_
  refine wpAny_contains_slot (T := "range") ⟨_, ho, rfl⟩ F.slot_range_contains ?_
  refine call_meets F.slot_range_contains ⟨_, ho, rfl⟩ F.entry_range_contains (F.args_range_contains_2 _ _) (q_contains a lo hi i t1 t2 t3 k) ?_
  refine ⟨ho, ?_⟩
  refine wpAny_truthy_bool ?_
  refine wpAny_pure ⟨.bl _, H, I, rfl, ?_⟩
  rw [place1]
  exact q
theorem x_outR {H : Hp} {Q : VK} {i : Int} {a : Addr} {lo hi : Int} (h : H a = some (.rng lo hi)) (k : Q (.bl (!decide (lo ≤ i ∧ i < hi))) H) : rOutR (.int i) (.ref a) H Q := ⟨i, a, lo, hi, rfl, rfl, h, k⟩
theorem x_rg2 {H : Hp} {Q : VK} {i j : Int} (k : ∀ p, H p = none → Q (.ref p) (upd H p (.rng i j))) : rRg2 [.int i, .int j] H Q := ⟨i, j, rfl, k⟩
theorem x_listRg {σ : L2.St} {H : Hp} {Q : VK} {te : L2.St → Hp → (Int → Int → Hp → Prop) → Prop} (k : te σ H fun a b H1 => RgOk a b ∧ ∀ q, H1 q = none → Q (.ref q) (upd H1 q (.lst (rgV a b)))) : tLstRg te σ H Q := k
theorem x_rg1 {σ : L2.St} {H : Hp} {Q : Int → Int → Hp → Prop} {ta : TE} (k : ta σ H fun x H1 => ∃ n, x = .int n ∧ Q 0 n H1) : tRg1 ta σ H Q := k
theorem x_catL {H : Hp} {Q : VK} {l b : Addr} {xs zs : List V} (h1 : H l = some (.lst xs)) (h2 : H b = some (.lst zs)) (hz : xs.length + zs.length ≤ sizeLine) (k : ∀ p, H p = none → Q (.ref p) (upd H p (.lst (xs ++ zs)))) : rCat (.ref l) (.ref b) H Q := ⟨l, b, xs, zs, rfl, rfl, h1, h2, hz, k⟩
end L3

namespace L3
open PySem PySem.Spec PyProof.Rows L2 Evl TL
/-! repr of plain values; max of a list; filters -/
def reprV : V → Str
  | .int i => toString i
  | .bl b => if b then "True" else "False"
  | _ => "None"
def rReprV : List V → Hp → VK → Prop := fun xs H Q => ∃ v, xs = [v] ∧ ((∃ i, v = .int i ∧ i.natAbs.log2 < 1920) ∨ (∃ b, v = .bl b) ∨ v = .non) ∧ Q (.str (reprV v)) H
theorem call_reprV {X : Cx} : CallR X (.builtin "repr") rReprV := by
  intro pins s σ H xs us Q I r h
  obtain ⟨v, rfl, hv, q⟩ := h
  obtain ⟨u, rfl, ru⟩ := vals1 r
  rcases hv with ⟨i, rfl, hz⟩ | ⟨b, rfl⟩ | rfl
  · obtain ⟨t, rfl⟩ := ru
    exact PySem.P.repr_of_int hz ⟨.str (toString i), H, I.tok _, ⟨_, rfl⟩, q⟩
  · cases (show u = Value.bool b from ru)
    refine PySem.P.repr_of_bool ⟨.str _, H, I.tok _, ⟨_, rfl⟩, ?_⟩
    exact q
  · cases (show u = Value.none from ru)
    refine PySem.P.repr_of_none ⟨.str _, H, I.tok _, ⟨_, rfl⟩, ?_⟩
    exact q
theorem call_maxV {X : Cx} (hc : X.calm = true) : CallR X (.builtin "max") (rMax X.K) := cr_max hc
section
variable {σ : L2.St} {H : Hp} {Q : VK} {K : PySem.W.Frag} {j : Nat} {te : TE} {tt : TT} {vs : List Nat}
/-- a comprehension that keeps the turns of which p holds -/
theorem comp_rangeP {lo : Int} {m : Nat} (p : Nat → Bool) (f : Nat → Int) (hz : m < 100000) (hw : ∀ x, wipe ((wipe σ vs).set j (some x)) vs = wipe σ vs)
    (hs : ∀ (i : Nat) H', i < m → Ex H H' → ∀ KT : Bool → Hp → Prop, (∀ H3, Ex H' H3 → KT (p i) H3) → tt ((wipe σ vs).set j (some (.int (lo + i)))) H' KT)
    (he : ∀ (i : Nat) H', i < m → p i = true → Ex H H' → ∀ KY : VK, KY (.int (f i)) H' → te ((wipe σ vs).set j (some (.int (lo + i)))) H' KY)
    (k : ∀ D H', H D = none → Ex H H' → H' D = some (.lst ((((List.range m).filter p).map f).map V.int)) → Q (.ref D) H') : Comp (Itr lo m) (gName j) tt te vs Q σ H := by
  refine comp_range (fun i acc => acc = (((List.range i).filter p).map f).map V.int) hz hw rfl (fun i acc H' hi ha e KY KN ky kn => ?_) (fun D acc H' hD e hl ha => k D H' hD e (by rw [hl, ha]))
  refine hs i H' hi e _ fun H3 e3 => ?_
  cases hp : p i with
  | true =>
    rw [if_pos rfl]
    exact he i H3 hi hp (e.trans e3) KY (ky _ _ e3 (by rw [ha, List.range_succ]; simp [List.filter_append, hp]))
  | false =>
    rw [if_neg (by decide)]
    exact kn H3 e3 (by rw [ha, List.range_succ]; simp [List.filter_append, hp])
theorem comp_listF {a : Addr} {ns : List Int} (f : Int → Int) (hx : SqL K H a (ns.map V.int)) (hz : ns.length < 100000) (hw : ∀ x, wipe ((wipe σ vs).set j (some x)) vs = wipe σ vs)
    (hs : ∀ (n : Int) H', n ∈ ns → Ex H H' → ∀ KY : VK, KY (.int (f n)) H' → te ((wipe σ vs).set j (some (.int n))) H' KY)
    (k : ∀ D H', H D = none → Ex H H' → H' D = some (.lst ((ns.map f).map V.int)) → Q (.ref D) H') : Comp (Itl K a) (gName j) tYes te vs Q σ H := by
  refine comp_list (fun i acc => acc = ((ns.take i).map f).map V.int) hx (by simpa using hz) hw rfl (fun i x acc H' hi ha e KY KN ky kn => ?_) (fun D acc H' hD e hl ha => k D H' hD e (by rw [hl, ha]; simp))
  rw [List.getElem?_map] at hi
  cases q : ns[i]? with
  | none => rw [q] at hi; cases hi
  | some n =>
    rw [q] at hi
    cases hi
    refine x_yes ?_
    rw [if_pos rfl]
    exact hs n H' (List.mem_of_getElem? q) e KY (ky _ _ (Ex.refl _) (by rw [ha, List.take_add_one, q]; simp))
theorem x_appendL {K : PySem.W.Frag} {p : Addr} {xs : List V} {y : V} (h : H p = some (.lst xs)) (hz : xs.length < sizeLine) (k : Q .non (upd H p (.lst (xs ++ [y])))) : rAppend (.ref p) [y] H Q := ⟨p, xs, y, rfl, rfl, h, hz, k⟩
end
/-- the last turn of which p holds -/
def lastP (p : Nat → Bool) : Nat → Option Nat
  | 0 => none
  | m + 1 => if p m = true then some m else lastP p m
theorem lastP_none {p : Nat → Bool} : ∀ {m : Nat}, lastP p m = none → (List.range m).filter p = []
  | 0, _ => rfl
  | m + 1, h => by
    unfold lastP at h
    split at h
    · cases h
    · rename_i hp
      rw [List.range_succ, List.filter_append, lastP_none h]
      simp [hp]
theorem lastP_some {p : Nat → Bool} {x : Nat} : ∀ {m : Nat}, lastP p m = some x → x < m ∧ p x = true ∧ ∀ y, y < m → p y = true → y ≤ x
  | 0, h => by cases h
  | m + 1, h => by
    unfold lastP at h
    split at h
    · rename_i hp
      cases h
      exact ⟨Nat.lt_succ_self _, hp, fun y hy _ => by omega⟩
    · rename_i hp
      obtain ⟨h1, h2, h3⟩ := lastP_some h
      refine ⟨by omega, h2, fun y hy hp2 => ?_⟩
      by_cases e : y = m
      · rw [e] at hp2; exact absurd hp2 hp
      · exact h3 y (by omega) hp2
def lastV (p : Nat → Bool) (m : Nat) : V := match lastP p m with
  | none => .non
  | some i => .int i
end L3

namespace L3
open PySem L2 Evl TL
/-! rows of plain values compared -/
def dOf : V → PyData
  | .int i => .int i
  | .str s => .str s
  | .bl b => .bool b
  | _ => .none
def okV : V → Bool
  | .int _ => true
  | .str s => PyData.strOk s
  | .bl _ => true
  | .non => true
  | _ => false
def sameK : V → V → Bool
  | .int _, .int _ => true
  | .str _, .str _ => true
  | .bl _, .bl _ => true
  | .non, .non => true
  | _, _ => false
def sameKs : List V → List V → Bool
  | [], [] => true
  | x :: xs, y :: ys => sameK x y && sameKs xs ys
  | _, _ => false
theorem dp_of {K : PySem.W.Frag} {H : Hp} : ∀ {v : V}, okV v = true → Dp K H v (dOf v)
  | .int i, _ => .int i
  | .str s, _ => .str s
  | .bl b, _ => .bl b
  | .non, _ => .non
theorem dpAll_of {K : PySem.W.Frag} {H : Hp} : ∀ {vs : List V}, vs.all okV = true → DpAll K H vs (vs.map dOf)
  | [], _ => .nil
  | v :: vs, h => by
    rw [List.all_cons, Bool.and_eq_true] at h
    exact .cons (dp_of h.1) (dpAll_of h.2)
theorem lay_of : ∀ {v : V}, okV v = true → PyData.canLay0 (dOf v) = true ∧ PyData.depth (dOf v) = 0
  | .int i, _ => by simp [dOf, PyData.canLay0, PyData.depth]
  | .str s, h => by
    have h' : PyData.strOk s = true := h
    simp [dOf, PyData.canLay0, PyData.depth, h']
  | .bl b, _ => by simp [dOf, PyData.canLay0, PyData.depth]
  | .non, _ => by simp [dOf, PyData.canLay0, PyData.depth]
theorem layAll_of : ∀ {vs : List V}, vs.all okV = true → PyData.canLayAll0 (vs.map dOf) = true ∧ PyData.depthAll (vs.map dOf) = 0
  | [], _ => by simp [PyData.canLayAll0, PyData.depthAll]
  | v :: vs, h => by
    rw [List.all_cons, Bool.and_eq_true] at h
    obtain ⟨a1, a2⟩ := lay_of h.1
    obtain ⟨b1, b2⟩ := layAll_of h.2
    simp [PyData.canLayAll0, PyData.depthAll, a1, a2, b1, b2]
theorem shaped_L {vs : List V} (h : vs.all okV = true) : SeqAt.shaped (.list (vs.map dOf)) = true := by
  obtain ⟨h1, h2⟩ := layAll_of h
  unfold SeqAt.shaped
  simp only [PyData.canLay0, h1, PyData.depth, h2]
  decide
theorem shaped_T {vs : List V} (h : vs.all okV = true) : SeqAt.shaped (.tuple (vs.map dOf)) = true := by
  obtain ⟨h1, h2⟩ := layAll_of h
  unfold SeqAt.shaped
  simp only [PyData.canLay0, h1, PyData.depth, h2]
  decide
theorem eqv_of : ∀ {x y : V}, sameK x y = true → PyData.eqv (dOf x) (dOf y) = decide (x = y)
  | .int i, .int j, _ => by
    by_cases h : i = j
    · subst h; simp [dOf, PyData.eqv]
    · simp [dOf, PyData.eqv, h]
  | .str i, .str j, _ => by
    by_cases h : i = j
    · subst h; simp [dOf, PyData.eqv]
    · simp [dOf, PyData.eqv, h]
  | .bl i, .bl j, _ => by cases i <;> cases j <;> simp [dOf, PyData.eqv]
  | .non, .non, _ => by simp [dOf, PyData.eqv]
theorem eqvAll_of : ∀ {xs ys : List V}, sameKs xs ys = true → PyData.eqvAll (xs.map dOf) (ys.map dOf) = decide (xs = ys)
  | [], [], _ => by simp [PyData.eqvAll]
  | x :: xs, y :: ys, h => by
    rw [sameKs, Bool.and_eq_true] at h
    simp only [List.map_cons, PyData.eqvAll, eqv_of h.1, eqvAll_of h.2]
    by_cases e : x = y
    · subst e; simp
    · simp [e]
section
variable {K : PySem.W.Frag} {H : Hp} {Q : VK} {p q : Addr} {xs ys : List V}
theorem x_neL (h1 : H p = some (.lst xs)) (h2 : H q = some (.lst ys)) (o1 : xs.all okV = true) (o2 : ys.all okV = true) (s : sameKs xs ys = true) (k : Q (.bl (!decide (xs = ys))) H) : rNeD K (.ref p) (.ref q) H Q := by
  refine ⟨_, _, .lst (SqL.of h1) (dpAll_of o1), .lst (SqL.of h2) (dpAll_of o2), shaped_L o1, shaped_L o2, ?_⟩
  simp only [PyData.eqv, eqvAll_of s]
  exact k
theorem x_eqT (h1 : SqT K H p xs) (h2 : SqT K H q ys) (o1 : xs.all okV = true) (o2 : ys.all okV = true) (s : sameKs xs ys = true) (k : Q (.bl (decide (xs = ys))) H) : rEqD K (.ref p) (.ref q) H Q := by
  refine ⟨_, _, .tup h1 (dpAll_of o1), .tup h2 (dpAll_of o2), shaped_T o1, shaped_T o2, ?_⟩
  simp only [PyData.eqv, eqvAll_of s]
  exact k
end
theorem sameK_refl : ∀ {x : V}, okV x = true → sameK x x = true
  | .int _, _ => rfl
  | .str _, _ => rfl
  | .bl _, _ => rfl
  | .non, _ => rfl
theorem sameKs_refl : ∀ {xs : List V}, xs.all okV = true → sameKs xs xs = true
  | [], _ => rfl
  | x :: xs, h => by
    rw [List.all_cons, Bool.and_eq_true] at h
    rw [sameKs, sameK_refl h.1, sameKs_refl h.2]
    rfl
theorem strOk_of {x : Str} (h : ∀ c ∈ tl x, c < 1114112) : PyData.strOk x = true := by
  unfold PyData.strOk
  rw [← Array.all_toList, List.all_eq_true]
  intro c hc
  exact decide_eq_true (h c hc)
theorem strOk_app {x y : Str} (hx : PyData.strOk x = true) (hy : PyData.strOk y = true) : PyData.strOk (x ++ y) = true := by
  refine strOk_of fun c hc => ?_
  unfold PyData.strOk at hx hy
  rw [← Array.all_toList, List.all_eq_true] at hx hy
  rw [tl_append] at hc
  rcases List.mem_append.mp hc with h | h
  · exact of_decide_eq_true (hx c h)
  · exact of_decide_eq_true (hy c h)
theorem strOk_num {i : Int} (h : 0 ≤ i) : PyData.strOk (numS i) = true := by
  refine strOk_of fun c hc => ?_
  rw [numS_tl h] at hc
  by_cases z : c < 48 ∨ 57 < c
  · exact absurd hc (numL_free z)
  · omega
theorem kdct_of {K : PySem.W.Frag} {w : World} {a : Addr} {es : Array DictEntry} {n : Nat} {x : Str} {v : V} {u : Value} (D : KDict K w a es n) (h : PySem.W.nsIn K a x = some (some u)) (r : RelV v u) : KDct K w a x v := ⟨es, n, u, D.at_, D.lit, h, r⟩
theorem x_par3 {σ : L2.St} {H : Hp} {n r b c} {i j l : Nat} {ta : TA} (k : ta σ H fun vs H1 => ∃ u v w, vs = [u, v, w] ∧ n (((σ.set i (some u)).set j (some v)).set l (some w)) H1) : tPar3 i j l ta ⟨n, r, b, c⟩ σ H := k
end L3

namespace L3
open PySem PySem.Spec PyProof.Rows L2 Evl TL
/-! != of two instances of a class with its own __eq__ and no __ne__ -/
def neB (x : Str) (K : PySem.W.Frag) : Bool := He.eqO (PySem.W.findIn K (.ref (He.ga K x)) "__ne__") (some (some (.builtin "object.__ne__"))) && decide (PySem.W.mroIn K (He.ga K x) (.type "object") = some true)
structure NeC (K : PySem.W.Frag) (C : Addr) : Prop where
  f : PySem.W.findIn K (.ref C) "__ne__" = some (some (.builtin "object.__ne__"))
  m : PySem.W.mroIn K C (.type "object") = some true
theorem neC_of {K : PySem.W.Frag} {x : Str} (h : neB x K = true) : NeC K (He.ga K x) := by
  obtain ⟨h1, h2⟩ := He.ba h
  exact ⟨He.eqO_ok h1, of_decide_eq_true h2⟩
section
variable {M : Model} {prog : Program} {w : World} {A : Around} {E : Value → Shared → Prop} {s : Shared} {K : PySem.W.Frag} {x C : Addr} {ox : Obj} {od : Option Obj} {b : Value}
theorem ifBound_ne {Q : Option Value → Shared → Prop} (X : K.In s.heap) (I : PySem.W.InstAt s.heap x ox C od) (hs : PySem.W.findIn K (.ref C) "__ne__" = some (some (.builtin "object.__ne__")))
    (h : wpAny M A (call (.builtin "object.__ne__") [.ref x, b]) (fun v => Q (some v)) E s) : wpAny M A (callSpecialIfBound? (.ref x) "__ne__" [b]) Q E s := by
  unfold callSpecialIfBound? bindSpecialIfBound?
  refine wpAny_holding (wpAny_bind ?_)
  refine wpAny_bind (wpAny_bind (I.type.here ?_))
  refine (PySem.W.looks_findIn X hs).here ?_
  refine wpAny_bind (wpAny_askSetting (wpAny_ite ?_))
  have fin : wpAny M A (do let v ← call (.builtin "object.__ne__") ([.ref x] ++ [b]); pure (some v)) Q E s := by
    refine wpAny_bind (wpAny_mono h (fun v s' z => ?_) fun _ _ z => z)
    exact wpAny_pure z
  split
  · refine wpAny_bind ?_
    exact wpAny_of_eq (F.cmp_object.ne.bind _) (wpAny_pure (by exact fin))
  · refine wpAny_tryCatch (wpAny_bind ?_)
    exact wpAny_of_eq (F.cmp_object.ne.bind _) (wpAny_pure (by exact fin))
theorem entry_ne {Q : Fin → Shared → Prop} (hu : A.units < cLine) (h : wpAny M A (callSpecialIfBound? (.ref x) "__eq__" [b]) (fun r s' => ∃ c, r = some (.bool c) ∧ Q (.done (.ret (.bool (!c)))) s') E s) :
    wpAny M A (Builtin.«object.__ne__» ⟨[.ref x, b], []⟩) Q E s := by
  unfold Builtin.«object.__ne__»
  have h2 : ∀ R : Option Value → Shared → Prop, (∀ c s', Q (.done (.ret (.bool (!c)))) s' → R (some (.bool c)) s') → wpAny M A (callSpecialIfBound? (.ref x) "__eq__" [b]) R E s := fun R hR => by
    refine wpAny_mono h (fun r s' z => ?_) fun _ _ z => z
    obtain ⟨c, rfl, q⟩ := z
    exact hR c s' q
  repeat (first | with_reducible refine wpAny_cRoomFor hu ?_ | (with_reducible refine h2 _ (fun c s' q => ?_)) | wp_step)
  exact q
theorem call_ne {Q : Value → Shared → Prop} (hu : A.units + 1 < cLine) (X : K.In s.heap) (I : PySem.W.InstAt s.heap x ox C od) (hm : PySem.W.mroIn K C (.type "object") = some true)
    (h : wpAny (model prog w) A.in1 (callSpecialIfBound? (.ref x) "__eq__" [b]) (fun r s' => ∃ c, r = some (.bool c) ∧ Q (.bool (!c)) s') E s) : wpAny (model prog w) A (call (.builtin "object.__ne__") [.ref x, b]) Q E s := by
  refine wpAny_call (codeAny_call_builtin F.cmp_object.ne.plain F.cmpEntry_ne ?_)
  refine PySem.W.check_slot F.cmpKind_ne F.cmpSplit_ne (I.type.andThen (PySem.W.looks_mroIn X hm)) (F.cmpArgs_ne _ _) ?_
  exact entry_ne hu h
end
def rNeI (C : Addr) (sp : Sp) : R2 := fun x y H Q => ∃ a b dx fs dy gs, x = .ref a ∧ y = .ref b ∧ H a = some (.ins C dx fs) ∧ H b = some (.ins C dy gs) ∧ sp [.ref a, .ref b] H (fun v H' => ∃ c, v = .bl c ∧ Q (.bl (!c)) H') E0
section
variable {X : Cx} {k : Nat} {C : Addr} {ps : List Str} {sp : Sp}
theorem op_neI (N : NeC X.K C) (M : Mt X.prog X.w X.K X.mg X.base k C "__eq__" ps sp) (hr : Room (k + 1) X.A) : OpR X (compareOp .NotEq) (rNeI C sp) := by
  intro pins s σ H x y v u Q I rx ry hq
  obtain ⟨a, b, dx, fs, dy, gs, rfl, rfl, ha, hb', hsp⟩ := hq
  obtain ⟨f, fd, F, me, bi⟩ := M.ex
  cases rx
  cases ry
  obtain ⟨mA, J, _⟩ := ins_get I.hok ha
  obtain ⟨mB, J', _⟩ := ins_get I.hok hb'
  obtain ⟨od, J, _⟩ := J.look
  obtain ⟨od', J', _⟩ := J'.look
  have hr1 : Room k X.A.in1 := Room.in1 (k := k) hr
  show wpAny (model X.prog X.w) X.A (richCompare .NotEq (.ref a) (.ref b)) (EP X pins σ Q) X.xe s
  have one : wpAny (model X.prog X.w) X.A (tryCompare (.ref a) (cmpInfo .NotEq).2.1 (.ref b)) (fun r s' => ∃ v, r = some v ∧ EP X pins σ Q v s') X.xe s := by
    unfold tryCompare
    refine wpAny_bind (ifBound_ne I.kIn J N.f ?_)
    refine call_ne (by have := hr.units; omega) I.kIn J N.m ?_
    refine PySem.W.ifBound_K I.kIn J me.at_ me.fn ?_
    have e0 : Env0 X.prog X.w X.K X.mg X.base X.A.in1 X.stack s H := I.env0.in1
    have hl := F.len _ _ _ _ hsp
    have r2 : Vals [V.ref a, V.ref b] [Value.ref a, Value.ref b] := .cons rfl (.cons rfl .nil)
    refine wpAny_call (codeAny_mono (F.run X.A.in1 X.stack s H ⟨[.ref a, .ref b], []⟩ [.ref a, .ref b] [.ref a, .ref b] _ E0 hr1 e0 (by
      have := bi s [.ref a, .ref b] I.kIn (by simpa using hl)
      simpa using this) r2 hsp) fun r s' hq => ?_)
    cases r with
    | error e => exact hq.elim
    | ok fl =>
      cases fl with
      | ret w =>
        obtain ⟨z, H', I', rz, c, ez, q⟩ := I.after hq
        subst ez
        cases rz
        exact ⟨c, rfl, wpAny_pure ⟨_, rfl, .bl (!c), H', I', rfl, q⟩⟩
      | next => exact False.elim hq
      | brk => exact False.elim hq
      | cont => exact False.elim hq
  unfold richCompare
  simp only [oneThing_ref]
  refine wpAny_holding (wpAny_bind (wpAny_cRoomFor hr.units0 ?_))
  refine wpAny_bind (J.type.here (wpAny_bind (J'.type.here ?_)))
  split
  · rename_i q
    simp at q
  · refine wpAny_bind (wpAny_pure ?_)
    simp only [Bool.false_eq_true, if_false]
    refine wpAny_bind (wpAny_mono one (fun r s' z => ?_) fun _ _ e => e)
    obtain ⟨v, rfl, hq⟩ := z
    exact wpAny_pure hq
theorem x_neI {H : Hp} {Q : VK} {a b dx dy : Addr} {fs gs : List (Str × V)} (ha : H a = some (.ins C dx fs)) (hb : H b = some (.ins C dy gs)) (k : sp [.ref a, .ref b] H (fun v H' => ∃ c, v = .bl c ∧ Q (.bl (!c)) H') E0) : rNeI C sp (.ref a) (.ref b) H Q :=
  ⟨a, b, dx, fs, dy, gs, rfl, rfl, ha, hb, k⟩
end
end L3

namespace L3
open PySem PySem.Spec PyProof.Rows L2 Evl TL
/-! lists of new tuples; dict of pairs; sorted -/
/-- what is no list still stands -/
def Kt (H H' : Hp) : Prop := ∀ a u, H a = some u → (∀ ys, u ≠ .lst ys) → H' a = some u
theorem Ex.kt {H H' : Hp} (e : Ex H H') : Kt H H' := fun a u h _ => e a u h
theorem kt_upd {H : Hp} {D : Addr} {xs ys : List V} (h : H D = some (.lst xs)) : Kt H (upd H D (.lst ys)) := fun a u ha hn => by
  have : a ≠ D := fun z => by
    rw [z, h] at ha
    cases ha
    exact hn xs rfl
  rw [upd_ne this]
  exact ha
theorem ex_newU {H H' : Hp} {D : Addr} {u : HO} (h : H D = none) (e : Ex H H') : Ex H (upd H' D u) := fun b o hb => by
  rw [upd_ne (ne_of_none hb h)]
  exact e b o hb
section
variable {σ : L2.St} {H : Hp} {Q : VK} {K : PySem.W.Frag} {j : Nat} {te : TE} {vs : List Nat}
theorem comp_listH {a : Addr} {xs : List V} (Rr : Nat → List V → Hp → Prop) (mono : ∀ i acc H H', Kt H H' → Rr i acc H → Rr i acc H') (hx : SqL K H a xs) (hz : xs.length < 100000) (hw : ∀ x, wipe ((wipe σ vs).set j (some x)) vs = wipe σ vs) (h0 : Rr 0 [] H)
    (hs : ∀ i x acc H', xs[i]? = some x → Rr i acc H' → Ex H H' → ∀ KY : VK, (∀ y H4, Ex H' H4 → Rr (i + 1) (acc ++ [y]) H4 → KY y H4) → te ((wipe σ vs).set j (some x)) H' KY)
    (k : ∀ D acc H', H D = none → Ex H H' → H' D = some (.lst acc) → Rr xs.length acc H' → Q (.ref D) H') : Comp (Itl K a) (gName j) tYes te vs Q σ H := fun D hD => by
  refine lc_list (K := K) (a := a) (xs := xs) (fun i H' => ∃ acc, Rr i acc H' ∧ acc.length ≤ i ∧ Ex H H' ∧ H' D = some (.lst acc)) ⟨[], mono _ _ _ _ (Ex.kt (Ex.new hD)) h0, Nat.le_refl _, Ex.new hD, upd_same⟩ (fun i H' _ ⟨_, _, _, e, _⟩ => ex_l e hx) ?_ ?_
  · rintro i x H' hi ⟨acc, r, l, e, hd⟩
    have hi' : i < xs.length := (List.getElem?_eq_some_iff.mp hi).1
    refine ⟨hw x, x_yes ?_⟩
    rw [if_pos rfl]
    refine hs i x acc H' hi r e _ fun y H4 e4 r4 => ?_
    exact ⟨acc, e4 _ _ hd, Nat.lt_of_le_of_lt l (Nat.lt_of_lt_of_le hi' (Nat.le_trans (Nat.le_of_lt hz) (by decide))), acc ++ [y], mono _ _ _ _ (kt_upd (e4 _ _ hd)) r4, by simp; omega, ex_newU hD (e.trans e4), upd_same⟩
  · rintro H' ⟨acc, r, l, e, hd⟩
    exact k D acc H' hD e hd r
end
def rDictP (K : PySem.W.Frag) : List V → Hp → VK → Prop := fun xs H Q => ∃ (a : Addr) (ps : List Addr) (kvs : List (Key × V)), xs = [.ref a] ∧ SqL K H a (ps.map V.ref) ∧ Paired (fun p kv => SqT K H p [kV kv.1, kv.2]) ps kvs ∧
    ∀ p, H p = none → Q (.ref p) (upd H p (.dK (mergeK [] kvs)))
theorem call_dictP' {X : Cx} (hc : X.calm = true) : CallR X (.type "dict") (rDictP X.K) := call_dictP hc
def rLenD : List V → Hp → VK → Prop := fun xs H Q => ∃ a kvs, xs = [V.ref a] ∧ H a = some (.dK kvs) ∧ Q (.int kvs.length) H
theorem call_lenD' {X : Cx} : CallR X (.builtin "len") rLenD := call_lenD
theorem call_sorted' {X : Cx} : CallR X (.builtin "sorted") (rSorted X.K) := cr_sorted
/-- keys that rise up to c and stay: the dict has c of them -/
def kvsF (f : Nat → Int) (n : Nat) : List (Key × V) := (List.range n).map fun i => (Sum.inl (f i), V.int 1)
theorem merge_rise {f : Nat → Int} {c : Nat} (up : ∀ i, i + 1 < c → f i < f (i + 1)) (st : ∀ i, c ≤ i → f i = f (c - 1)) (c1 : 1 ≤ c) : ∀ n, mergeK [] (kvsF f n) = kvsF f (min n c) := by
  have lt : ∀ i k, i < k → k < c → f i < f k := fun i k hik hk => by
    induction k with
    | zero => omega
    | succ k ih =>
      by_cases e : i = k
      · rw [e]; exact up k hk
      · exact Int.lt_trans (ih (by omega) (by omega)) (up k hk)
  intro n
  induction n with
  | zero => rfl
  | succ n ih =>
    have e1 : kvsF f (n + 1) = kvsF f n ++ [(Sum.inl (f n), V.int 1)] := by
      unfold kvsF
      rw [List.range_succ, List.map_append]
      rfl
    have e2 : mergeK [] (kvsF f (n + 1)) = putK (mergeK [] (kvsF f n)) (Sum.inl (f n)) (V.int 1) := by
      rw [e1]
      unfold mergeK
      rw [List.foldl_append]
      rfl
    rw [e2, ih]
    by_cases h : n < c
    · rw [show min n c = n by omega, show min (n + 1) c = n + 1 by omega, e1]
      unfold putK
      rw [if_neg]
      intro z
      rw [List.any_eq_true] at z
      obtain ⟨kv, hkv, hd⟩ := z
      unfold kvsF at hkv
      obtain ⟨i, hi, rfl⟩ := List.mem_map.mp hkv
      rw [List.mem_range] at hi
      have e : f i = f n := by simpa using hd
      have := lt i n hi h
      omega
    · rw [show min n c = c by omega, show min (n + 1) c = c by omega]
      unfold putK
      rw [if_pos]
      · rw [List.map_congr_left (g := id)]
        · simp
        · intro kv hkv
          unfold kvsF at hkv
          obtain ⟨i, hi, rfl⟩ := List.mem_map.mp hkv
          simp only [id]
          split <;> rfl
      · rw [List.any_eq_true]
        refine ⟨(Sum.inl (f (c - 1)), V.int 1), ?_, by rw [st n (by omega)]; simp⟩
        unfold kvsF
        exact List.mem_map.mpr ⟨c - 1, by rw [List.mem_range]; omega, rfl⟩
theorem sorted_eq {ns ms : List Int} (p : ms.Perm ns) (s : ms.Pairwise (· ≤ ·)) (t : ns.Pairwise (· ≤ ·)) : ms = ns := List.Perm.eq_of_pairwise (fun _ _ _ _ a b => Int.le_antisymm a b) s t p
end L3

namespace L3
open PySem L2 Evl TL
def top (i : Nat) : Stmt := PySem.Challenge.pw_sitout_k13_whole_rules_and_their_parts.main.body.getD i (.Pass ⟨0, 0, 0, 0⟩)
abbrev s_is_integer : Stmt := top 6
theorem sc_is_integer : FnScope ["value"] ["value"] (defScope s_is_integer) := ⟨rfl, rfl, rfl, by decide +kernel, rfl, by decide +kernel, by decide +kernel⟩
abbrev s_is_number : Stmt := top 7
theorem sc_is_number : FnScope ["value"] ["value"] (defScope s_is_number) := ⟨rfl, rfl, rfl, by decide +kernel, rfl, by decide +kernel, by decide +kernel⟩
abbrev s_is_from : Stmt := top 8
theorem sc_is_from : FnScope ["value", "least"] ["value", "least"] (defScope s_is_from) := ⟨rfl, rfl, rfl, by decide +kernel, rfl, by decide +kernel, by decide +kernel⟩
abbrev s_is_word : Stmt := top 9
theorem sc_is_word : FnScope ["value", "some"] ["value", "some"] (defScope s_is_word) := ⟨rfl, rfl, rfl, by decide +kernel, rfl, by decide +kernel, by decide +kernel⟩
abbrev s_wrong_number : Stmt := top 15
theorem sc_wrong_number : FnScope ["need", "of", "base", "more", "most", "calm"] ["need", "of", "base", "more", "most", "calm"] (defScope s_wrong_number) := ⟨rfl, rfl, rfl, by decide +kernel, rfl, by decide +kernel, by decide +kernel⟩
abbrev s_wrong_word : Stmt := top 16
theorem sc_wrong_word : FnScope ["back", "top", "under", "up", "hears"] ["back", "top", "under", "up", "hears"] (defScope s_wrong_word) := ⟨rfl, rfl, rfl, by decide +kernel, rfl, by decide +kernel, by decide +kernel⟩
abbrev s_Rule___init__ : Stmt := inClass (top 19) 0
theorem sc_Rule___init__ : FnScope ["self", "need", "of", "base", "more", "most", "calm", "back", "top", "under", "up", "hears", "word"] ["self", "need", "of", "base", "more", "most", "calm", "back", "top", "under", "up", "hears"] (defScope s_Rule___init__) := ⟨rfl, rfl, rfl, by decide +kernel, rfl, by decide +kernel, by decide +kernel⟩
abbrev s_Rule_limit : Stmt := inClass (top 19) 3
theorem sc_Rule_limit : FnScope ["self", "n"] ["self", "n"] (defScope s_Rule_limit) := ⟨rfl, rfl, rfl, by decide +kernel, rfl, by decide +kernel, by decide +kernel⟩
abbrev s_Rule_time : Stmt := inClass (top 19) 2
theorem sc_Rule_time : FnScope ["self", "j"] ["self", "j"] (defScope s_Rule_time) := ⟨rfl, rfl, rfl, by decide +kernel, rfl, by decide +kernel, by decide +kernel⟩
abbrev s__law_draw : Stmt := top 23
theorem sc__law_draw : FnScope ["_law_deal_here", "_law_many", "_law_digit", "_law_first", "_law_second"] ["_law_deal_here", "_law_many"] (defScope s__law_draw) := ⟨rfl, rfl, rfl, by decide +kernel, rfl, by decide +kernel, by decide +kernel⟩
abbrev s__law_deal : Stmt := top 22
theorem sc__law_deal : FnScope ["_law_script", "_law_base", "_law_cell", "_law_cells", "_law_mixed", "_law_great"] ["_law_script", "_law_base"] (defScope s__law_deal) := ⟨rfl, rfl, rfl, by decide +kernel, rfl, by decide +kernel, by decide +kernel⟩
abbrev s__law_pick : Stmt := top 24
theorem sc__law_pick : FnScope ["_law_deal_here", "_law_some"] ["_law_deal_here", "_law_some"] (defScope s__law_pick) := ⟨rfl, rfl, rfl, by decide +kernel, rfl, by decide +kernel, by decide +kernel⟩
abbrev s__law_drawn_rule : Stmt := top 25
theorem sc__law_drawn_rule : FnScope ["_law_deal_here", "_law_window", "_law_base", "_law_under", "_law_first", "_law_top", "_law_back", "_law_hears"] ["_law_deal_here"] (defScope s__law_drawn_rule) := ⟨rfl, rfl, rfl, by decide +kernel, rfl, by decide +kernel, by decide +kernel⟩
abbrev s__law_made : Stmt := top 26
theorem sc__law_made : FnScope ["_law_one"] ["_law_one"] (defScope s__law_made) := ⟨rfl, rfl, rfl, by decide +kernel, rfl, by decide +kernel, by decide +kernel⟩
abbrev s_Rule___str__ : Stmt := inClass (top 19) 6
theorem sc_Rule___str__ : FnScope ["self", "numbers", "way"] ["self"] (defScope s_Rule___str__) := ⟨rfl, rfl, rfl, by decide +kernel, rfl, by decide +kernel, by decide +kernel⟩
abbrev s_Rule___eq__ : Stmt := inClass (top 19) 5
theorem sc_Rule___eq__ : FnScope ["self", "other"] ["self", "other"] (defScope s_Rule___eq__) := ⟨rfl, rfl, rfl, by decide +kernel, rfl, by decide +kernel, by decide +kernel⟩
abbrev s_number_in : Stmt := top 10
theorem sc_number_in : FnScope ["word", "most", "sign"] ["word", "most"] (defScope s_number_in) := ⟨rfl, rfl, rfl, by decide +kernel, rfl, by decide +kernel, by decide +kernel⟩
abbrev s_numbers_in : Stmt := top 17
theorem sc_numbers_in : FnScope ["words", "found", "word"] ["words"] (defScope s_numbers_in) := ⟨rfl, rfl, rfl, by decide +kernel, rfl, by decide +kernel, by decide +kernel⟩
abbrev s_share_in : Stmt := top 18
theorem sc_share_in : FnScope ["word", "parts"] ["word"] (defScope s_share_in) := ⟨rfl, rfl, rfl, by decide +kernel, rfl, by decide +kernel, by decide +kernel⟩
abbrev s_words_between : Stmt := top 20
theorem sc_words_between : FnScope ["words", "found", "at", "word"] ["words"] (defScope s_words_between) := ⟨rfl, rfl, rfl, by decide +kernel, rfl, by decide +kernel, by decide +kernel⟩
abbrev s_Rule_read : Stmt := inClass (top 19) 1
theorem sc_Rule_read : FnScope ["cls", "text", "words", "plain", "share", "back", "up", "hears", "at"] ["cls", "text"] (defScope s_Rule_read) := ⟨rfl, rfl, rfl, by decide +kernel, rfl, by decide +kernel, by decide +kernel⟩
abbrev s__law_with : Stmt := top 27
theorem sc__law_with : FnScope ["_law_one", "_law_at", "_law_value"] ["_law_one", "_law_at", "_law_value"] (defScope s__law_with) := ⟨rfl, rfl, rfl, by decide +kernel, rfl, by decide +kernel, by decide +kernel⟩
abbrev s_law : Stmt := top 28
theorem sc_law : FnScope ["_law_script", "_law_deal_here", "_law_turn", "_law_one", "_law_made_here", "_law_times", "_law_longer", "_law_other", "_law_wide", "_law_many", "_law_j", "_law_time"] ["_law_script"] (defScope s_law) := ⟨rfl, rfl, rfl, by decide +kernel, rfl, by decide +kernel, by decide +kernel⟩
structure Tx (w : World) (K : PySem.W.Frag) (mg : Str → Option Value) : Prop where
  b_isinstance : mg "isinstance" = none
  b_int : mg "int" = none
  b_bool : mg "bool" = none
  b_str : mg "str" = none
  d_is_integer : Df K mg "is_integer" s_is_integer
  d_is_number : Df K mg "is_number" s_is_number
  d_is_from : Df K mg "is_from" s_is_from
  d_is_word : Df K mg "is_word" s_is_word
  n_Rule_need : NoAttr K (He.ga K "Rule") "need"
  n_Rule_of : NoAttr K (He.ga K "Rule") "of"
  n_Rule_base : NoAttr K (He.ga K "Rule") "base"
  n_Rule_more : NoAttr K (He.ga K "Rule") "more"
  n_Rule_most : NoAttr K (He.ga K "Rule") "most"
  n_Rule_calm : NoAttr K (He.ga K "Rule") "calm"
  n_Rule_back : NoAttr K (He.ga K "Rule") "back"
  n_Rule_top : NoAttr K (He.ga K "Rule") "top"
  n_Rule_under : NoAttr K (He.ga K "Rule") "under"
  n_Rule_up : NoAttr K (He.ga K "Rule") "up"
  n_Rule_hears : NoAttr K (He.ga K "Rule") "hears"
  n_Rule_cap : NoAttr K (He.ga K "Rule") "cap"
  c_Rule : Cls K (He.ga K "Rule")
  g_BACKS : mg "BACKS" = some (.ref (He.ga K "BACKS"))
  t_BACKS : ∀ H, SqT K H (He.ga K "BACKS") [.str "half", .str "open", .str "trial"]
  g_HEARD : mg "HEARD" = some (.ref (He.ga K "HEARD"))
  t_HEARD : ∀ H, SqT K H (He.ga K "HEARD") [.str "fault", .str "no", .str "out"]
  d_wrong_number : Df K mg "wrong_number" s_wrong_number
  d_wrong_word : Df K mg "wrong_word" s_wrong_word
  k_Rule : Ki K mg "Rule" (He.ga K "Rule") "Rule.__init__" s_Rule___init__
  d_Rule_limit : Md K (He.ga K "Rule") "limit" "Rule.limit" s_Rule_limit
  b_min : mg "min" = none
  d_Rule_time : Md K (He.ga K "Rule") "time" "Rule.time" s_Rule_time
  b_len : mg "len" = none
  b_abs : mg "abs" = none
  d__law_draw : Df K mg "_law_draw" s__law_draw
  d__law_deal : Df K mg "_law_deal" s__law_deal
  d__law_pick : Df K mg "_law_pick" s__law_pick
  d__law_drawn_rule : Df K mg "_law_drawn_rule" s__law_drawn_rule
  d__law_made : Df K mg "_law_made" s__law_made
  d_Rule___str__ : Md K (He.ga K "Rule") "__str__" "Rule.__str__" s_Rule___str__
  i_Rule : C8.InsC K (He.ga K "Rule")
  g_Rule : mg "Rule" = some (.ref (He.ga K "Rule"))
  d_Rule___eq__ : Md K (He.ga K "Rule") "__eq__" "Rule.__eq__" s_Rule___eq__
  b_all : mg "all" = none
  b_list : mg "list" = none
  b_zip : mg "zip" = none
  g_DIGITS : ∃ t, mg "DIGITS" = some (.str "0123456789" t)
  d_number_in : Df K mg "number_in" s_number_in
  d_numbers_in : Df K mg "numbers_in" s_numbers_in
  d_share_in : Df K mg "share_in" s_share_in
  g_ROUNDS : mg "ROUNDS" = some (.ref (He.ga K "ROUNDS"))
  kd_ROUNDS : ∃ es n, KDict K w (He.ga K "ROUNDS") es n
  kv_ROUNDS : He.valsB K (He.ga K "ROUNDS") [("down", .bl false), ("up", .bl true)] = true
  d_words_between : Df K mg "words_between" s_words_between
  cd_Rule_read : Cmd K (He.ga K "Rule") "read" "Rule.read" s_Rule_read
  b_range : mg "range" = none
  b_sorted : mg "sorted" = none
  b_dict : mg "dict" = none
  b_max : mg "max" = none
  ne_Rule : NeC K (He.ga K "Rule")
  d__law_with : Df K mg "_law_with" s__law_with
  d_law : Df K mg "law" s_law
local macro_rules | `(tactic| walk_at "x0") => `(tactic| first
  | ((with_reducible refine' x_var ?k1 ?_); (case k1 => exact rfl))
  | with_reducible apply x_c
  | with_reducible apply x_op
  | with_reducible apply x_I0
  | with_reducible apply x_asg
  | with_reducible apply x_asgG
  | with_reducible apply x_gcons
  | with_reducible apply x_gnil
  | with_reducible apply x_cb
  | with_reducible apply x_cons
  | with_reducible apply x_nil
  | with_reducible apply x_int1
  | with_reducible apply x_test
  | with_reducible apply x_tb
  | with_reducible refine ⟨_, rfl, ?_⟩
  | with_reducible apply x_ifs
  | with_reducible apply x_if
  | with_reducible apply x_and
  | with_reducible apply x_or
  | with_reducible apply x_not
  | with_reducible apply x_ret
  | with_reducible apply x_retN
  | with_reducible apply x_next
  | with_reducible apply x_drop
  | with_reducible apply x_par
  | with_reducible apply x_par3
  | with_reducible apply x_un
  | with_reducible apply x_U
  | with_reducible apply x_dget
  | with_reducible apply x_dput
  | with_reducible apply x_bm0L
  | with_reducible apply x_bmL
  | ((with_reducible refine' x_eq ?k1 ?_); (case k1 => exact rfl))
  | ((with_reducible refine' x_ne ?k1 ?_); (case k1 => exact rfl))
  | with_reducible apply x_andV
  | with_reducible apply x_orV
  | with_reducible apply x_notV
  | with_reducible apply x_isN
  | with_reducible apply x_notN
  | with_reducible apply x_call
  | with_reducible apply x_meth
  | with_reducible apply x_make
  | with_reducible apply x_sfld
  | with_reducible apply x_abs
  | with_reducible apply x_min2
  | with_reducible apply x_max2
  | with_reducible apply x_tup
  | with_reducible apply x_lst
  | with_reducible apply x_fld
  | with_reducible apply x_for
  | with_reducible apply x_iList
  | with_reducible apply x_iTup
  | with_reducible apply x_iRng1
  | with_reducible apply x_iRng2
  | with_reducible apply x_gname
  | with_reducible apply x_lc
  | with_reducible apply x_yes
  | with_reducible apply x_slice
  | with_reducible apply x_part
  | with_reducible apply x_nopart
  | with_reducible apply x_revL
  | with_reducible apply x_pairs
  | with_reducible apply x_pairs0
  | with_reducible apply x_js
  | with_reducible apply x_js0
  | with_reducible apply x_fmtI
  | with_reducible apply x_chain
  | with_reducible apply x_gsub
  | with_reducible apply x_listRg
  | with_reducible apply x_rg1
  | with_reducible apply x_rg2
  | with_reducible apply x_int1b
  | with_reducible apply x_m1
  | with_reducible apply x_m0
  | with_reducible apply x_iStr
  | with_reducible apply x_iZipM
  | with_reducible apply x_cm
  | with_reducible apply x_star
  | with_reducible apply x_brk
  | with_reducible apply x_cont)
local macro_rules | `(tactic| walk_at "sq") => `(tactic| ((fail_if_success (with_reducible apply q_for)); (fail_if_success (with_reducible apply q_while)); (with_reducible apply x_seq)))
local macro_rules | `(tactic| walk_at "sy") => `(tactic| ((fail_if_success (with_reducible apply q_for)); (fail_if_success (with_reducible apply q_while)); (fail_if_success (with_reducible apply q_ifs)); (with_reducible apply x_seq)))
local macro_rules | `(tactic| walk_at "x1") => `(tactic| first | walk_at "x0" | walk_at "sq")
local macro_rules | `(tactic| walk_at "x") => `(tactic| repeat walk_at "x1")
local macro_rules | `(tactic| walk_at "y") => `(tactic| repeat (first | walk_at "x0" | walk_at "sy"))

section
variable {P : Program} {w : World} {K : PySem.W.Frag} {mg : Str → Option Value} {base : Heap}
def sp_is_integer : Sp := fun vs H Q _ => ∃ v, vs = [v] ∧ Plain H v ∧ Q (.bl (isI v)) H
theorem Tx.F_is_integer (T : Tx w K mg) : Fn P w K mg base 1 "is_integer" ["value"] (sp_is_integer) := by
  refine fn_df T.d_is_integer sc_is_integer (fun vs H Q E h => ?_) (fun _ _ _ _ _ _ us hl => match us, hl with | [_], _ => rfl) (fun f cdv A outer s H vs Q E hr h => ?_)
  · obtain ⟨v, rfl, _⟩ := h
    rfl
  · have hu := hu_of hr
    obtain ⟨v, rfl, p, k⟩ := h
    refine ⟨_, (pss_one (ps_ret (pe_and (pe_callB call_isi (by rfl) T.b_isinstance (by decide +kernel) (pa_cons (pv 0) (pa_cons (pe_bltn (v := .ty "int") (by rfl) T.b_int (by decide +kernel) rfl) pa_nil))) (pe_one (pe_not (pe_callB call_isi (by rfl) T.b_isinstance (by decide +kernel) (pa_cons (pv 0) (pa_cons (pe_bltn (v := .ty "bool") (by rfl) T.b_bool (by decide +kernel) rfl) pa_nil)))))))), ?_⟩
    walk_at "x"
    refine x_isInt p ?_
    walk_at "x"
    refine ifc (fun h => ?_) (fun h => ?_)
    · walk_at "x"
      refine x_isBool p ?_
      walk_at "x"
      cases p <;> first | exact k | cases h
    · cases p <;> first | exact k | cases h

def isNum : V → Bool
  | .int i => decide (0 ≤ i)
  | _ => false
def sp_is_number : Sp := fun vs H Q _ => ∃ v, vs = [v] ∧ Plain H v ∧ Q (.bl (isNum v)) H
theorem Tx.F_is_number (T : Tx w K mg) : Fn P w K mg base 2 "is_number" ["value"] (sp_is_number) := by
  refine fn_df T.d_is_number sc_is_number (fun vs H Q E h => ?_) (fun _ _ _ _ _ _ us hl => match us, hl with | [_], _ => rfl) (fun f cdv A outer s H vs Q E hr h => ?_)
  · obtain ⟨v, rfl, _⟩ := h
    rfl
  · have hu := hu_of hr
    obtain ⟨v, rfl, p, k⟩ := h
    refine ⟨_, (pss_one (ps_ret (pe_and (pe_fn T.F_is_integer (hr.mono (by decide)) (by rfl) (pa_cons (pv 0) pa_nil)) (pe_one (pe_cmpR op_ge (pv 0) pe_int (nomark _)))))), ?_⟩
    walk_at "x"
    refine ⟨v, rfl, p, ?_⟩
    walk_at "x"
    cases p <;> first | exact k | (refine iteP rfl ?_; walk_at "x"; exact k)

def isFrom : V → Int → Bool
  | .int i, l => decide (l ≤ i)
  | _, _ => false
def sp_is_from : Sp := fun vs H Q _ => ∃ v l, vs = [v, .int l] ∧ Plain H v ∧ Q (.bl (isFrom v l)) H
theorem Tx.F_is_from (T : Tx w K mg) : Fn P w K mg base 2 "is_from" ["value", "least"] (sp_is_from) := by
  refine fn_df T.d_is_from sc_is_from (fun vs H Q E h => ?_) (fun _ _ _ _ _ _ us hl => match us, hl with | [_, _], _ => rfl) (fun f cdv A outer s H vs Q E hr h => ?_)
  · obtain ⟨v, l, rfl, _⟩ := h
    rfl
  · have hu := hu_of hr
    obtain ⟨v, l, rfl, p, k⟩ := h
    refine ⟨_, (pss_one (ps_ret (pe_and (pe_fn T.F_is_integer (hr.mono (by decide)) (by rfl) (pa_cons (pv 0) pa_nil)) (pe_one (pe_cmpR op_ge (pv 0) (pv 1) (nomark _)))))), ?_⟩
    walk_at "x"
    refine ⟨v, rfl, p, ?_⟩
    walk_at "x"
    cases p <;> first | exact k | (refine iteP rfl ?_; walk_at "x"; exact k)

def isWord : V → List Str → Bool
  | .str x, ws => inV (.str x) (ws.map V.str)
  | _, _ => false
theorem flat_strs (ws : List Str) : (ws.map V.str).all flatV = true := by
  rw [List.all_eq_true]
  intro x hx
  obtain ⟨y, _, rfl⟩ := List.mem_map.mp hx
  rfl
def sp_is_word (K : PySem.W.Frag) : Sp := fun vs H Q _ => ∃ v t ws, vs = [v, .ref t] ∧ Plain H v ∧ SqT K H t (ws.map V.str) ∧ Q (.bl (isWord v ws)) H
theorem Tx.F_is_word (T : Tx w K mg) : Fn P w K mg base 1 "is_word" ["value", "some"] (sp_is_word K) := by
  refine fn_df T.d_is_word sc_is_word (fun vs H Q E h => ?_) (fun _ _ _ _ _ _ us hl => match us, hl with | [_, _], _ => rfl) (fun f cdv A outer s H vs Q E hr h => ?_)
  · obtain ⟨v, t, ws, rfl, _⟩ := h
    rfl
  · have hu := hu_of hr
    obtain ⟨v, t, ws, rfl, p, ht, k⟩ := h
    refine ⟨_, (pss_one (ps_ret (pe_and (pe_callB call_isi (by rfl) T.b_isinstance (by decide +kernel) (pa_cons (pv 0) (pa_cons (pe_bltn (v := .ty "str") (by rfl) T.b_str (by decide +kernel) rfl) pa_nil))) (pe_one (pe_cmpR op_in_seq (pv 0) (pv 1) rfl))))), ?_⟩
    walk_at "x"
    refine x_isStr p ?_
    walk_at "x"
    cases p with
    | str x =>
      refine iteP rfl ?_
      walk_at "x"
      exact ⟨t, _, rfl, .inr ht, rfl, flat_strs ws, k⟩
    | _ => exact k

structure RuleD where
  need : Int
  of : Int
  base : Int
  more : Int
  most : Int
  calm : Int
  back : Str
  top : Int
  under : Int
  up : Bool
  hears : Str
def capOf (r : RuleD) : Int := if r.more = 0 then 1 else 1 + (r.most - r.base + r.more - 1) / r.more
def ruleF (r : RuleD) : List (Str × V) := [("need", .int r.need), ("of", .int r.of), ("base", .int r.base), ("more", .int r.more), ("most", .int r.most), ("calm", .int r.calm), ("back", .str r.back), ("top", .int r.top), ("under", .int r.under), ("up", .bl r.up), ("hears", .str r.hears), ("cap", .int (capOf r))]
def backs : List Str := ["half", "open", "trial"]
def heards : List Str := ["fault", "no", "out"]
/-- the arguments of a rule: numbers in their order, small enough -/
structure RuleOk (r : RuleD) : Prop where
  need : 1 ≤ r.need
  of : r.need ≤ r.of
  base : 1 ≤ r.base
  more : 0 ≤ r.more
  more2 : r.more < 2 ^ 30
  most : r.base ≤ r.most
  calm : 0 ≤ r.calm
  back : inV (.str r.back) (backs.map V.str) = true
  top : 0 ≤ r.top
  under : 1 ≤ r.under
  under2 : r.top ≤ r.under
  under3 : r.under < 2 ^ 30
  hears : inV (.str r.hears) (heards.map V.str) = true
def ruleVs (r : RuleD) : List V := [.int r.need, .int r.of, .int r.base, .int r.more, .int r.most, .int r.calm, .str r.back, .int r.top, .int r.under, .bl r.up, .str r.hears]
/-- a rule stands at p -/
def RuleAt (C : Addr) (H : Hp) (p : Addr) (r : RuleD) : Prop := ∃ dx, H p = some (.ins C dx (ruleF r))
def sp_wrong_number : Sp := fun vs H Q _ => ∃ a b c d e f : Int, vs = [.int a, .int b, .int c, .int d, .int e, .int f] ∧ 1 ≤ a ∧ a ≤ b ∧ 1 ≤ c ∧ 0 ≤ d ∧ c ≤ e ∧ 0 ≤ f ∧ Q .non H
theorem Tx.F_wrong_number (T : Tx w K mg) : Fn P w K mg base 3 "wrong_number" ["need", "of", "base", "more", "most", "calm"] (sp_wrong_number) := by
  refine fn_df T.d_wrong_number sc_wrong_number (fun vs H Q E h => ?_) (fun _ _ _ _ _ _ us hl => match us, hl with | [_, _, _, _, _, _], _ => rfl) (fun f cdv A outer s H vs Q E hr h => ?_)
  · obtain ⟨a, b, c, d, e, f, rfl, _⟩ := h
    rfl
  · have hu := hu_of hr
    obtain ⟨a, b, c, d, e, f, rfl, h1, h2, h3, h4, h5, h6, k⟩ := h
    refine ⟨_, (pss_cons (ps_if (pt_not (pt_val (pe_fn T.F_is_from (hr.mono (by decide)) (by rfl) (pa_cons (pv 0) (pa_cons pe_int pa_nil))))) (pss_one (ps_ret pe_str)) pss_nil)
      (pss_cons (ps_if (pt_not (pt_val (pe_fn T.F_is_from (hr.mono (by decide)) (by rfl) (pa_cons (pv 1) (pa_cons (pv 0) pa_nil))))) (pss_one (ps_ret pe_str)) pss_nil)
      (pss_cons (ps_if (pt_not (pt_val (pe_fn T.F_is_from (hr.mono (by decide)) (by rfl) (pa_cons (pv 2) (pa_cons pe_int pa_nil))))) (pss_one (ps_ret pe_str)) pss_nil)
      (pss_cons (ps_if (pt_not (pt_val (pe_fn T.F_is_number (hr.mono (by decide)) (by rfl) (pa_cons (pv 3) pa_nil)))) (pss_one (ps_ret pe_str)) pss_nil)
      (pss_cons (ps_if (pt_not (pt_val (pe_fn T.F_is_from (hr.mono (by decide)) (by rfl) (pa_cons (pv 4) (pa_cons (pv 2) pa_nil))))) (pss_one (ps_ret pe_str)) pss_nil)
      (pss_one (ps_ret (pe_ifExp (pt_val (pe_fn T.F_is_number (hr.mono (by decide)) (by rfl) (pa_cons (pv 5) pa_nil))) pe_non pe_str)))))))), ?_⟩
    walk_at "x"
    refine ⟨_, _, rfl, .int _, ?_⟩
    walk_at "x"
    refine iteN (by simp [isFrom, h1]) ?_
    walk_at "x"
    refine ⟨_, _, rfl, .int _, ?_⟩
    walk_at "x"
    refine iteN (by simp [isFrom, h2]) ?_
    walk_at "x"
    refine ⟨_, _, rfl, .int _, ?_⟩
    walk_at "x"
    refine iteN (by simp [isFrom, h3]) ?_
    walk_at "x"
    refine ⟨_, rfl, .int _, ?_⟩
    walk_at "x"
    refine iteN (by simp [isNum, h4]) ?_
    walk_at "x"
    refine ⟨_, _, rfl, .int _, ?_⟩
    walk_at "x"
    refine iteN (by simp [isFrom, h5]) ?_
    walk_at "x"
    refine ⟨_, rfl, .int _, ?_⟩
    walk_at "x"
    refine iteP (by simp [isNum, h6]) ?_
    walk_at "x"
    exact k

def sp_wrong_word : Sp := fun vs H Q _ => ∃ (a : Str) (b c : Int) (d : Bool) (e : Str), vs = [.str a, .int b, .int c, .bl d, .str e] ∧ inV (.str a) (backs.map V.str) = true ∧ 0 ≤ b ∧ 1 ≤ c ∧ b ≤ c ∧ inV (.str e) (heards.map V.str) = true ∧ Q .non H
theorem Tx.F_wrong_word (T : Tx w K mg) : Fn P w K mg base 3 "wrong_word" ["back", "top", "under", "up", "hears"] (sp_wrong_word) := by
  refine fn_df T.d_wrong_word sc_wrong_word (fun vs H Q E h => ?_) (fun _ _ _ _ _ _ us hl => match us, hl with | [_, _, _, _, _], _ => rfl) (fun f cdv A outer s H vs Q E hr h => ?_)
  · obtain ⟨a, b, c, d, e, rfl, _⟩ := h
    rfl
  · have hu := hu_of hr
    obtain ⟨a, b, c, d, e, rfl, h1, h2, h3, h4, h5, k⟩ := h
    refine ⟨_, (pss_cons (ps_if (pt_not (pt_val (pe_fn T.F_is_word (hr.mono (by decide)) (by rfl) (pa_cons (pv 0) (pa_cons (pe_glob (v := .ref _) rfl T.g_BACKS rfl) pa_nil))))) (pss_one (ps_ret pe_str)) pss_nil)
      (pss_cons (ps_if (pt_not (pt_val (pe_fn T.F_is_number (hr.mono (by decide)) (by rfl) (pa_cons (pv 1) pa_nil)))) (pss_one (ps_ret pe_str)) pss_nil)
      (pss_cons (ps_if (PW.pt (pw_or (pt_not (pt_val (pe_fn T.F_is_integer (hr.mono (by decide)) (by rfl) (pa_cons (pv 2) pa_nil)))) (pw_or (pt_cmpR op_lt (pv 2) pe_int (nomark _)) (pw_or1 (pt_cmpR op_lt (pv 2) (pv 1) (nomark _)))))) (pss_one (ps_ret pe_str)) pss_nil)
      (pss_cons (ps_if (pt_not (pt_val (pe_callB call_isi (by rfl) T.b_isinstance (by decide +kernel) (pa_cons (pv 3) (pa_cons (pe_bltn (v := .ty "bool") (by rfl) T.b_bool (by decide +kernel) rfl) pa_nil))))) (pss_one (ps_ret pe_str)) pss_nil)
      (pss_one (ps_ret (pe_ifExp (pt_val (pe_fn T.F_is_word (hr.mono (by decide)) (by rfl) (pa_cons (pv 4) (pa_cons (pe_glob (v := .ref _) rfl T.g_HEARD rfl) pa_nil)))) pe_non pe_str))))))), ?_⟩
    walk_at "x"
    refine ⟨_, _, backs, rfl, .str _, T.t_BACKS _, ?_⟩
    walk_at "x"
    refine iteN (by simp [isWord, h1]) ?_
    walk_at "x"
    refine ⟨_, rfl, .int _, ?_⟩
    walk_at "x"
    refine iteN (by simp [isNum, h2]) ?_
    walk_at "x"
    refine ⟨_, rfl, .int _, ?_⟩
    walk_at "x"
    refine iteN rfl ?_
    walk_at "x"
    refine iteN (by simp; omega) ?_
    walk_at "x"
    refine iteN (by simp; omega) ?_
    walk_at "x"
    refine x_isBool (.bl _) ?_
    walk_at "x"
    refine iteN rfl ?_
    walk_at "x"
    refine ⟨_, _, heards, rfl, .str _, T.t_HEARD _, ?_⟩
    walk_at "x"
    refine iteP (by simp [isWord, h5]) ?_
    walk_at "x"
    exact k

def sp_Rule_init (C : Addr) : Sp := fun vs H Q _ => ∃ (p dx : Addr) (r : RuleD), vs = .ref p :: ruleVs r ∧ RuleOk r ∧ H p = some (.ins C dx []) ∧ Q .non (upd H p (.ins C dx (ruleF r)))
def ruleFc (r : RuleD) (c : Int) : List (Str × V) := [("need", .int r.need), ("of", .int r.of), ("base", .int r.base), ("more", .int r.more), ("most", .int r.most), ("calm", .int r.calm), ("back", .str r.back), ("top", .int r.top), ("under", .int r.under), ("up", .bl r.up), ("hears", .str r.hears), ("cap", .int c)]
theorem Tx.M_Rule (T : Tx w K mg) : Nw P w K mg base 4 "Rule" (He.ga K "Rule") ["self", "need", "of", "base", "more", "most", "calm", "back", "top", "under", "up", "hears"] (sp_Rule_init (He.ga K "Rule")) := by
  refine nw_ki T.k_Rule sc_Rule___init__ (fun vs H Q E h => ?_) (fun _ _ _ _ _ _ us hl => match us, hl with | [_, _, _, _, _, _, _, _, _, _, _, _], _ => rfl) (fun f cdv A outer s H vs Q E hr h => ?_)
  · obtain ⟨p, dx, r, rfl, _⟩ := h
    rfl
  · have hu := hu_of hr
    obtain ⟨p, dx, r, rfl, ok, hp, k⟩ := h
    refine ⟨_, (pss_cons (ps_set (i := 12) sc_Rule___init__.nd rfl (Or.inl rfl) (pe_fn T.F_wrong_number (hr.mono (by decide)) (by rfl) (pa_cons (pv 1) (pa_cons (pv 2) (pa_cons (pv 3) (pa_cons (pv 4) (pa_cons (pv 5) (pa_cons (pv 6) pa_nil))))))))
      (pss_cons (ps_if (pt_cmp (pc_isN (pv 12))) (pss_one (ps_set (i := 12) sc_Rule___init__.nd rfl (Or.inl rfl) (pe_fn T.F_wrong_word (hr.mono (by decide)) (by rfl) (pa_cons (pv 7) (pa_cons (pv 8) (pa_cons (pv 9) (pa_cons (pv 10) (pa_cons (pv 11) pa_nil)))))))) pss_nil)
      (pss_cons (ps_if (pt_cmp (pc_notN (pv 12))) (pss_one ps_never) pss_nil)
      (pss_cons (ps_fld (pv 0) (pv 1) rfl)
      (pss_cons (ps_fld (pv 0) (pv 2) rfl)
      (pss_cons (ps_fld (pv 0) (pv 3) rfl)
      (pss_cons (ps_fld (pv 0) (pv 4) rfl)
      (pss_cons (ps_fld (pv 0) (pv 5) rfl)
      (pss_cons (ps_fld (pv 0) (pv 6) rfl)
      (pss_cons (ps_fld (pv 0) (pv 7) rfl)
      (pss_cons (ps_fld (pv 0) (pv 8) rfl)
      (pss_cons (ps_fld (pv 0) (pv 9) rfl)
      (pss_cons (ps_fld (pv 0) (pv 10) rfl)
      (pss_cons (ps_fld (pv 0) (pv 11) rfl)
      (pss_one (ps_fld (pv 0) (pe_ifExp (pt_cmpR op_eq (pv 4) pe_int (nomark _)) pe_int (pe_op op_add pe_int (pe_op op_fdiv (pe_op op_sub (pe_op op_add (pe_op op_sub (pv 5) (pv 3)) (pv 4)) pe_int) (pv 4)))) rfl)))))))))))))))), ?_⟩
    walk_at "x"
    refine ⟨_, _, _, _, _, _, rfl, ok.need, ok.of, ok.base, ok.more, ok.most, ok.calm, ?_⟩
    walk_at "x"
    refine iteP rfl ?_
    walk_at "x"
    refine ⟨_, _, _, _, _, rfl, ok.back, ok.top, ok.under, ok.under2, ok.hears, ?_⟩
    walk_at "x"
    refine iteN rfl ?_
    walk_at "x"
    refine ⟨_, _, dx, _, rfl, hp, T.c_Rule, T.n_Rule_need, (by show 0 < 1000; decide), ?_⟩
    walk_at "x"
    refine ⟨_, _, dx, _, rfl, upd_same, T.c_Rule, T.n_Rule_of, (by show 1 < 1000; decide), ?_⟩
    walk_at "x"
    refine ⟨_, _, dx, _, rfl, upd_same, T.c_Rule, T.n_Rule_base, (by show 2 < 1000; decide), ?_⟩
    walk_at "x"
    refine ⟨_, _, dx, _, rfl, upd_same, T.c_Rule, T.n_Rule_more, (by show 3 < 1000; decide), ?_⟩
    walk_at "x"
    refine ⟨_, _, dx, _, rfl, upd_same, T.c_Rule, T.n_Rule_most, (by show 4 < 1000; decide), ?_⟩
    walk_at "x"
    refine ⟨_, _, dx, _, rfl, upd_same, T.c_Rule, T.n_Rule_calm, (by show 5 < 1000; decide), ?_⟩
    walk_at "x"
    refine ⟨_, _, dx, _, rfl, upd_same, T.c_Rule, T.n_Rule_back, (by show 6 < 1000; decide), ?_⟩
    walk_at "x"
    refine ⟨_, _, dx, _, rfl, upd_same, T.c_Rule, T.n_Rule_top, (by show 7 < 1000; decide), ?_⟩
    walk_at "x"
    refine ⟨_, _, dx, _, rfl, upd_same, T.c_Rule, T.n_Rule_under, (by show 8 < 1000; decide), ?_⟩
    walk_at "x"
    refine ⟨_, _, dx, _, rfl, upd_same, T.c_Rule, T.n_Rule_up, (by show 9 < 1000; decide), ?_⟩
    walk_at "x"
    refine ⟨_, _, dx, _, rfl, upd_same, T.c_Rule, T.n_Rule_hears, (by show 10 < 1000; decide), ?_⟩
    walk_at "x"
    by_cases hm : r.more = 0
    · refine iteP (by simp [hm]) ?_
      walk_at "x"
      refine ⟨_, _, dx, _, rfl, upd_same, T.c_Rule, T.n_Rule_cap, (by show 11 < 1000; decide), ?_⟩
      have e : capOf r = 1 := by simp [capOf, hm]
      simp only [upd_upd]
      rw [show ruleF r = ruleFc r 1 by simp only [ruleF, ruleFc, e]] at k
      exact k
    · refine iteN (by simp [hm]) ?_
      walk_at "x"
      refine x_I ⟨by have := ok.more; omega, ok.more2⟩ ?_
      walk_at "x"
      refine ⟨_, _, dx, _, rfl, upd_same, T.c_Rule, T.n_Rule_cap, (by show 11 < 1000; decide), ?_⟩
      have e : capOf r = 1 + (r.most - r.base + r.more - 1) / r.more := by simp [capOf, hm]
      simp only [upd_upd]
      rw [show ruleF r = ruleFc r (1 + (r.most - r.base + r.more - 1) / r.more) by simp only [ruleF, ruleFc, e]] at k
      exact k

def limitOf (r : RuleD) (n : Int) : Int := (n * r.top + (if r.up = true then r.under - 1 else 0)) / r.under
def sp_limit (C : Addr) : Sp := fun vs H Q _ => ∃ (p : Addr) (r : RuleD) (n : Int), vs = [.ref p, .int n] ∧ RuleAt C H p r ∧ RuleOk r ∧ Q (.int (limitOf r n)) H
theorem Tx.m_Rule_limit (T : Tx w K mg) : Mt P w K mg base 1 (He.ga K "Rule") "limit" ["self", "n"] (sp_limit (He.ga K "Rule")) := by
  refine mt_md T.d_Rule_limit T.c_Rule sc_Rule_limit (fun vs H Q E h => ?_) (fun _ _ _ _ _ _ us hl => match us, hl with | [_, _], _ => rfl) (fun f cdv A outer s H vs Q E hr h => ?_)
  · obtain ⟨p, r, n, rfl, _⟩ := h
    rfl
  · have hu := hu_of hr
    obtain ⟨p, r, n, rfl, ⟨dx, hp⟩, ok, k⟩ := h
    refine ⟨_, (pss_one (ps_ret (pe_op op_fdiv (pe_op op_add (pe_op op_mul (pv 1) (pe_fld (pv 0) rfl)) (pe_ifExp (pt_val (pe_fld (pv 0) rfl)) (pe_op op_sub (pe_fld (pv 0) rfl) pe_int) pe_int)) (pe_fld (pv 0) rfl)))), ?_⟩
    walk_at "x"
    refine ⟨_, _, dx, _, _, rfl, hp, T.c_Rule, T.n_Rule_top, rfl, ?_⟩
    walk_at "x"
    refine x_I (.inr ⟨by have := ok.top; omega, by have := ok.under2; have := ok.under3; omega⟩) ?_
    walk_at "x"
    refine ⟨_, _, dx, _, _, rfl, hp, T.c_Rule, T.n_Rule_up, rfl, ?_⟩
    walk_at "x"
    have dv : CDiv (0 : Int) r.under := ⟨by have := ok.under; omega, ok.under3⟩
    unfold limitOf at k
    refine ifc (fun h => ?_) (fun h => ?_)
    · walk_at "x"
      refine ⟨_, _, dx, _, _, rfl, hp, T.c_Rule, T.n_Rule_under, rfl, ?_⟩
      walk_at "x"
      refine ⟨_, _, dx, _, _, rfl, hp, T.c_Rule, T.n_Rule_under, rfl, ?_⟩
      walk_at "x"
      refine x_I dv ?_
      rw [h, if_pos rfl] at k
      exact k
    · walk_at "x"
      refine ⟨_, _, dx, _, _, rfl, hp, T.c_Rule, T.n_Rule_under, rfl, ?_⟩
      walk_at "x"
      refine x_I dv ?_
      rw [h, if_neg (by decide)] at k
      exact k

def timeOf (r : RuleD) (j : Int) : Int := if r.most < r.base + r.more * (j - 1) then r.most else r.base + r.more * (j - 1)
def sp_time (C : Addr) : Sp := fun vs H Q _ => ∃ (p : Addr) (r : RuleD) (j : Int), vs = [.ref p, .int j] ∧ RuleAt C H p r ∧ RuleOk r ∧ Q (.int (timeOf r j)) H
theorem Tx.m_Rule_time (T : Tx w K mg) : Mt P w K mg base 1 (He.ga K "Rule") "time" ["self", "j"] (sp_time (He.ga K "Rule")) := by
  refine mt_md T.d_Rule_time T.c_Rule sc_Rule_time (fun vs H Q E h => ?_) (fun _ _ _ _ _ _ us hl => match us, hl with | [_, _], _ => rfl) (fun f cdv A outer s H vs Q E hr h => ?_)
  · obtain ⟨p, r, n, rfl, _⟩ := h
    rfl
  · have hu := hu_of hr
    obtain ⟨p, r, j, rfl, ⟨dx, hp⟩, ok, k⟩ := h
    refine ⟨_, (pss_one (ps_ret (pe_callB (call_min2' rfl) (by rfl) T.b_min (by decide +kernel) (pa_cons (pe_callTy call_int1' (by rfl) T.b_int boot_int (pa_cons (pe_op op_add (pe_fld (pv 0) rfl) (pe_op op_mul (pe_fld (pv 0) rfl) (pe_op op_sub (pv 1) pe_int))) pa_nil)) (pa_cons (pe_callTy call_int1' (by rfl) T.b_int boot_int (pa_cons (pe_fld (pv 0) rfl) pa_nil)) pa_nil))))), ?_⟩
    walk_at "x"
    refine ⟨_, _, dx, _, _, rfl, hp, T.c_Rule, T.n_Rule_base, rfl, ?_⟩
    walk_at "x"
    refine ⟨_, _, dx, _, _, rfl, hp, T.c_Rule, T.n_Rule_more, rfl, ?_⟩
    walk_at "x"
    refine x_I (.inl ⟨by have := ok.more; omega, by have := ok.more2; omega⟩) ?_
    walk_at "x"
    refine ⟨_, _, dx, _, _, rfl, hp, T.c_Rule, T.n_Rule_most, rfl, ?_⟩
    walk_at "x"
    exact k

def dealD (l : Addr) (now mixed turn : Int) : List (Key × V) := [(.inr "great", .ref l), (.inr "now", .int now), (.inr "mixed", .int mixed), (.inr "turn", .int turn)]
theorem g_great {H : Hp} {d l : Addr} {n m t : Int} (h : H d = some (.dK (dealD l n m t))) : DGet H d (.str "great") (some (.ref l)) := DGet.k (k := Sum.inr "great") h
theorem g_now {H : Hp} {d l : Addr} {n m t : Int} (h : H d = some (.dK (dealD l n m t))) : DGet H d (.str "now") (some (.int n)) := DGet.k (k := Sum.inr "now") h
theorem g_mixed {H : Hp} {d l : Addr} {n m t : Int} (h : H d = some (.dK (dealD l n m t))) : DGet H d (.str "mixed") (some (.int m)) := DGet.k (k := Sum.inr "mixed") h
theorem g_turn {H : Hp} {d l : Addr} {n m t : Int} (h : H d = some (.dK (dealD l n m t))) : DGet H d (.str "turn") (some (.int t)) := DGet.k (k := Sum.inr "turn") h
theorem p_now {H : Hp} {d l : Addr} {n m t i : Int} (h : H d = some (.dK (dealD l n m t))) : DPut H d (.str "now") (.int i) (upd H d (.dK (dealD l i m t))) := DPut.k (k := Sum.inr "now") h (by show 4 < sizeLine; decide)
theorem p_mixed {H : Hp} {d l : Addr} {n m t i : Int} (h : H d = some (.dK (dealD l n m t))) : DPut H d (.str "mixed") (.int i) (upd H d (.dK (dealD l n i t))) := DPut.k (k := Sum.inr "mixed") h (by show 4 < sizeLine; decide)
theorem p_turn {H : Hp} {d l : Addr} {n m t i : Int} (h : H d = some (.dK (dealD l n m t))) : DPut H d (.str "turn") (.int i) (upd H d (.dK (dealD l n m i))) := DPut.k (k := Sum.inr "turn") h (by show 4 < sizeLine; decide)
/-- a deal in the open: its dict, its list -/
structure DealC (H : Hp) (d l : Addr) (now mixed turn : Int) (ns : List Int) : Prop where
  d : H d = some (.dK (dealD l now mixed turn))
  l : H l = some (.lst (ns.map V.int))
  n : 0 ≤ now
  g : ∀ n ∈ ns, 0 ≤ n
/-- all but these two stand as they did -/
def But (d l : Addr) (H H' : Hp) : Prop := ∀ a, a ≠ d → a ≠ l → H' a = H a
/-- a deal by its invariant: whatever it holds, a draw tells a number -/
def DealS (l : Addr) : HO → Prop := fun u => ∃ now mixed turn : Int, 0 ≤ now ∧ u = .dK (dealD l now mixed turn)
def GreatS : HO → Prop := fun u => ∃ ns : List Int, (∀ n ∈ ns, 0 ≤ n) ∧ u = .lst (ns.map V.int)
theorem DealS.flat {l : Addr} : ∀ u, DealS l u → Flat u := by
  rintro u ⟨_, _, _, _, rfl⟩
  exact trivial
theorem GreatS.flat : ∀ u, GreatS u → Flat u := by
  rintro u ⟨_, _, rfl⟩
  exact trivial
structure Deal (P : Program) (w : World) (H : Hp) (d : Addr) : Prop where
  ex : ∃ l, H d = some (anyO P w (DealS l) d) ∧ H l = some (anyO P w GreatS l) ∧ d ≠ l
theorem Deal.mono {P : Program} {w : World} {H H' : Hp} {d : Addr} (D : Deal P w H d) (e : Ex H H') : Deal P w H' d := by
  obtain ⟨l, h1, h2, h3⟩ := D.ex
  exact ⟨l, e _ _ h1, e _ _ h2, h3⟩
/-- an open deal is closed -/
theorem DealC.abs {P : Program} {w : World} {H : Hp} {d l : Addr} {now mixed turn : Int} {ns : List Int} (C : DealC H d l now mixed turn ns) : Abs P w H (upd (upd H l (anyO P w GreatS l)) d (anyO P w (DealS l) d)) := fun a => by
  by_cases h1 : a = d
  · subst h1
    exact .inr ⟨_, DealS l, C.d, DealS.flat, ⟨now, mixed, turn, C.n, rfl⟩, upd_same⟩
  · by_cases h2 : a = l
    · subst h2
      exact .inr ⟨_, GreatS, C.l, GreatS.flat, ⟨ns, C.g, rfl⟩, by rw [upd_ne h1, upd_same]⟩
    · exact .inl (by rw [upd_ne h1, upd_ne h2])
theorem DealC.ne {H : Hp} {d l : Addr} {now mixed turn : Int} {ns : List Int} (C : DealC H d l now mixed turn ns) : d ≠ l := ne_of C.d C.l (by intro z; cases z)
theorem cut_ints (ns : List Int) (lo hi : Option Int) : ∃ ms : List Int, cutV (ns.map V.int) lo hi = ms.map V.int ∧ ms.length ≤ ns.length := by
  refine ⟨_, by unfold cutV; rw [← List.map_drop, ← List.map_take], ?_⟩
  rw [List.length_take, List.length_drop]
  omega
theorem int_at {ns : List Int} {i : Nat} {x : V} (h : (ns.map V.int)[i]? = some x) : ∃ n, x = .int n ∧ n ∈ ns := by
  rw [List.getElem?_map] at h
  cases e : ns[i]? with
  | none => rw [e] at h; cases h
  | some n => rw [e] at h; exact ⟨n, (Option.some.inj h).symm, List.mem_of_getElem? e⟩
def sp_draw0 : Sp := fun vs H Q _ => ∃ (d l : Addr) (now mixed turn many : Int) (ns : List Int), vs = [.ref d, .int many] ∧ DealC H d l now mixed turn ns ∧ 0 < many ∧ many < 2 ^ 30 ∧
  ∀ (r now' mixed' turn' : Int) (ns' : List Int) (H' : Hp), 0 ≤ r → r < many → DealC H' d l now' mixed' turn' ns' → But d l H H' → Q (.int r) H'
theorem Tx.draw0 (T : Tx w K mg) : Fn P w K mg base 1 "_law_draw" ["_law_deal_here", "_law_many"] (sp_draw0) := by
  refine fn_df T.d__law_draw sc__law_draw (fun vs H Q E h => ?_) (fun _ _ _ _ _ _ us hl => match us, hl with | [_, _], _ => rfl) (fun f cdv A outer s H vs Q E hr h => ?_)
  · obtain ⟨d, l, now, mixed, turn, many, ns, rfl, _⟩ := h
    rfl
  · have hu := hu_of hr
    obtain ⟨d, l, now, mixed, turn, many, ns, rfl, C, m0, m1, k⟩ := h
    refine ⟨_, (pss_cons (ps_while PassesOwn.never (PW.pt (pw_and (pt_cmpR op_eq (pe_dget hu (pv 0) pe_str (fun _ _ => rfl)) pe_int (nomark _)) (pw_and1 (pt_cmpR op_gt (pe_callB call_lenQ (by rfl) T.b_len PySem.boot_len (pa_cons (pe_dget hu (pv 0) pe_str (fun _ _ => rfl)) pa_nil)) pe_int (nomark _))))) (pss_one (ps_dput hu (pv 0) pe_str (pe_bm0 PySem.F.plainAttrs_list PySem.F.slot_list_pop PySem.F.type_list_pop mt_pop (pe_dget hu (pv 0) pe_str (fun _ _ => rfl))) rfl)))
      (pss_cons (ps_if (pt_cmpR op_gt (pe_dget hu (pv 0) pe_str (fun _ _ => rfl)) pe_int (nomark _)) (pss_cons (ps_set (i := 2) sc__law_draw.nd rfl (Or.inl rfl) (pe_op op_mod (pe_callTy call_int1' (by rfl) T.b_int boot_int (pa_cons (pe_dget hu (pv 0) pe_str (fun _ _ => rfl)) pa_nil)) (pv 1)))
      (pss_cons (ps_dput hu (pv 0) pe_str (pe_op op_fdiv (pe_dget hu (pv 0) pe_str (fun _ _ => rfl)) (pv 1)) rfl)
      (pss_one (ps_ret (pv 2))))) pss_nil)
      (pss_cons (ps_dput hu (pv 0) pe_str (pe_op op_add (pe_dget hu (pv 0) pe_str (fun _ _ => rfl)) pe_int) rfl)
      (pss_cons (ps_set (i := 3) sc__law_draw.nd rfl (Or.inl rfl) (pe_op op_mod (pe_callTy call_int1' (by rfl) T.b_int boot_int (pa_cons (pe_op op_add (pe_op op_mul (pe_dget hu (pv 0) pe_str (fun _ _ => rfl)) pe_int) (pe_op op_mul (pe_dget hu (pv 0) pe_str (fun _ _ => rfl)) pe_int)) pa_nil)) pe_int))
      (pss_cons (ps_set (i := 4) sc__law_draw.nd rfl (Or.inl rfl) (pe_op op_mod (pe_callTy call_int1' (by rfl) T.b_int boot_int (pa_cons (pe_op op_add (pe_op op_mul (pv 3) (pv 3)) (pe_op op_mul (pe_dget hu (pv 0) pe_str (fun _ _ => rfl)) pe_int)) pa_nil)) pe_int))
      (pss_cons (ps_dput hu (pv 0) pe_str (pe_op op_add (pe_op op_mod (pe_callTy call_int1' (by rfl) T.b_int boot_int (pa_cons (pe_op op_add (pe_op op_mul (pv 4) pe_int) (pv 3)) pa_nil)) pe_int) pe_int) rfl)
      (pss_one (ps_ret (pe_op op_mod (pe_callTy call_int1' (by rfl) T.b_int boot_int (pa_cons (pe_op op_add (pe_op op_fdiv (pv 4) pe_int) (pv 3)) pa_nil)) (pv 1)))))))))), ?_⟩
    refine x_cut (fun σ' H' => σ' = [some (.ref d), some (.int many), none, none, none] ∧ ∃ now ns, DealC H' d l now mixed turn ns ∧ But d l H H') (fun nn hn => ?_) ?_
    · refine x_while (fun m σ' H' => σ' = [some (.ref d), some (.int many), none, none, none] ∧ ∃ now ns, DealC H' d l now mixed turn ns ∧ But d l H H' ∧ m = ns.length) ns.length ⟨rfl, now, ns, C, fun _ _ _ => rfl, rfl⟩ ?_
      rintro m σ' H1 ⟨rfl, now1, ns1, C1, b1, rfl⟩
      have hn1 := hn _ H1 ⟨rfl, now1, ns1, C1, b1⟩
      walk_at "x"
      refine ⟨_, _, rfl, g_now C1.d, ?_⟩
      walk_at "x"
      refine ifc (fun h => ?_) (fun h => ?_)
      · walk_at "x"
        refine ⟨_, _, rfl, g_great C1.d, ?_⟩
        walk_at "x"
        refine x_lenL C1.l ?_
        walk_at "x"
        refine ifc (fun h2 => ?_) (fun h2 => hn1)
        refine x_turn ?_
        walk_at "x"
        refine ⟨_, _, rfl, g_great C1.d, ?_⟩
        have hpos : 0 < ns1.length := by simpa using h2
        obtain ⟨ms, y, rfl⟩ : ∃ ms y, ns1 = ms ++ [y] := by
          rcases List.eq_nil_or_concat ns1 with rfl | ⟨ms, y, rfl⟩
          · simp at hpos
          · exact ⟨ms, y, by simp⟩
        have hy : 0 ≤ y := C1.g y (by simp)
        refine x_pop (y := .int y) C1.l (by simp) ?_
        have ndl : d ≠ l := C1.ne
        walk_at "x"
        refine ⟨_, _, rfl, p_now (by rw [upd_ne ndl]; exact C1.d), ?_⟩
        refine ⟨ms.length, by simp, rfl, y, ms, ⟨upd_same, ?_, hy, fun n hn => C1.g n (by simp [hn])⟩, fun a h1 h2 => ?_, rfl⟩
        · rw [upd_ne ndl.symm, upd_same]; simp
        · rw [upd_ne h1, upd_ne h2]; exact b1 a h1 h2
      · exact hn1
    · rintro σ' H1 ⟨rfl, now1, ns1, C1, b1⟩
      have ndl : d ≠ l := C1.ne
      walk_at "x"
      refine ⟨_, _, rfl, g_now C1.d, ?_⟩
      walk_at "x"
      refine ifc (fun h => ?_) (fun h => ?_)
      · walk_at "x"
        refine ⟨_, _, rfl, g_now C1.d, ?_⟩
        walk_at "x"
        refine x_I m0 ?_
        walk_at "x"
        refine ⟨_, _, rfl, g_now C1.d, ?_⟩
        walk_at "x"
        refine x_I ⟨m0, m1⟩ ?_
        walk_at "x"
        refine ⟨_, _, rfl, p_now C1.d, ?_⟩
        walk_at "x"
        refine k _ _ _ _ ns1 _ (Int.emod_nonneg _ (by omega)) (Int.emod_lt_of_pos _ m0) ⟨upd_same, (upd_ne ndl.symm).trans C1.l, Int.ediv_nonneg C1.n (by omega), C1.g⟩ fun a h1 h2 => (upd_ne h1).trans (b1 a h1 h2)
      · walk_at "x"
        refine ⟨_, _, rfl, g_turn C1.d, ?_⟩
        walk_at "x"
        refine ⟨_, _, rfl, p_turn C1.d, ?_⟩
        walk_at "x"
        refine ⟨_, _, rfl, g_mixed upd_same, ?_⟩
        walk_at "x"
        refine x_I (.inr (by decide)) ?_
        walk_at "x"
        refine ⟨_, _, rfl, g_turn upd_same, ?_⟩
        walk_at "x"
        refine x_I (.inr (by decide)) ?_
        walk_at "x"
        refine x_I (by decide) ?_
        generalize hf : (mixed * 48271 + (turn + 1) * 69621) % 2147483629 = fst
        have hf1 : 0 ≤ fst ∧ fst < 2147483629 := by omega
        walk_at "x"
        refine x_I (.inr (by constructor <;> omega)) ?_
        walk_at "x"
        refine ⟨_, _, rfl, g_turn upd_same, ?_⟩
        walk_at "x"
        refine x_I (.inr (by decide)) ?_
        walk_at "x"
        refine x_I (by decide) ?_
        generalize hs : (fst * fst + (turn + 1) * 7919) % 2147483563 = snd
        have hs1 : 0 ≤ snd ∧ snd < 2147483563 := by omega
        walk_at "x"
        refine x_I (.inr (by decide)) ?_
        walk_at "x"
        refine x_I (by decide) ?_
        walk_at "x"
        refine ⟨_, _, rfl, p_mixed upd_same, ?_⟩
        walk_at "x"
        refine x_I ⟨by decide, by decide⟩ ?_
        walk_at "x"
        refine x_I m0 ?_
        refine k _ _ _ _ ns1 _ (Int.emod_nonneg _ (by omega)) (Int.emod_lt_of_pos _ m0) ⟨upd_same, by rw [upd_ne ndl.symm, upd_ne ndl.symm]; exact C1.l, C1.n, C1.g⟩ fun a h1 h2 => by rw [upd_ne h1, upd_ne h1]; exact b1 a h1 h2

def sp_draw (P : Program) (w : World) : Sp := fun vs H Q _ => ∃ (d : Addr) (many : Int), vs = [.ref d, .int many] ∧ Deal P w H d ∧ 0 < many ∧ many < 2 ^ 30 ∧ ∀ r : Int, 0 ≤ r → r < many → Q (.int r) H
theorem Tx.F__law_draw (T : Tx w K mg) : Fn P w K mg base 1 "_law_draw" ["_law_deal_here", "_law_many"] (sp_draw P w) := by
  refine (Tx.draw0 (P := P) (w := w) (base := base) T).post.pre.pre.imp ?_
  rintro vs H Q E ⟨d, many, rfl, D, m0, m1, k⟩
  obtain ⟨l, hd, hl, ndl⟩ := D.ex
  refine ⟨rfl, l, GreatS, hl, GreatS.flat, ?_⟩
  rintro _ ⟨ns, hns, rfl⟩
  refine ⟨rfl, d, DealS l, by rw [upd_ne ndl]; exact hd, DealS.flat, ?_⟩
  rintro _ ⟨now, mixed, turn, hnow, rfl⟩
  refine ⟨d, l, now, mixed, turn, many, ns, rfl, ⟨upd_same, by rw [upd_ne ndl.symm, upd_same], hnow, hns⟩, m0, m1, fun r now' mixed' turn' ns' H' r0 r1 C b => ⟨_, C.abs, ?_⟩⟩
  have e : upd (upd H' l (anyO P w GreatS l)) d (anyO P w (DealS l) d) = H := by
    funext a
    by_cases h1 : a = d
    · rw [h1, upd_same]; exact hd.symm
    · by_cases h2 : a = l
      · rw [upd_ne h1, h2, upd_same]; exact hl.symm
      · rw [upd_ne h1, upd_ne h2, b a h1 h2, upd_ne h1, upd_ne h2]
  rw [e]
  exact k r r0 r1
def sp_deal0 (K : PySem.W.Frag) : Sp := fun vs H Q _ => ∃ (a : Addr) (ns : List Int) (b : Int), vs = [.ref a, .int b] ∧ SqL K H a (ns.map V.int) ∧ ns.length ≤ 63 ∧
  ∀ (d l : Addr) (H' : Hp) (now mixed turn : Int) (ms : List Int), H d = none → H l = none → Ex H H' → DealC H' d l now mixed turn ms → Q (.ref d) H' 
theorem Tx.deal0 (T : Tx w K mg) : Fn P w K mg base 1 "_law_deal" ["_law_script", "_law_base"] (sp_deal0 K) := by
  refine fn_df T.d__law_deal sc__law_deal (fun vs H Q E h => ?_) (fun _ _ _ _ _ _ us hl => match us, hl with | [_, _], _ => rfl) (fun f cdv A outer s H vs Q E hr h => ?_)
  · obtain ⟨a, ns, b, rfl, _⟩ := h
    rfl
  · have hu := hu_of hr
    obtain ⟨a, ns, b, rfl, hS, hlen, k⟩ := h
    refine ⟨_, (pss_cons (ps_setLc (i := 3) (own := [("_law_cell", 2)]) (g := gName 2) (tt := tYes) (by rfl) sc__law_deal.nd rfl rfl (sw_true rfl rfl rfl (by decide +kernel)) (pi_list (pe_slice sl_list (pv 0) (po_some (pv 1)) (po_some pe_int))) (blkOk_by (own := [("_law_cell", 2)]) (N := ["_law_script", "_law_base", "_law_cell", "_law_cells", "_law_mixed", "_law_great"]) (sc := defScope s__law_deal) (by decide +kernel)) (fun _ _ _ _ _ => pg_name (i := 2) sc__law_deal.nd rfl (Or.inl rfl)) (fun _ _ _ _ _ => pts_nil) (fun _ _ _ _ _ => (pe_callB call_abs' (by rfl) T.b_abs (by decide +kernel) (pa_cons (pv 2) pa_nil))))
      (pss_cons (ps_set (i := 4) sc__law_deal.nd rfl (Or.inl rfl) (pe_op op_add pe_int (pv 1)))
      (pss_cons (ps_for PassesOwn.never rfl (pi_list (pv 3)) (pg_name (i := 2) sc__law_deal.nd rfl (Or.inl rfl)) (pss_one (ps_set (i := 4) sc__law_deal.nd rfl (Or.inl rfl) (pe_op op_mod (pe_callTy call_int1' (by rfl) T.b_int boot_int (pa_cons (pe_op op_add (pe_op op_mul (pv 4) pe_int) (pv 2)) pa_nil)) pe_int))))
      (pss_cons (ps_setLc (i := 5) (own := [("_law_cell", 2)]) (g := gName 2) (by rfl) sc__law_deal.nd rfl rfl (sw_true rfl rfl rfl (by decide +kernel)) (pi_list (pv 3)) (blkOk_by (own := [("_law_cell", 2)]) (N := ["_law_script", "_law_base", "_law_cell", "_law_cells", "_law_mixed", "_law_great"]) (sc := defScope s__law_deal) (by decide +kernel)) (fun _ _ _ _ _ => pg_name (i := 2) sc__law_deal.nd rfl (Or.inl rfl)) (fun _ _ _ _ _ => pts_one (pt_cmpR op_ge (pv 2) (pe_op op_pow pe_int pe_int) (nomark _))) (fun _ _ _ _ _ => (pv 2)))
      (pss_one (ps_ret (pe_disp (pps_cons pe_str (pe_revL (pv 5)) (pps_cons pe_str pe_int (pps_cons pe_str (pe_op op_add (pv 4) pe_int) (pps_cons pe_str pe_int pps_nil)))) (by rfl) (by rfl) (fun z => by cases z) (by decide)))))))), ?_⟩
    walk_at "x"
    refine ⟨_, _, rfl, hS, fun p hp => ?_⟩
    refine ⟨p, rfl, ⟨_, SqL.of upd_same⟩, ?_⟩
    obtain ⟨cs, ecs, hcs⟩ := cut_ints ns (some b) (some 63)
    have e1 : Ex H (upd H p (.lst (cutV (ns.map V.int) (some b) (some 63)))) := Ex.new hp
    refine comp_list (fun i acc => acc.length = i ∧ ∃ ms : List Int, acc = ms.map V.int ∧ ∀ m ∈ ms, 0 ≤ m) (SqL.of upd_same) (by rw [ecs, List.length_map]; omega) (fun _ => rfl) ⟨rfl, [], rfl, by simp⟩ ?_ ?_
    · rintro i x acc H2 hi ⟨hl, ms, rfl, hm⟩ e2 KY KN ky kn
      rw [ecs] at hi
      obtain ⟨n, rfl, _⟩ := int_at hi
      walk_at "x"
      refine iteP rfl ?_
      walk_at "x"
      refine ky _ _ (Ex.refl _) ⟨by simp at hl ⊢; exact hl, ms ++ [if n < 0 then -n else n], by simp, ?_⟩
      intro m hmem
      rcases List.mem_append.mp hmem with h | h
      · exact hm m h
      · rw [List.mem_singleton.mp h]; split <;> omega
    rintro D acc H2 hD e2 hDl ⟨hlen2, ms, rfl, hm⟩
    rw [ecs, List.length_map] at hlen2
    have hcl : ms.length ≤ 63 := by simp at hlen2; omega
    have eH2 : Ex H H2 := e1.trans e2
    walk_at "x"
    refine x_cut (fun σ' H' => ∃ (c : Option V) (mx : Int), σ' = [some (.ref a), some (.int b), c, some (.ref D), some (.int mx), none] ∧ H' = H2) (fun nn hn => ?_) ?_
    · walk_at "x"
      refine ⟨⟨_, SqL.of hDl⟩, turns_list (K := K) (xs := ms.map V.int) (fun i σ' H' => ∃ (c : Option V) (mx : Int), σ' = [some (.ref a), some (.int b), c, some (.ref D), some (.int mx), none] ∧ H' = H2) ⟨_, _, rfl, rfl⟩ (fun i σ' H' _ ⟨_, _, _, e⟩ => by rw [e]; exact SqL.of hDl) ?_ ?_⟩
      · rintro i x σ' H' hi ⟨c, mx, rfl, rfl⟩
        obtain ⟨n, rfl, _⟩ := int_at hi
        walk_at "x"
        refine x_I (.inr (by decide)) ?_
        walk_at "x"
        refine x_I (by decide) ?_
        exact ⟨_, _, rfl, rfl⟩
      · rintro σ' H' ⟨c, mx, rfl, rfl⟩
        exact hn _ _ ⟨_, _, rfl, rfl⟩
    rintro σ' _ ⟨c, mx, rfl, rfl⟩
    walk_at "x"
    refine ⟨⟨_, SqL.of hDl⟩, ?_⟩
    refine comp_list (fun i acc => acc.length ≤ i ∧ ∃ ms : List Int, acc = ms.map V.int ∧ ∀ m ∈ ms, 0 ≤ m) (SqL.of hDl) (by rw [List.length_map]; omega) (fun _ => rfl) ⟨Nat.le_refl _, [], rfl, by simp⟩ ?_ ?_
    · rintro i x acc H3 hi ⟨hl, gs, rfl, hg⟩ e3 KY KN ky kn
      obtain ⟨n, rfl, hn⟩ := int_at hi
      walk_at "x"
      refine x_I ⟨by decide, by decide, by decide⟩ ?_
      walk_at "x"
      refine ifc (fun h => ?_) (fun h => ?_)
      · walk_at "x"
        refine ky _ _ (Ex.refl _) ⟨by simp at hl ⊢; exact hl, gs ++ [n], by simp, ?_⟩
        intro m hmem
        rcases List.mem_append.mp hmem with h | h
        · exact hg m h
        · rw [List.mem_singleton.mp h]; exact hm n hn
      · exact kn _ (Ex.refl _) ⟨by omega, gs, rfl, hg⟩
    rintro G acc H3 hG e3 hGl ⟨_, gs, rfl, hg⟩
    walk_at "x"
    refine x_disp fun q hq => ?_
    walk_at "x"
    have hGq : G ≠ q := ne_of_none hGl hq
    refine ⟨_, _, rfl, SqL.of (by rw [upd_ne hGq]; exact hGl), fun l hl => ?_⟩
    have hlq : l ≠ q := fun z => by rw [z, upd_same] at hl; cases hl
    have hl3 : H3 l = none := by rw [upd_ne hlq] at hl; exact hl
    walk_at "x"
    have back : ∀ z, H3 z = none → H z = none := fun z hz => by
      cases e : H z with
      | none => rfl
      | some o => rw [e3 _ _ (eH2 _ _ e)] at hz; cases hz
    refine ⟨by rw [upd_ne hlq.symm, upd_same], [(.inr "great", .ref l), (.inr "now", .int 0), (.inr "mixed", .int (mx + 1)), (.inr "turn", .int 0)], rfl, (by show 4 ≤ 15; decide), ?_⟩
    refine k q l _ 0 (mx + 1) 0 gs.reverse (back q hq) (back l hl3) (fun z o hz => ?_) ⟨upd_same, ?_, Int.le_refl 0, fun n hn => hg n (by simpa using hn)⟩
    · have hz3 := e3 _ _ (eH2 _ _ hz)
      rw [upd_ne (ne_of_none hz3 hq), upd_ne (ne_of_none hz3 hl3), upd_ne (ne_of_none hz3 hq)]
      exact hz3
    · rw [upd_ne hlq, upd_same]; simp

def sp_deal (P : Program) (w : World) (K : PySem.W.Frag) : Sp := fun vs H Q _ => ∃ (a : Addr) (ns : List Int) (b : Int), vs = [.ref a, .int b] ∧ SqL K H a (ns.map V.int) ∧ ns.length ≤ 63 ∧
  ∀ (d : Addr) (H' : Hp), Ex H H' → Deal P w H' d → Q (.ref d) H'
theorem Tx.F__law_deal (T : Tx w K mg) : Fn P w K mg base 1 "_law_deal" ["_law_script", "_law_base"] (sp_deal P w K) := by
  refine (Tx.deal0 (P := P) (w := w) (base := base) T).post.imp ?_
  rintro vs H Q E ⟨a, ns, b, rfl, hS, hl, k⟩
  refine ⟨a, ns, b, rfl, hS, hl, fun d l H' now mixed turn ms hd hl e C => ⟨_, C.abs, k d _ (fun z o hz => ?_) ⟨l, upd_same, by rw [upd_ne C.ne.symm, upd_same], C.ne⟩⟩⟩
  rw [upd_ne (ne_of_none hz hd), upd_ne (ne_of_none hz hl)]
  exact e z o hz
def sp_pick (P : Program) (w : World) (K : PySem.W.Frag) : Sp := fun vs H Q _ => ∃ (d a : Addr) (xs : List V), vs = [.ref d, .ref a] ∧ Deal P w H d ∧ SqL K H a xs ∧ 0 < xs.length ∧ xs.length < 2 ^ 30 ∧ ∀ (i : Nat) (x : V), xs[i]? = some x → Q x H
theorem Tx.F__law_pick (T : Tx w K mg) : Fn P w K mg base 2 "_law_pick" ["_law_deal_here", "_law_some"] (sp_pick P w K) := by
  refine fn_df T.d__law_pick sc__law_pick (fun vs H Q E h => ?_) (fun _ _ _ _ _ _ us hl => match us, hl with | [_, _], _ => rfl) (fun f cdv A outer s H vs Q E hr h => ?_)
  · obtain ⟨d, a, xs, rfl, _⟩ := h
    rfl
  · have hu := hu_of hr
    obtain ⟨d, a, xs, rfl, D, hS, h0, h1, k⟩ := h
    refine ⟨_, (pss_one (ps_ret (pe_ix (r := rIxL K) ix_list (pv 1) (pe_fn T.F__law_draw (hr.mono (by decide)) (by rfl) (pa_cons (pv 0) (pa_cons (pe_callB call_lenQ (by rfl) T.b_len PySem.boot_len (pa_cons (pv 1) pa_nil)) pa_nil))) (fun _ _ => rfl)))), ?_⟩
    walk_at "x"
    refine ⟨_, _, rfl, .inl hS, ?_⟩
    walk_at "x"
    refine ⟨d, _, rfl, D, by exact_mod_cast h0, by exact_mod_cast h1, fun r r0 r1 => ?_⟩
    obtain ⟨j, rfl⟩ := Int.eq_ofNat_of_zero_le r0
    have hj : j < xs.length := by exact_mod_cast r1
    exact ⟨_, _, _, _, rfl, rfl, hS, atI_nat (List.getElem?_eq_getElem hj), k j _ (List.getElem?_eq_getElem hj)⟩

theorem RuleAt.mono {C : Addr} {H H' : Hp} {p : Addr} {r : RuleD} (R : RuleAt C H p r) (e : Ex H H') : RuleAt C H' p r := by
  obtain ⟨dx, h⟩ := R
  exact ⟨dx, e _ _ h⟩
theorem rule_heap {C : Addr} {H : Hp} {x dx : Addr} (r : RuleD) (hx : H x = none) (hdx : H dx = none) : ∃ H2, upd (upd (upd H dx (.own x)) x (.ins C dx [])) x (.ins C dx (ruleF r)) = H2 ∧ Ex H H2 ∧ RuleAt C H2 x r := by
  refine ⟨_, rfl, fun a o e => ?_, dx, upd_same⟩
  rw [upd_ne (ne_of_none e hx), upd_ne (ne_of_none e hx), upd_ne (ne_of_none e hdx)]
  exact e
/-- a drawn rule's numbers -/
structure RuleDr (r : RuleD) : Prop where
  ok : RuleOk r
  of : r.of ≤ 4
  base : r.base ≤ 3
  more : r.more ≤ 3
  most : r.most ≤ r.base + 4
  calm : r.calm ≤ 3
  under : r.under ≤ 6
theorem backs_at {x : V} {i : Nat} (h : ([.str "half", .str "open", .str "trial"] : List V)[i]? = some x) : ∃ z : Str, x = .str z ∧ inV (.str z) (backs.map V.str) = true := by
  match i, h with
  | 0, h => cases h; exact ⟨_, rfl, by decide +kernel⟩
  | 1, h => cases h; exact ⟨_, rfl, by decide +kernel⟩
  | 2, h => cases h; exact ⟨_, rfl, by decide +kernel⟩
  | i + 3, h => simp at h
theorem hears_at {x : V} {i : Nat} (h : ([.str "fault", .str "no", .str "out"] : List V)[i]? = some x) : ∃ z : Str, x = .str z ∧ inV (.str z) (heards.map V.str) = true := by
  match i, h with
  | 0, h => cases h; exact ⟨_, rfl, by decide +kernel⟩
  | 1, h => cases h; exact ⟨_, rfl, by decide +kernel⟩
  | 2, h => cases h; exact ⟨_, rfl, by decide +kernel⟩
  | i + 3, h => simp at h
theorem tops_at {x : V} {i : Nat} {a b c : Int} (h : ([.int a, .int b, .int c, .int 1] : List V)[i]? = some x) : ∃ z : Int, x = .int z ∧ (z = a ∨ z = b ∨ z = c ∨ z = 1) := by
  match i, h with
  | 0, h => cases h; exact ⟨_, rfl, .inl rfl⟩
  | 1, h => cases h; exact ⟨_, rfl, .inr (.inl rfl)⟩
  | 2, h => cases h; exact ⟨_, rfl, .inr (.inr (.inl rfl))⟩
  | 3, h => cases h; exact ⟨_, rfl, .inr (.inr (.inr rfl))⟩
  | i + 4, h => simp at h
def sp_drawn (P : Program) (w : World) : Sp := fun vs H Q _ => ∃ (d : Addr), vs = [.ref d] ∧ Deal P w H d ∧ ∀ (t : Addr) (r : RuleD) (H' : Hp), Ex H H' → H' t = some (.tup (ruleVs r)) → RuleDr r → Q (.ref t) H' 
theorem Tx.F__law_drawn_rule (T : Tx w K mg) : Fn P w K mg base 3 "_law_drawn_rule" ["_law_deal_here"] (sp_drawn P w) := by
  refine fn_df T.d__law_drawn_rule sc__law_drawn_rule (fun vs H Q E h => ?_) (fun _ _ _ _ _ _ us hl => match us, hl with | [_], _ => rfl) (fun f cdv A outer s H vs Q E hr h => ?_)
  · obtain ⟨d, rfl, _⟩ := h
    rfl
  · have hu := hu_of hr
    obtain ⟨d, rfl, D, k⟩ := h
    refine ⟨_, (pss_cons (ps_set (i := 1) sc__law_drawn_rule.nd rfl (Or.inl rfl) (pe_op op_add pe_int (pe_fn T.F__law_draw (hr.mono (by decide)) (by rfl) (pa_cons (pv 0) (pa_cons pe_int pa_nil)))))
      (pss_cons (ps_par (by rfl) sc__law_drawn_rule.nd (i := 2) (j := 3) rfl rfl (by decide) rfl rfl (pa_cons (pe_op op_add pe_int (pe_fn T.F__law_draw (hr.mono (by decide)) (by rfl) (pa_cons (pv 0) (pa_cons pe_int pa_nil)))) (pa_cons (pe_op op_add pe_int (pe_fn T.F__law_draw (hr.mono (by decide)) (by rfl) (pa_cons (pv 0) (pa_cons pe_int pa_nil)))) pa_nil)) (by rfl))
      (pss_cons (ps_set (i := 4) sc__law_drawn_rule.nd rfl (Or.inl rfl) (pe_tup (pa_cons (pe_op op_add pe_int (pe_fn T.F__law_draw (hr.mono (by decide)) (by rfl) (pa_cons (pv 0) (pa_cons (pv 1) pa_nil)))) (pa_cons (pv 1) (pa_cons (pv 2) (pa_cons (pe_fn T.F__law_draw (hr.mono (by decide)) (by rfl) (pa_cons (pv 0) (pa_cons pe_int pa_nil))) (pa_cons (pe_op op_add (pv 2) (pe_fn T.F__law_draw (hr.mono (by decide)) (by rfl) (pa_cons (pv 0) (pa_cons pe_int pa_nil)))) pa_nil)))))))
      (pss_cons (ps_set (i := 4) sc__law_drawn_rule.nd rfl (Or.inl rfl) (pe_op op_catT (pv 4) (pe_tup (pa_cons (pe_fn T.F__law_draw (hr.mono (by decide)) (by rfl) (pa_cons (pv 0) (pa_cons pe_int pa_nil))) pa_nil))))
      (pss_cons (ps_set (i := 5) sc__law_drawn_rule.nd rfl (Or.inl rfl) (pe_fn T.F__law_pick (hr.mono (by decide)) (by rfl) (pa_cons (pv 0) (pa_cons (pe_lst (pa_cons (pe_fn T.F__law_draw (hr.mono (by decide)) (by rfl) (pa_cons (pv 0) (pa_cons (pe_op op_add (pv 3) pe_int) pa_nil))) (pa_cons (pe_fn T.F__law_draw (hr.mono (by decide)) (by rfl) (pa_cons (pv 0) (pa_cons (pe_op op_add (pv 3) pe_int) pa_nil))) (pa_cons (pv 3) (pa_cons pe_int pa_nil))))) pa_nil))))
      (pss_cons (ps_par (by rfl) sc__law_drawn_rule.nd (i := 6) (j := 7) rfl rfl (by decide) rfl rfl (pa_cons (pe_fn T.F__law_pick (hr.mono (by decide)) (by rfl) (pa_cons (pv 0) (pa_cons (pe_lst (pa_cons pe_str (pa_cons pe_str (pa_cons pe_str pa_nil)))) pa_nil))) (pa_cons (pe_fn T.F__law_pick (hr.mono (by decide)) (by rfl) (pa_cons (pv 0) (pa_cons (pe_lst (pa_cons pe_str (pa_cons pe_str (pa_cons pe_str pa_nil)))) pa_nil))) pa_nil)) (by rfl))
      (pss_one (ps_ret (pe_op op_catT (pv 4) (pe_tup (pa_cons (pv 6) (pa_cons (pv 5) (pa_cons (pv 3) (pa_cons (pe_cmpR op_eq (pe_fn T.F__law_draw (hr.mono (by decide)) (by rfl) (pa_cons (pv 0) (pa_cons pe_int pa_nil))) pe_int (nomark _)) (pa_cons (pv 7) pa_nil))))))))))))))), ?_⟩
    walk_at "y"
    refine ⟨d, _, rfl, D, by decide, by decide, fun wi wi0 wi1 => ?_⟩
    walk_at "y"
    refine ⟨d, _, rfl, D, by decide, by decide, fun ba ba0 ba1 => ?_⟩
    walk_at "y"
    refine ⟨d, _, rfl, D, by decide, by decide, fun un un0 un1 => ?_⟩
    walk_at "y"
    refine ⟨_, _, rfl, ?_⟩
    walk_at "y"
    refine ⟨d, _, rfl, D, (by omega), (by omega), fun ne ne0 ne1 => ?_⟩
    walk_at "y"
    refine ⟨d, _, rfl, D, by decide, by decide, fun mo mo0 mo1 => ?_⟩
    walk_at "y"
    refine ⟨d, _, rfl, D, by decide, by decide, fun ms ms0 ms1 => ?_⟩
    walk_at "y"
    refine ⟨by show 5 ≤ sizeLine; decide, fun t1 ht1 => ?_⟩
    obtain ⟨H1, hH1, e1, D1, T1⟩ : ∃ H1, upd H t1 (.tup [.int (1 + ne), .int (1 + wi), .int (1 + ba), .int mo, .int (1 + ba + ms)]) = H1 ∧ Ex H H1 ∧ Deal P w H1 d ∧ H1 t1 = some (.tup [.int (1 + ne), .int (1 + wi), .int (1 + ba), .int mo, .int (1 + ba + ms)]) := ⟨_, rfl, Ex.new ht1, D.mono (Ex.new ht1), upd_same⟩
    rw [hH1]
    clear hH1
    walk_at "y"
    refine ⟨d, _, rfl, D1, by decide, by decide, fun ca ca0 ca1 => ?_⟩
    walk_at "y"
    refine ⟨by show 1 ≤ sizeLine; decide, fun t2 ht2 => ?_⟩
    refine ⟨_, _, _, _, rfl, rfl, SqT.of (by rw [upd_ne (ne_of_none T1 ht2)]; exact T1), SqT.of upd_same, (by simp), (by show 5 + 1 ≤ sizeLine; decide), (fun h => by cases h), fun _ t3 ht3 => ?_⟩
    have e2 : Ex H1 (upd H1 t2 (.tup [.int ca])) := Ex.new ht2
    obtain ⟨H2, hH2, e3, D2, T2⟩ : ∃ H2, upd (upd H1 t2 (.tup [.int ca])) t3 (.tup ([.int (1 + ne), .int (1 + wi), .int (1 + ba), .int mo, .int (1 + ba + ms)] ++ [.int ca])) = H2 ∧ Ex H1 H2 ∧ Deal P w H2 d ∧ H2 t3 = some (.tup [.int (1 + ne), .int (1 + wi), .int (1 + ba), .int mo, .int (1 + ba + ms), .int ca]) := ⟨_, rfl, e2.trans (Ex.new ht3), D1.mono (e2.trans (Ex.new ht3)), upd_same⟩
    rw [hH2]
    clear hH2
    walk_at "y"
    refine ⟨d, _, rfl, D2, (by omega), (by omega), fun ta ta0 ta1 => ?_⟩
    walk_at "y"
    refine ⟨d, _, rfl, D2, (by omega), (by omega), fun tb tb0 tb1 => ?_⟩
    walk_at "y"
    refine ⟨by show 4 ≤ sizeLine; decide, fun l1 hl1 => ?_⟩
    obtain ⟨H3, hH3, e4, D3, L1⟩ : ∃ H3, upd H2 l1 (.lst [.int ta, .int tb, .int (1 + un), .int 1]) = H3 ∧ Ex H2 H3 ∧ Deal P w H3 d ∧ H3 l1 = some (.lst [.int ta, .int tb, .int (1 + un), .int 1]) := ⟨_, rfl, Ex.new hl1, D2.mono (Ex.new hl1), upd_same⟩
    rw [hH3]
    clear hH3
    walk_at "y"
    refine ⟨d, l1, _, rfl, D3, SqL.of L1, (by simp), (by simp), fun i x hx => ?_⟩
    obtain ⟨tp, rfl, htp⟩ := tops_at hx
    walk_at "y"
    refine ⟨by show 3 ≤ sizeLine; decide, fun l2 hl2 => ?_⟩
    obtain ⟨H4, hH4, e5, D4, L2⟩ : ∃ H4, upd H3 l2 (.lst [.str "half", .str "open", .str "trial"]) = H4 ∧ Ex H3 H4 ∧ Deal P w H4 d ∧ H4 l2 = some (.lst [.str "half", .str "open", .str "trial"]) := ⟨_, rfl, Ex.new hl2, D3.mono (Ex.new hl2), upd_same⟩
    rw [hH4]
    clear hH4
    walk_at "y"
    refine ⟨d, l2, _, rfl, D4, SqL.of L2, (by decide), (by decide), fun i2 x2 hx2 => ?_⟩
    obtain ⟨zb, rfl, hzb⟩ := backs_at hx2
    walk_at "y"
    refine ⟨by show 3 ≤ sizeLine; decide, fun l3 hl3 => ?_⟩
    obtain ⟨H5, hH5, e6, D5, L3'⟩ : ∃ H5, upd H4 l3 (.lst [.str "fault", .str "no", .str "out"]) = H5 ∧ Ex H4 H5 ∧ Deal P w H5 d ∧ H5 l3 = some (.lst [.str "fault", .str "no", .str "out"]) := ⟨_, rfl, Ex.new hl3, D4.mono (Ex.new hl3), upd_same⟩
    rw [hH5]
    clear hH5
    walk_at "y"
    refine ⟨d, l3, _, rfl, D5, SqL.of L3', (by decide), (by decide), fun i3 x3 hx3 => ?_⟩
    obtain ⟨zh, rfl, hzh⟩ := hears_at hx3
    walk_at "y"
    refine ⟨_, _, rfl, ?_⟩
    walk_at "y"
    refine ⟨d, _, rfl, D5, by decide, by decide, fun up up0 up1 => ?_⟩
    walk_at "y"
    refine ⟨by show 5 ≤ sizeLine; decide, fun t4 ht4 => ?_⟩
    have T5 := e6 _ _ (e5 _ _ (e4 _ _ T2))
    refine ⟨_, _, _, _, rfl, rfl, SqT.of (by rw [upd_ne (ne_of_none T5 ht4)]; exact T5), SqT.of upd_same, (by simp), (by show 6 + 5 ≤ sizeLine; decide), (fun h => by cases h), fun _ t5 ht5 => ?_⟩
    have e7 : Ex H5 (upd H5 t4 (.tup [.str zb, .int tp, .int (1 + un), .bl (decide (V.int up = V.int 0)), .str zh])) := Ex.new ht4
    refine k t5 ⟨1 + ne, 1 + wi, 1 + ba, mo, 1 + ba + ms, ca, zb, tp, 1 + un, decide (V.int up = V.int 0), zh⟩ _ (e1.trans (e3.trans (e4.trans (e5.trans (e6.trans (e7.trans (Ex.new ht5))))))) upd_same ?_
    refine ⟨?_, ?_, ?_, ?_, ?_, ?_, ?_⟩ <;> try (dsimp only; omega)
    constructor <;> dsimp only <;> first | omega | assumption

def sp_made (C : Addr) : Sp := fun vs H Q _ => ∃ (t : Addr) (r : RuleD), vs = [.ref t] ∧ H t = some (.tup (ruleVs r)) ∧ RuleOk r ∧ ∀ (p : Addr) (H' : Hp), Ex H H' → H p = none → RuleAt C H' p r → Q (.ref p) H' 
theorem Tx.F__law_made (T : Tx w K mg) : Fn P w K mg base 6 "_law_made" ["_law_one"] (sp_made (He.ga K "Rule")) := by
  refine fn_df T.d__law_made sc__law_made (fun vs H Q E h => ?_) (fun _ _ _ _ _ _ us hl => match us, hl with | [_], _ => rfl) (fun f cdv A outer s H vs Q E hr h => ?_)
  · obtain ⟨t, r, rfl, _⟩ := h
    rfl
  · have hu := hu_of hr
    obtain ⟨t, r, rfl, ht, ok, k⟩ := h
    refine ⟨_, (pss_one (ps_ret (pe_new T.M_Rule (hr.mono (by decide)) (by rfl) (pa_cons (pe_ix (r := rIxT K) ix_tup (pv 0) pe_int (fun _ _ => rfl)) (pa_cons (pe_ix (r := rIxT K) ix_tup (pv 0) pe_int (fun _ _ => rfl)) (pa_cons (pe_ix (r := rIxT K) ix_tup (pv 0) pe_int (fun _ _ => rfl)) (pa_cons (pe_ix (r := rIxT K) ix_tup (pv 0) pe_int (fun _ _ => rfl)) (pa_cons (pe_ix (r := rIxT K) ix_tup (pv 0) pe_int (fun _ _ => rfl)) (pa_cons (pe_ix (r := rIxT K) ix_tup (pv 0) pe_int (fun _ _ => rfl)) (pa_cons (pe_ix (r := rIxT K) ix_tup (pv 0) pe_int (fun _ _ => rfl)) (pa_cons (pe_ix (r := rIxT K) ix_tup (pv 0) pe_int (fun _ _ => rfl)) (pa_cons (pe_ix (r := rIxT K) ix_tup (pv 0) pe_int (fun _ _ => rfl)) (pa_cons (pe_ix (r := rIxT K) ix_tup (pv 0) pe_int (fun _ _ => rfl)) (pa_cons (pe_ix (r := rIxT K) ix_tup (pv 0) pe_int (fun _ _ => rfl)) pa_nil)))))))))))))), ?_⟩
    walk_at "x"
    refine ⟨_, _, _, _, rfl, rfl, SqT.of ht, (show atI (ruleVs r) 0 = _ from rfl), ?_⟩
    walk_at "x"
    refine ⟨_, _, _, _, rfl, rfl, SqT.of ht, (show atI (ruleVs r) 1 = _ from rfl), ?_⟩
    walk_at "x"
    refine ⟨_, _, _, _, rfl, rfl, SqT.of ht, (show atI (ruleVs r) 2 = _ from rfl), ?_⟩
    walk_at "x"
    refine ⟨_, _, _, _, rfl, rfl, SqT.of ht, (show atI (ruleVs r) 3 = _ from rfl), ?_⟩
    walk_at "x"
    refine ⟨_, _, _, _, rfl, rfl, SqT.of ht, (show atI (ruleVs r) 4 = _ from rfl), ?_⟩
    walk_at "x"
    refine ⟨_, _, _, _, rfl, rfl, SqT.of ht, (show atI (ruleVs r) 5 = _ from rfl), ?_⟩
    walk_at "x"
    refine ⟨_, _, _, _, rfl, rfl, SqT.of ht, (show atI (ruleVs r) 6 = _ from rfl), ?_⟩
    walk_at "x"
    refine ⟨_, _, _, _, rfl, rfl, SqT.of ht, (show atI (ruleVs r) 7 = _ from rfl), ?_⟩
    walk_at "x"
    refine ⟨_, _, _, _, rfl, rfl, SqT.of ht, (show atI (ruleVs r) 8 = _ from rfl), ?_⟩
    walk_at "x"
    refine ⟨_, _, _, _, rfl, rfl, SqT.of ht, (show atI (ruleVs r) 9 = _ from rfl), ?_⟩
    walk_at "x"
    refine ⟨_, _, _, _, rfl, rfl, SqT.of ht, (show atI (ruleVs r) 10 = _ from rfl), ?_⟩
    walk_at "x"
    intro p dx hx hdx ne
    refine ⟨p, dx, r, rfl, ok, upd_same, rfl, ?_⟩
    obtain ⟨H2, hH2, e2, R2⟩ := rule_heap (C := He.ga K "Rule") r hx hdx
    rw [hH2]
    exact k p H2 e2 hx R2

/-- the numbers are small enough to be written -/
structure RuleSm (r : RuleD) : Prop where
  need : 0 ≤ r.need ∧ r.need < 10 ^ 9
  of : 0 ≤ r.of ∧ r.of < 10 ^ 9
  base : 0 ≤ r.base ∧ r.base < 10 ^ 9
  more : 0 ≤ r.more ∧ r.more < 10 ^ 9
  most : 0 ≤ r.most ∧ r.most < 10 ^ 9
  calm : 0 ≤ r.calm ∧ r.calm < 10 ^ 9
  top : 0 ≤ r.top ∧ r.top < 10 ^ 9
  under : 0 ≤ r.under ∧ r.under < 10 ^ 9
  back : r.back.length ≤ 10
  hears : r.hears.length ≤ 10
def wayS (r : RuleD) : Str := if r.up = true then "up" else "down"
def numbersS (r : RuleD) : Str := Str.empty ++ "leave " ++ numS r.need ++ " of " ++ numS r.of ++ " out " ++ numS r.base ++ " more " ++ numS r.more ++ " most " ++ numS r.most ++ " calm " ++ numS r.calm
def ruleText (r : RuleD) : Str := Str.empty ++ numbersS r ++ " back " ++ r.back ++ " share " ++ numS r.top ++ "/" ++ numS r.under ++ " " ++ wayS r ++ " hears " ++ r.hears
theorem emp_len : Str.empty.length = 0 := rfl

def sp_str (C : Addr) : Sp := fun vs H Q _ => ∃ (p : Addr) (r : RuleD), vs = [.ref p] ∧ RuleAt C H p r ∧ RuleSm r ∧ Q (.str (ruleText r)) H
theorem Tx.m_Rule___str__ (T : Tx w K mg) : Mt P w K mg base 1 (He.ga K "Rule") "__str__" ["self"] (sp_str (He.ga K "Rule")) := by
  refine mt_md T.d_Rule___str__ T.c_Rule sc_Rule___str__ (fun vs H Q E h => ?_) (fun _ _ _ _ _ _ us hl => match us, hl with | [_], _ => rfl) (fun f cdv A outer s H vs Q E hr h => ?_)
  · obtain ⟨p, r, rfl, _⟩ := h
    rfl
  · have hu := hu_of hr
    obtain ⟨p, r, rfl, ⟨dx, hp⟩, ok, k⟩ := h
    refine ⟨_, (pss_cons (ps_set (i := 1) sc_Rule___str__.nd rfl (Or.inl rfl) (pe_joined (PJ.cons pe_str (PJ.cons (pe_fmt (pe_fld (pv 0) rfl)) (PJ.cons pe_str (PJ.cons (pe_fmt (pe_fld (pv 0) rfl)) (PJ.cons pe_str (PJ.cons (pe_fmt (pe_fld (pv 0) rfl)) (PJ.cons pe_str (PJ.cons (pe_fmt (pe_fld (pv 0) rfl)) (PJ.cons pe_str (PJ.cons (pe_fmt (pe_fld (pv 0) rfl)) (PJ.cons pe_str (PJ.cons (pe_fmt (pe_fld (pv 0) rfl)) PJ.nil))))))))))))))
      (pss_cons (ps_set (i := 2) sc_Rule___str__.nd rfl (Or.inl rfl) (pe_ifExp (pt_val (pe_fld (pv 0) rfl)) pe_str pe_str))
      (pss_one (ps_ret (pe_joined (PJ.cons (pe_fmt (pv 1)) (PJ.cons pe_str (PJ.cons (pe_fmt (pe_fld (pv 0) rfl)) (PJ.cons pe_str (PJ.cons (pe_fmt (pe_fld (pv 0) rfl)) (PJ.cons pe_str (PJ.cons (pe_fmt (pe_fld (pv 0) rfl)) (PJ.cons pe_str (PJ.cons (pe_fmt (pv 2)) (PJ.cons pe_str (PJ.cons (pe_fmt (pe_fld (pv 0) rfl)) PJ.nil)))))))))))))))), ?_⟩
    have l_need : (Str.ofString (toString r.need)).length ≤ 10 := numS_len ok.need.1 ok.need.2
    have l_of : (Str.ofString (toString r.of)).length ≤ 10 := numS_len ok.of.1 ok.of.2
    have l_base : (Str.ofString (toString r.base)).length ≤ 10 := numS_len ok.base.1 ok.base.2
    have l_more : (Str.ofString (toString r.more)).length ≤ 10 := numS_len ok.more.1 ok.more.2
    have l_most : (Str.ofString (toString r.most)).length ≤ 10 := numS_len ok.most.1 ok.most.2
    have l_calm : (Str.ofString (toString r.calm)).length ≤ 10 := numS_len ok.calm.1 ok.calm.2
    have l_top : (Str.ofString (toString r.top)).length ≤ 10 := numS_len ok.top.1 ok.top.2
    have l_under : (Str.ofString (toString r.under)).length ≤ 10 := numS_len ok.under.1 ok.under.2
    have l_back := ok.back
    have l_hears := ok.hears
    have hsz : sizeLine = 16777216 := rfl
    have z0 : (Str.ofString "leave ").length = 6 := by decide +kernel
    have z1 : (Str.ofString " of ").length = 4 := by decide +kernel
    have z2 : (Str.ofString " out ").length = 5 := by decide +kernel
    have z3 : (Str.ofString " more ").length = 6 := by decide +kernel
    have z4 : (Str.ofString " most ").length = 6 := by decide +kernel
    have z5 : (Str.ofString " calm ").length = 6 := by decide +kernel
    have z6 : (Str.ofString " back ").length = 6 := by decide +kernel
    have z7 : (Str.ofString " share ").length = 7 := by decide +kernel
    have z8 : (Str.ofString "/").length = 1 := by decide +kernel
    have z9 : (Str.ofString " ").length = 1 := by decide +kernel
    have z10 : (Str.ofString " hears ").length = 7 := by decide +kernel
    have z11 : (Str.ofString "up").length = 2 := by decide +kernel
    have z12 : (Str.ofString "down").length = 4 := by decide +kernel
    walk_at "x"
    walk_at "x"
    refine ⟨(by simp only [Str.length_append, emp_len, numS]; omega), ?_⟩
    walk_at "x"
    refine ⟨_, _, dx, _, _, rfl, hp, T.c_Rule, T.n_Rule_need, rfl, ?_⟩
    refine .inr ⟨_, rfl, num_small ok.need.1 ok.need.2, ?_⟩
    walk_at "x"
    refine ⟨(by simp only [Str.length_append, emp_len, numS]; omega), ?_⟩
    walk_at "x"
    walk_at "x"
    refine ⟨(by simp only [Str.length_append, emp_len, numS]; omega), ?_⟩
    walk_at "x"
    refine ⟨_, _, dx, _, _, rfl, hp, T.c_Rule, T.n_Rule_of, rfl, ?_⟩
    refine .inr ⟨_, rfl, num_small ok.of.1 ok.of.2, ?_⟩
    walk_at "x"
    refine ⟨(by simp only [Str.length_append, emp_len, numS]; omega), ?_⟩
    walk_at "x"
    walk_at "x"
    refine ⟨(by simp only [Str.length_append, emp_len, numS]; omega), ?_⟩
    walk_at "x"
    refine ⟨_, _, dx, _, _, rfl, hp, T.c_Rule, T.n_Rule_base, rfl, ?_⟩
    refine .inr ⟨_, rfl, num_small ok.base.1 ok.base.2, ?_⟩
    walk_at "x"
    refine ⟨(by simp only [Str.length_append, emp_len, numS]; omega), ?_⟩
    walk_at "x"
    walk_at "x"
    refine ⟨(by simp only [Str.length_append, emp_len, numS]; omega), ?_⟩
    walk_at "x"
    refine ⟨_, _, dx, _, _, rfl, hp, T.c_Rule, T.n_Rule_more, rfl, ?_⟩
    refine .inr ⟨_, rfl, num_small ok.more.1 ok.more.2, ?_⟩
    walk_at "x"
    refine ⟨(by simp only [Str.length_append, emp_len, numS]; omega), ?_⟩
    walk_at "x"
    walk_at "x"
    refine ⟨(by simp only [Str.length_append, emp_len, numS]; omega), ?_⟩
    walk_at "x"
    refine ⟨_, _, dx, _, _, rfl, hp, T.c_Rule, T.n_Rule_most, rfl, ?_⟩
    refine .inr ⟨_, rfl, num_small ok.most.1 ok.most.2, ?_⟩
    walk_at "x"
    refine ⟨(by simp only [Str.length_append, emp_len, numS]; omega), ?_⟩
    walk_at "x"
    walk_at "x"
    refine ⟨(by simp only [Str.length_append, emp_len, numS]; omega), ?_⟩
    walk_at "x"
    refine ⟨_, _, dx, _, _, rfl, hp, T.c_Rule, T.n_Rule_calm, rfl, ?_⟩
    refine .inr ⟨_, rfl, num_small ok.calm.1 ok.calm.2, ?_⟩
    walk_at "x"
    refine ⟨(by simp only [Str.length_append, emp_len, numS]; omega), ?_⟩
    walk_at "x"
    have l_num : (numbersS r).length ≤ 200 := by unfold numbersS; simp only [Str.length_append, emp_len, numS]; omega
    refine ⟨_, _, dx, _, _, rfl, hp, T.c_Rule, T.n_Rule_up, rfl, ?_⟩
    walk_at "x"
    have kk : ∀ way : Str, way = wayS r → Q (.str (Str.empty ++ numbersS r ++ " back " ++ r.back ++ " share " ++ numS r.top ++ "/" ++ numS r.under ++ " " ++ way ++ " hears " ++ r.hears)) H := by
      rintro way rfl
      exact k
    refine ifc (fun h => ?_) (fun h => ?_)
    · walk_at "x"
      refine .inl ⟨_, rfl, Nat.le_trans l_num (by decide), ?_⟩
      walk_at "x"
      refine ⟨(by simp only [Str.length_append, emp_len, numS]; omega), ?_⟩
      walk_at "x"
      walk_at "x"
      refine ⟨(by simp only [Str.length_append, emp_len, numS]; omega), ?_⟩
      walk_at "x"
      refine ⟨_, _, dx, _, _, rfl, hp, T.c_Rule, T.n_Rule_back, rfl, ?_⟩
      refine .inl ⟨_, rfl, Nat.le_trans ok.back (by decide), ?_⟩
      walk_at "x"
      refine ⟨(by simp only [Str.length_append, emp_len, numS]; omega), ?_⟩
      walk_at "x"
      walk_at "x"
      refine ⟨(by simp only [Str.length_append, emp_len, numS]; omega), ?_⟩
      walk_at "x"
      refine ⟨_, _, dx, _, _, rfl, hp, T.c_Rule, T.n_Rule_top, rfl, ?_⟩
      refine .inr ⟨_, rfl, num_small ok.top.1 ok.top.2, ?_⟩
      walk_at "x"
      refine ⟨(by simp only [Str.length_append, emp_len, numS]; omega), ?_⟩
      walk_at "x"
      walk_at "x"
      refine ⟨(by simp only [Str.length_append, emp_len, numS]; omega), ?_⟩
      walk_at "x"
      refine ⟨_, _, dx, _, _, rfl, hp, T.c_Rule, T.n_Rule_under, rfl, ?_⟩
      refine .inr ⟨_, rfl, num_small ok.under.1 ok.under.2, ?_⟩
      walk_at "x"
      refine ⟨(by simp only [Str.length_append, emp_len, numS]; omega), ?_⟩
      walk_at "x"
      walk_at "x"
      refine ⟨(by simp only [Str.length_append, emp_len, numS]; omega), ?_⟩
      walk_at "x"
      refine .inl ⟨_, rfl, (by decide +kernel), ?_⟩
      walk_at "x"
      refine ⟨(by simp only [Str.length_append, emp_len, numS]; omega), ?_⟩
      walk_at "x"
      walk_at "x"
      refine ⟨(by simp only [Str.length_append, emp_len, numS]; omega), ?_⟩
      walk_at "x"
      refine ⟨_, _, dx, _, _, rfl, hp, T.c_Rule, T.n_Rule_hears, rfl, ?_⟩
      refine .inl ⟨_, rfl, Nat.le_trans ok.hears (by decide), ?_⟩
      walk_at "x"
      refine ⟨(by simp only [Str.length_append, emp_len, numS]; omega), ?_⟩
      walk_at "x"
      exact kk _ (by simp [wayS, h])
    · walk_at "x"
      refine .inl ⟨_, rfl, Nat.le_trans l_num (by decide), ?_⟩
      walk_at "x"
      refine ⟨(by simp only [Str.length_append, emp_len, numS]; omega), ?_⟩
      walk_at "x"
      walk_at "x"
      refine ⟨(by simp only [Str.length_append, emp_len, numS]; omega), ?_⟩
      walk_at "x"
      refine ⟨_, _, dx, _, _, rfl, hp, T.c_Rule, T.n_Rule_back, rfl, ?_⟩
      refine .inl ⟨_, rfl, Nat.le_trans ok.back (by decide), ?_⟩
      walk_at "x"
      refine ⟨(by simp only [Str.length_append, emp_len, numS]; omega), ?_⟩
      walk_at "x"
      walk_at "x"
      refine ⟨(by simp only [Str.length_append, emp_len, numS]; omega), ?_⟩
      walk_at "x"
      refine ⟨_, _, dx, _, _, rfl, hp, T.c_Rule, T.n_Rule_top, rfl, ?_⟩
      refine .inr ⟨_, rfl, num_small ok.top.1 ok.top.2, ?_⟩
      walk_at "x"
      refine ⟨(by simp only [Str.length_append, emp_len, numS]; omega), ?_⟩
      walk_at "x"
      walk_at "x"
      refine ⟨(by simp only [Str.length_append, emp_len, numS]; omega), ?_⟩
      walk_at "x"
      refine ⟨_, _, dx, _, _, rfl, hp, T.c_Rule, T.n_Rule_under, rfl, ?_⟩
      refine .inr ⟨_, rfl, num_small ok.under.1 ok.under.2, ?_⟩
      walk_at "x"
      refine ⟨(by simp only [Str.length_append, emp_len, numS]; omega), ?_⟩
      walk_at "x"
      walk_at "x"
      refine ⟨(by simp only [Str.length_append, emp_len, numS]; omega), ?_⟩
      walk_at "x"
      refine .inl ⟨_, rfl, (by decide +kernel), ?_⟩
      walk_at "x"
      refine ⟨(by simp only [Str.length_append, emp_len, numS]; omega), ?_⟩
      walk_at "x"
      walk_at "x"
      refine ⟨(by simp only [Str.length_append, emp_len, numS]; omega), ?_⟩
      walk_at "x"
      refine ⟨_, _, dx, _, _, rfl, hp, T.c_Rule, T.n_Rule_hears, rfl, ?_⟩
      refine .inl ⟨_, rfl, Nat.le_trans ok.hears (by decide), ?_⟩
      walk_at "x"
      refine ⟨(by simp only [Str.length_append, emp_len, numS]; omega), ?_⟩
      walk_at "x"
      exact kk _ (by simp [wayS, h])

/-- the words of a rule's text -/
def ruleWords (r : RuleD) : List (List Nat) := [tl "leave", tl (numS r.need), tl "of", tl (numS r.of), tl "out", tl (numS r.base), tl "more", tl (numS r.more), tl "most", tl (numS r.most), tl "calm", tl (numS r.calm), tl "back", tl r.back, tl "share", tl (numS r.top) ++ 47 :: tl (numS r.under), tl (wayS r), tl "hears", tl r.hears]
theorem ruleText_tl (r : RuleD) : tl (ruleText r) = joinL [32] (ruleWords r) := by
  have e1 : tl "leave " = tl "leave" ++ [32] := by decide +kernel
  have e2 : tl " of " = [32] ++ (tl "of" ++ [32]) := by decide +kernel
  have e3 : tl " out " = [32] ++ (tl "out" ++ [32]) := by decide +kernel
  have e4 : tl " more " = [32] ++ (tl "more" ++ [32]) := by decide +kernel
  have e5 : tl " most " = [32] ++ (tl "most" ++ [32]) := by decide +kernel
  have e6 : tl " calm " = [32] ++ (tl "calm" ++ [32]) := by decide +kernel
  have e7 : tl " back " = [32] ++ (tl "back" ++ [32]) := by decide +kernel
  have e8 : tl " share " = [32] ++ (tl "share" ++ [32]) := by decide +kernel
  have e9 : tl "/" = [47] := by decide +kernel
  have e10 : tl " " = [32] := by decide +kernel
  have e11 : tl " hears " = [32] ++ (tl "hears" ++ [32]) := by decide +kernel
  have e0 : tl Str.empty = [] := by decide +kernel
  unfold ruleText numbersS ruleWords
  simp only [tl_append, e0, e1, e2, e3, e4, e5, e6, e7, e8, e9, e10, e11, joinL, List.nil_append, List.append_assoc, List.cons_append]
theorem mem_strs {x : Str} {ws : List Str} (h : inV (.str x) (ws.map V.str) = true) : x ∈ ws := by
  unfold inV at h
  rw [List.any_eq_true] at h
  obtain ⟨y, hy, e⟩ := h
  obtain ⟨z, hz, rfl⟩ := List.mem_map.mp hy
  have e2 : z = x := by simpa [eqV] using e
  rw [← e2]; exact hz
theorem back_free {x : Str} (h : inV (.str x) (backs.map V.str) = true) : 32 ∉ tl x := by
  have := mem_strs h
  simp only [backs, List.mem_cons, List.not_mem_nil, or_false] at this
  rcases this with rfl | rfl | rfl <;> decide +kernel
theorem hears_free {x : Str} (h : inV (.str x) (heards.map V.str) = true) : 32 ∉ tl x := by
  have := mem_strs h
  simp only [heards, List.mem_cons, List.not_mem_nil, or_false] at this
  rcases this with rfl | rfl | rfl <;> decide +kernel
theorem back_len {x : Str} (h : inV (.str x) (backs.map V.str) = true) : x.length ≤ 10 := by
  have := mem_strs h
  simp only [backs, List.mem_cons, List.not_mem_nil, or_false] at this
  rcases this with rfl | rfl | rfl <;> decide +kernel
theorem hears_len {x : Str} (h : inV (.str x) (heards.map V.str) = true) : x.length ≤ 10 := by
  have := mem_strs h
  simp only [heards, List.mem_cons, List.not_mem_nil, or_false] at this
  rcases this with rfl | rfl | rfl <;> decide +kernel
theorem num_free {i : Int} (h : 0 ≤ i) {s : Nat} (hs : s < 48 ∨ 57 < s) : s ∉ tl (numS i) := by
  rw [numS_tl h]
  exact numL_free hs
theorem num_inj {i j : Int} (hi : 0 ≤ i) (hj : 0 ≤ j) (e : tl (numS i) = tl (numS j)) : i = j := by
  rw [numS_tl hi, numS_tl hj] at e
  have := numL_inj e
  omega
theorem words_free {r : RuleD} (ok : RuleOk r) : ∀ p ∈ ruleWords r, 32 ∉ p := by
  have h1 := ok.need
  have h2 := ok.of
  have h3 := ok.base
  have h4 := ok.more
  have h5 := ok.most
  have h6 := ok.calm
  have h7 := ok.top
  have h8 := ok.under
  have nf : ∀ i : Int, 0 ≤ i → 32 ∉ tl (numS i) := fun i hi => num_free hi (.inl (by decide))
  intro p hp
  simp only [ruleWords, List.mem_cons, List.not_mem_nil, or_false] at hp
  rcases hp with rfl | rfl | rfl | rfl | rfl | rfl | rfl | rfl | rfl | rfl | rfl | rfl | rfl | rfl | rfl | rfl | rfl | rfl | rfl
  all_goals first
    | exact nf _ (by omega)
    | exact back_free ok.back
    | exact hears_free ok.hears
    | decide +kernel
    | skip
  · intro hm
    rcases List.mem_append.mp hm with h | h
    · exact nf _ h7 h
    · rcases List.mem_cons.mp h with h | h
      · omega
      · exact nf _ (by omega) h
  · unfold wayS
    split <;> decide +kernel
theorem cut47 {a b a' b' : List Nat} (h : 47 ∉ a) (h' : 47 ∉ a') (e : a ++ 47 :: b = a' ++ 47 :: b') : a = a' ∧ b = b' := by
  induction a generalizing a' with
  | nil =>
    cases a' with
    | nil => simpa using e
    | cons y ys =>
      simp only [List.nil_append, List.cons_append, List.cons.injEq] at e
      exact absurd (by rw [← e.1]; simp) h'
  | cons x xs ih =>
    cases a' with
    | nil =>
      simp only [List.nil_append, List.cons_append, List.cons.injEq] at e
      exact absurd (by rw [e.1]; simp) h
    | cons y ys =>
      simp only [List.cons_append, List.cons.injEq] at e
      obtain ⟨r1, r2⟩ := ih (fun z => h (List.mem_cons_of_mem _ z)) (fun z => h' (List.mem_cons_of_mem _ z)) e.2
      exact ⟨by rw [e.1, r1], r2⟩
theorem tl_inj {x y : Str} (h : tl x = tl y) : x = y := by rw [← mk_tl x, ← mk_tl y, h]
theorem ruleText_inj {r q : RuleD} (hr : RuleOk r) (hq : RuleOk q) (e : ruleText r = ruleText q) : r = q := by
  have e1 : joinL [32] (ruleWords r) = joinL [32] (ruleWords q) := by rw [← ruleText_tl, ← ruleText_tl, e]
  have e2 : ruleWords r = ruleWords q := by
    rw [← spl_join (S := []) (show ruleWords r ≠ [] by simp [ruleWords]) (words_free hr), ← spl_join (S := []) (show ruleWords q ≠ [] by simp [ruleWords]) (words_free hq), e1]
  simp only [ruleWords, List.cons.injEq, and_true, true_and] at e2
  obtain ⟨a1, a2, a3, a4, a5, a6, a7, a8, a9, a10⟩ := e2
  obtain ⟨b1, b2⟩ := cut47 (num_free hr.top (.inl (by decide))) (num_free hq.top (.inl (by decide))) a8
  have r1 := hr.need; have r2 := hr.of; have r3 := hr.base; have r4 := hr.more; have r5 := hr.most; have r6 := hr.calm; have r7 := hr.top; have r8 := hr.under
  have q1 := hq.need; have q2 := hq.of; have q3 := hq.base; have q4 := hq.more; have q5 := hq.most; have q6 := hq.calm; have q7 := hq.top; have q8 := hq.under
  have w : r.up = q.up := by
    cases h1 : r.up <;> cases h2 : q.up <;> first | rfl | (exfalso; simp only [wayS, h1, h2] at a9; revert a9; decide +kernel)
  have c1 := num_inj (by omega) (by omega) a1
  have c2 := num_inj (by omega) (by omega) a2
  have c3 := num_inj (by omega) (by omega) a3
  have c4 := num_inj (by omega) (by omega) a4
  have c5 := num_inj (by omega) (by omega) a5
  have c6 := num_inj (by omega) (by omega) a6
  have c7 := tl_inj a7
  have c8 := num_inj (by omega) (by omega) b1
  have c9 := num_inj (by omega) (by omega) b2
  have c10 := tl_inj a10
  cases r; cases q
  simp only [RuleD.mk.injEq]
  exact ⟨c1, c2, c3, c4, c5, c6, c7, c8, c9, w, c10⟩
def sp_eq (C : Addr) : Sp := fun vs H Q _ => ∃ (p q : Addr) (r s : RuleD), vs = [.ref p, .ref q] ∧ RuleAt C H p r ∧ RuleAt C H q s ∧ RuleSm r ∧ RuleSm s ∧ Q (.bl (decide (ruleText r = ruleText s))) H
theorem Tx.m_Rule___eq__ (T : Tx w K mg) : Mt P w K mg base 4 (He.ga K "Rule") "__eq__" ["self", "other"] (sp_eq (He.ga K "Rule")) := by
  refine mt_md T.d_Rule___eq__ T.c_Rule sc_Rule___eq__ (fun vs H Q E h => ?_) (fun _ _ _ _ _ _ us hl => match us, hl with | [_, _], _ => rfl) (fun f cdv A outer s H vs Q E hr h => ?_)
  · obtain ⟨p, q, r, s, rfl, _⟩ := h
    rfl
  · have hu := hu_of hr
    obtain ⟨p, q, r, s, rfl, ⟨dx, hp⟩, ⟨dy, hq⟩, ok1, ok2, k⟩ := h
    refine ⟨_, (pss_one (ps_ret (pe_and (pe_callB (call_isC' T.i_Rule) (by rfl) T.b_isinstance (by decide +kernel) (pa_cons (pv 1) (pa_cons (pe_glob (v := .ref _) rfl T.g_Rule rfl) pa_nil))) (pe_one (pe_cmpR op_eq (pe_callTy (call_strO T.m_Rule___str__ (hr.mono (by decide))) (by rfl) T.b_str (by decide +kernel) (pa_cons (pv 0) pa_nil)) (pe_callTy (call_strO T.m_Rule___str__ (hr.mono (by decide))) (by rfl) T.b_str (by decide +kernel) (pa_cons (pv 1) pa_nil)) (nomark _)))))), ?_⟩
    walk_at "x"
    refine x_isC hq ?_
    walk_at "x"
    refine iteP rfl ?_
    walk_at "x"
    refine x_strO hp ⟨p, r, rfl, ⟨dx, hp⟩, ok1, ?_⟩
    walk_at "x"
    refine x_strO hq ⟨q, s, rfl, ⟨dy, hq⟩, ok2, ?_⟩
    walk_at "x"
    have e : decide (V.str (ruleText r) = V.str (ruleText s)) = decide (ruleText r = ruleText s) := by simp
    rw [e]
    exact k

def sp_number_in : Sp := fun vs H Q _ => ∃ n : Int, vs = [.str (numS n), .int 2] ∧ 0 ≤ n ∧ n < 100 ∧ ∀ H', Ex H H' → Q (.int n) H' 
theorem Tx.F_number_in (T : Tx w K mg) : Fn P w K mg base 1 "number_in" ["word", "most"] (sp_number_in) := by
  refine fn_df T.d_number_in sc_number_in (fun vs H Q E h => ?_) (fun _ _ _ _ _ _ us hl => match us, hl with | [_, _], _ => rfl) (fun f cdv A outer s H vs Q E hr h => ?_)
  · obtain ⟨n, rfl, _⟩ := h
    rfl
  · have hu := hu_of hr
    obtain ⟨n, rfl, n0, n1, k⟩ := h
    obtain ⟨tD, hDG⟩ := T.g_DIGITS
    refine ⟨_, (pss_cons (ps_if (PW.pt (pw_or (pt_not (pt_chain op_le op_le pe_int (pe_callB call_len_str (by rfl) T.b_len PySem.boot_len (pa_cons (pv 0) pa_nil)) (pv 1))) (pw_or1 (pt_not (pt_val (pe_callB (cr_all rfl) (by rfl) T.b_all (by decide +kernel) (pa_cons (pe_lc (own := [("sign", 2)]) (g := gName 2) (tt := tYes) (by rfl) sc_number_in.nd (pi_str (pv 0)) (blkOk_by (own := [("sign", 2)]) (N := ["word", "most", "sign"]) (sc := defScope s_number_in) (by decide +kernel)) (fun _ _ _ _ _ => pg_name (i := 2) sc_number_in.nd rfl (Or.inl rfl)) (fun _ _ _ _ _ => pts_nil) (fun _ _ _ _ _ => (pe_cmpR op_in_sign (pv 2) (pe_glob (v := .str _) rfl hDG ⟨_, rfl⟩) rfl))) pa_nil))))))) (pss_one (ps_ret pe_non)) pss_nil)
      (pss_one (ps_ret (pe_ifExp (PW.pt (pw_or (pt_cmpR op_eq (pv 0) pe_str (nomark _)) (pw_or1 (pt_cmpR op_ne (pe_ix ix_str (pv 0) pe_int (fun _ _ => rfl)) pe_str (nomark _))))) (pe_callTy call_int_str (by rfl) T.b_int boot_int (pa_cons (pv 0) pa_nil)) pe_non)))), ?_⟩
    have hc := numChk_of n0 n1
    simp only [numChk, Bool.and_eq_true, decide_eq_true_eq] at hc
    obtain ⟨⟨⟨c1, c2⟩, c3⟩, c4⟩ := hc
    have hsz : (numS n).cps.size ≤ 2 := c2
    walk_at "x"
    refine ⟨Nat.le_trans c2 (by decide), ?_⟩
    walk_at "x"
    refine iteP (by simp; omega) ?_
    walk_at "x"
    refine iteN (by simp; omega) ?_
    walk_at "x"
    refine comp_str (fun i acc => acc.length = i ∧ ∃ bs : List Bool, acc = bs.map V.bl ∧ ∀ b ∈ bs, b = true) (by omega) (fun _ => rfl) ⟨rfl, [], rfl, by simp⟩ ?_ ?_
    · rintro i c acc H' hi ⟨hl, bs, rfl, hb⟩ e KY KN ky kn
      have hcd : 48 ≤ c ∧ c ≤ 57 := by
        rw [Array.all_eq_true] at c3
        obtain ⟨hlt, rfl⟩ := Array.getElem?_eq_some_iff.mp hi
        simpa using c3 i hlt
      walk_at "x"
      refine iteP rfl ?_
      walk_at "x"
      refine ⟨c, _, rfl, rfl, ?_⟩
      rw [digit_in hcd]
      exact ky _ _ (Ex.refl _) ⟨by simpa using hl, bs ++ [true], by simp, fun b hm => by rcases List.mem_append.mp hm with h | h; exact hb b h; simpa using h⟩
    rintro D acc H' hD e hl ⟨_, bs, rfl, hb⟩
    walk_at "x"
    refine ⟨D, bs, rfl, SqL.of hl, ?_⟩
    have hall : bs.all id = true := by
      rw [List.all_eq_true]
      exact hb
    rw [hall]
    walk_at "x"
    refine iteN rfl ?_
    walk_at "x"
    cases hz : decide (numS n = Str.ofString "0") with
    | true =>
      refine iteP (by simpa using hz) ?_
      refine iteP rfl ?_
      walk_at "x"
      exact ⟨_, n, rfl, PySem.W.KIN.num_reads n0 (by omega), by have : (numS n).length ≤ 2 := c2; omega, k _ e⟩
    | false =>
      rw [hz, Bool.false_or] at c4
      refine iteN (by simpa using hz) ?_
      walk_at "x"
      cases hw : (numS n).cps.toList with
      | nil => rw [hw] at c4; cases c4
      | cons c r =>
        rw [hw] at c4
        have cne : c ≠ 48 := by simpa using c4
        refine ⟨_, _, c, rfl, rfl, Nat.le_trans c2 (by decide), (by rw [hw]; exact atI_nat (j := 0) rfl), ?_⟩
        walk_at "x"
        have e48 : (Str.ofString "0") = ⟨#[48]⟩ := by decide +kernel
        refine iteP (by rw [e48]; simp [cne]) ?_
        walk_at "x"
        exact ⟨_, n, rfl, PySem.W.KIN.num_reads n0 (by omega), by have : (numS n).length ≤ 2 := c2; omega, k _ e⟩

def sp_numbers_in (K : PySem.W.Frag) : Sp := fun vs H Q _ => ∃ (l : Addr) (ns : List Int), vs = [.ref l] ∧ SqL K H l (ns.map fun n => V.str (numS n)) ∧ ns.length ≤ 100 ∧ (∀ n ∈ ns, 0 ≤ n ∧ n < 100) ∧ ∀ (D : Addr) (H' : Hp), Ex H H' → H' D = some (.lst (ns.map V.int)) → Q (.ref D) H'
theorem non_ints (ns : List Int) : inV .non (ns.map V.int) = false := by
  unfold inV
  rw [List.any_eq_false]
  intro x hx
  obtain ⟨n, _, rfl⟩ := List.mem_map.mp hx
  simp [eqV]
theorem flat_ints (ns : List Int) : (ns.map V.int).all flatV = true := by
  rw [List.all_eq_true]
  intro x hx
  obtain ⟨y, _, rfl⟩ := List.mem_map.mp hx
  rfl
theorem Tx.F_numbers_in (T : Tx w K mg) : Fn P w K mg base 2 "numbers_in" ["words"] (sp_numbers_in K) := by
  refine fn_df T.d_numbers_in sc_numbers_in (fun vs H Q E h => ?_) (fun _ _ _ _ _ _ us hl => match us, hl with | [_], _ => rfl) (fun f cdv A outer s H vs Q E hr h => ?_)
  · obtain ⟨l, ns, rfl, _⟩ := h
    rfl
  · have hu := hu_of hr
    obtain ⟨l, ns, rfl, hS, hz, hb, k⟩ := h
    refine ⟨_, (pss_cons (ps_setLc (i := 1) (own := [("word", 2)]) (g := gName 2) (tt := tYes) (by rfl) sc_numbers_in.nd rfl rfl (sw_true rfl rfl rfl (by decide +kernel)) (pi_list (pv 0)) (blkOk_by (own := [("word", 2)]) (N := ["words", "found", "word"]) (sc := defScope s_numbers_in) (by decide +kernel)) (fun _ _ _ _ _ => pg_name (i := 2) sc_numbers_in.nd rfl (Or.inl rfl)) (fun _ _ _ _ _ => pts_nil) (fun _ _ _ _ _ => (pe_fn T.F_number_in (hr.mono (by decide)) (by rfl) (pa_cons (pv 2) (pa_cons pe_int pa_nil)))))
      (pss_one (ps_ret (pe_ifExp (pt_cmpR op_in_seq pe_non (pv 1) rfl) pe_non (pv 1))))), ?_⟩
    walk_at "x"
    refine ⟨⟨_, hS⟩, ?_⟩
    refine comp_list (fun i acc => acc = (ns.take i).map V.int) hS (by rw [List.length_map]; omega) (fun _ => rfl) rfl ?_ ?_
    · rintro i x acc H' hi rfl e KY KN ky kn
      rw [List.getElem?_map] at hi
      cases q : ns[i]? with
      | none => rw [q] at hi; cases hi
      | some n =>
        rw [q] at hi
        cases hi
        have hn := hb n (List.mem_of_getElem? q)
        walk_at "x"
        refine iteP rfl ?_
        walk_at "x"
        refine ⟨n, rfl, hn.1, hn.2, fun H2 e2 => ?_⟩
        exact ky _ _ e2 (by rw [List.take_add_one, q]; simp)
    rintro D acc H' hD e hl rfl
    rw [List.length_map, List.take_length] at hl
    walk_at "x"
    refine ⟨D, _, rfl, .inl (SqL.of hl), rfl, flat_ints ns, ?_⟩
    walk_at "x"
    refine iteN (by simp [non_ints]) ?_
    walk_at "x"
    exact k D H' e hl

def sp_share_in : Sp := fun vs H Q _ => ∃ a b : Int, vs = [.str (numS a ++ "/" ++ numS b)] ∧ 0 ≤ a ∧ a < 100 ∧ 0 ≤ b ∧ b < 100 ∧ ∀ (D : Addr) (H' : Hp), Ex H H' → H' D = some (.lst [.int a, .int b]) → Q (.ref D) H'
theorem split_share {a b : Int} (ha : 0 ≤ a) (hb : 0 ≤ b) : Txt.split (numS a ++ "/" ++ numS b) "/" = [numS a, numS b] := by
  have e : (numS a ++ "/" ++ numS b : Str) = Txt.join "/" [numS a, numS b] := by
    rw [join_eq]
    rfl
  rw [e]
  have e47 : tl (Str.ofString "/") = [47] := by decide +kernel
  refine split_join e47 (by decide +kernel) (by simp) ?_
  intro p hp
  simp only [List.mem_cons, List.not_mem_nil, or_false] at hp
  rcases hp with rfl | rfl
  · exact num_free ha (.inl (by decide))
  · exact num_free hb (.inl (by decide))
theorem Tx.F_share_in (T : Tx w K mg) : Fn P w K mg base 3 "share_in" ["word"] (sp_share_in) := by
  refine fn_df T.d_share_in sc_share_in (fun vs H Q E h => ?_) (fun _ _ _ _ _ _ us hl => match us, hl with | [_], _ => rfl) (fun f cdv A outer s H vs Q E hr h => ?_)
  · obtain ⟨a, b, rfl, _⟩ := h
    rfl
  · have hu := hu_of hr
    obtain ⟨a, b, rfl, a0, a1, b0, b1, k⟩ := h
    refine ⟨_, (pss_cons (ps_set (i := 1) sc_share_in.nd rfl (Or.inl rfl) (pe_split (pv 0) pe_str))
      (pss_one (ps_ret (pe_ifExp (pt_cmpR op_eq (pe_callB call_lenQ (by rfl) T.b_len PySem.boot_len (pa_cons (pv 1) pa_nil)) pe_int (nomark _)) (pe_fn T.F_numbers_in (hr.mono (by decide)) (by rfl) (pa_cons (pv 1) pa_nil)) pe_non)))), ?_⟩
    have l1 : (numS a).length ≤ 10 := numS_len a0 (by omega)
    have l2 : (numS b).length ≤ 10 := numS_len b0 (by omega)
    have l3 : (Str.ofString "/").length = 1 := by decide +kernel
    have hsz : sizeLine = 16777216 := rfl
    walk_at "x"
    refine ⟨⟨_, rfl⟩, ?_⟩
    walk_at "x"
    refine ⟨_, _, rfl, rfl, by decide +kernel, by simp only [Str.length_append]; omega, ?_⟩
    rw [split_share a0 b0]
    intro p hp
    walk_at "x"
    refine ⟨p, _, rfl, .inl (SqL.of upd_same), ?_⟩
    walk_at "x"
    refine iteP rfl ?_
    walk_at "x"
    refine ⟨p, [a, b], rfl, SqL.of upd_same, by simp, by intro n hn; simp at hn; omega, fun D H' e hl => k D H' ((Ex.new hp).trans e) hl⟩

def ruleWS (r : RuleD) : List Str := ["leave", numS r.need, "of", numS r.of, "out", numS r.base, "more", numS r.more, "most", numS r.most, "calm", numS r.calm, "back", r.back, "share", numS r.top ++ "/" ++ numS r.under, wayS r, "hears", r.hears]
theorem ruleWS_tl (r : RuleD) : (ruleWS r).map tl = ruleWords r := by
  have e9 : tl (Str.ofString "/") = [47] := by decide +kernel
  simp only [ruleWS, ruleWords, List.map_cons, List.map_nil, tl_append, e9, List.append_assoc, List.cons_append, List.nil_append]
theorem ruleText_join (r : RuleD) : ruleText r = Txt.join " " (ruleWS r) := by
  have e10 : tl (Str.ofString " ") = [32] := by decide +kernel
  apply tl_inj
  rw [join_eq, tl_join, ruleWS_tl, ruleText_tl, e10]
theorem rule_split {r : RuleD} (ok : RuleOk r) : Txt.split (ruleText r) " " = ruleWS r := by
  have e10 : tl (Str.ofString " ") = [32] := by decide +kernel
  rw [ruleText_join]
  refine split_join e10 (by decide +kernel) (by simp [ruleWS]) ?_
  intro p hp
  refine words_free ok (tl p) ?_
  rw [← ruleWS_tl]
  exact List.mem_map_of_mem hp
abbrev wsV (r : RuleD) : List V := (ruleWS r).map V.str
def betIx : List V := [.int 0, .int 2, .int 4, .int 6, .int 8, .int 10, .int 12, .int 14, .int 17]
def betWs : List Str := ["leave", "of", "out", "more", "most", "calm", "back", "share", "hears"]
theorem bet_split : Txt.split "leave of out more most calm back share hears" " " = betWs := by decide +kernel
theorem bet_at (r : RuleD) {i : Nat} {x y : V} (hx : betIx[i]? = some x) (hy : (betWs.map V.str)[i]? = some y) : ∃ k : Nat, x = .int (k : Int) ∧ k < 19 ∧ (wsV r)[k]? = some y := by
  match i, hx, hy with
  | 0, hx, hy => cases hx; cases hy; exact ⟨0, rfl, by decide, rfl⟩
  | 1, hx, hy => cases hx; cases hy; exact ⟨2, rfl, by decide, rfl⟩
  | 2, hx, hy => cases hx; cases hy; exact ⟨4, rfl, by decide, rfl⟩
  | 3, hx, hy => cases hx; cases hy; exact ⟨6, rfl, by decide, rfl⟩
  | 4, hx, hy => cases hx; cases hy; exact ⟨8, rfl, by decide, rfl⟩
  | 5, hx, hy => cases hx; cases hy; exact ⟨10, rfl, by decide, rfl⟩
  | 6, hx, hy => cases hx; cases hy; exact ⟨12, rfl, by decide, rfl⟩
  | 7, hx, hy => cases hx; cases hy; exact ⟨14, rfl, by decide, rfl⟩
  | 8, hx, hy => cases hx; cases hy; exact ⟨17, rfl, by decide, rfl⟩
  | i + 9, hx, hy => simp [betIx] at hx
def sp_words_between (K : PySem.W.Frag) : Sp := fun vs H Q _ => ∃ (l : Addr) (r : RuleD), vs = [.ref l] ∧ SqL K H l (wsV r) ∧ RuleOk r ∧ ∀ (D : Addr) (H' : Hp), Ex H H' → H' D = some (.lst (wsV r)) → Q (.ref D) H' 
theorem Tx.F_words_between (T : Tx w K mg) : Fn P w K mg base 2 "words_between" ["words"] (sp_words_between K) := by
  refine fn_df T.d_words_between sc_words_between (fun vs H Q E h => ?_) (fun _ _ _ _ _ _ us hl => match us, hl with | [_], _ => rfl) (fun f cdv A outer s H vs Q E hr h => ?_)
  · obtain ⟨l, r, rfl, _⟩ := h
    rfl
  · have hu := hu_of hr
    obtain ⟨l, r, rfl, hS, ok, k⟩ := h
    refine ⟨_, (pss_cons (ps_set (i := 1) sc_words_between.nd rfl (Or.inl rfl) (pe_callTy call_list_of (by rfl) T.b_list (by decide +kernel) (pa_cons (pv 0) pa_nil)))
      (pss_cons (ps_for PassesOwn.never rfl (pi_zipM (by rfl) T.b_zip (pa_cons (pe_tup (pa_cons pe_int (pa_cons pe_int (pa_cons pe_int (pa_cons pe_int (pa_cons pe_int (pa_cons pe_int (pa_cons pe_int (pa_cons pe_int (pa_cons pe_int pa_nil)))))))))) (pa_cons (pe_split pe_str pe_str) pa_nil))) (pg_tup rfl (pgs_cons (pg_name (i := 2) sc_words_between.nd rfl (Or.inl rfl)) (pgs_cons (pg_name (i := 3) sc_words_between.nd rfl (Or.inl rfl)) pgs_nil))) (pss_one (ps_asg (pv 3) (pg_sub (pv 1) (pv 2) set_list))))
      (pss_one (ps_ret (pe_ifExp (PW.pt (pw_and (pt_val (pe_fn T.F_is_word (hr.mono (by decide)) (by rfl) (pa_cons (pe_ix (r := rIxL K) ix_list (pv 0) pe_int (fun _ _ => rfl)) (pa_cons (pe_glob (v := .ref _) rfl T.g_BACKS rfl) pa_nil)))) (pw_and1 (pt_val (pe_fn T.F_is_word (hr.mono (by decide)) (by rfl) (pa_cons (pe_ix (r := rIxL K) ix_list (pv 0) pe_int (fun _ _ => rfl)) (pa_cons (pe_glob (v := .ref _) rfl T.g_HEARD rfl) pa_nil))))))) (pv 1) (pe_lst pa_nil)))))), ?_⟩
    walk_at "x"
    refine ⟨l, _, rfl, .inl hS, fun F hF => ?_⟩
    obtain ⟨H1, hH1, e1, F1⟩ : ∃ H1, upd H F (.lst (wsV r)) = H1 ∧ Ex H H1 ∧ H1 F = some (.lst (wsV r)) := ⟨_, rfl, Ex.new hF, upd_same⟩
    rw [hH1]
    clear hH1
    refine x_cut (fun σ' H' => ∃ c d, σ' = [some (.ref l), some (.ref F), c, d] ∧ Ex H1 H') (fun nn hn => ?_) ?_
    · walk_at "x"
      refine ⟨by show 9 ≤ sizeLine; decide, fun t ht => ?_⟩
      walk_at "x"
      refine ⟨⟨_, rfl⟩, ?_⟩
      walk_at "x"
      refine ⟨_, _, rfl, rfl, by decide +kernel, by decide +kernel, ?_⟩
      rw [bet_split]
      intro s2 hs2
      walk_at "x"
      have e2 : Ex H1 (upd H1 t (.tup betIx)) := Ex.new ht
      have e3 : Ex (upd H1 t (.tup betIx)) (upd (upd H1 t (.tup betIx)) s2 (.lst (betWs.map V.str))) := Ex.new hs2
      refine ⟨t, s2, _, _, rfl, SqT.of (e3 _ _ upd_same), SqL.of upd_same, ?_⟩
      obtain ⟨H3, hH3, e4, t3, s3⟩ : ∃ H3, upd (upd H1 t (.tup [.int 0, .int 2, .int 4, .int 6, .int 8, .int 10, .int 12, .int 14, .int 17])) s2 (.lst (betWs.map V.str)) = H3 ∧ Ex H1 H3 ∧ H3 t = some (.tup betIx) ∧ H3 s2 = some (.lst (betWs.map V.str)) := ⟨_, rfl, e2.trans e3, e3 _ _ upd_same, upd_same⟩
      rw [hH3]
      clear hH3
      refine turns_zipM (xs := betIx) (ys := betWs.map V.str) rfl (fun i σ' H' => ∃ c d, σ' = [some (.ref l), some (.ref F), c, d] ∧ Ex H3 H') ⟨none, none, rfl, Ex.refl _⟩ (fun i σ' H' _ ⟨_, _, _, e⟩ => ⟨SqT.of (e _ _ t3), SqL.of (e _ _ s3)⟩) ?_ ?_
      · rintro i x y T σ' H' hx hy ⟨c, d, rfl, e⟩ hT
        obtain ⟨m, rfl, hm, hw⟩ := bet_at r hx hy
        refine x_gtup (SqT.of upd_same) rfl ?_
        walk_at "x"
        have eT : Ex H' (upd H' T (.tup [.int (m : Int), y])) := Ex.new hT
        have FT := eT _ _ (e _ _ (e4 _ _ F1))
        refine ⟨F, wsV r, _, m, rfl, rfl, FT, ixN_of (by simpa [ruleWS] using hm), ?_⟩
        rw [set_id hw, upd_id FT]
        exact ⟨_, _, rfl, e.trans eT⟩
      · rintro σ' H' ⟨c, d, rfl, e⟩
        exact hn _ _ ⟨_, _, rfl, e4.trans e⟩
    rintro σ' H' ⟨c, d, rfl, e⟩
    have hS' := ex_l (e1.trans e) hS
    walk_at "x"
    refine ⟨l, _, _, _, rfl, rfl, hS', atI_nat (j := 13) rfl, ?_⟩
    walk_at "x"
    refine ⟨_, _, backs, rfl, .str _, T.t_BACKS _, ?_⟩
    walk_at "x"
    refine iteP (by simp [isWord, ok.back]) ?_
    walk_at "x"
    refine ⟨l, _, _, _, rfl, rfl, hS', atI_nat (j := 18) rfl, ?_⟩
    walk_at "x"
    refine ⟨_, _, heards, rfl, .str _, T.t_HEARD _, ?_⟩
    walk_at "x"
    refine iteP (by simp [isWord, ok.hears]) ?_
    walk_at "x"
    exact k F H' (e1.trans e) (e _ _ F1)

/-- numbers of two digits -/
structure RuleTwo (r : RuleD) : Prop where
  of : r.of < 100
  more : r.more < 100
  most : r.most < 100
  calm : r.calm < 100
  under : r.under < 100
theorem RuleTwo.sm {r : RuleD} (t : RuleTwo r) (ok : RuleOk r) : RuleSm r := by
  have a1 := ok.need; have a2 := ok.of; have a3 := ok.base; have a4 := ok.more; have a5 := ok.most; have a6 := ok.calm; have a7 := ok.top; have a8 := ok.under; have a9 := ok.under2
  have b1 := t.of; have b2 := t.more; have b3 := t.most; have b4 := t.calm; have b5 := t.under
  exact ⟨⟨by omega, by omega⟩, ⟨by omega, by omega⟩, ⟨by omega, by omega⟩, ⟨by omega, by omega⟩, ⟨by omega, by omega⟩, ⟨by omega, by omega⟩, ⟨by omega, by omega⟩, ⟨by omega, by omega⟩, back_len ok.back, hears_len ok.hears⟩
theorem ws_ok {r : RuleD} (ok : RuleOk r) : (wsV r).all okV = true := by
  have a1 := ok.need; have a2 := ok.of; have a3 := ok.base; have a4 := ok.more; have a5 := ok.most; have a6 := ok.calm; have a7 := ok.top; have a8 := ok.under; have a9 := ok.under2
  have hb : PyData.strOk r.back = true := by
    have := mem_strs ok.back
    simp only [backs, List.mem_cons, List.not_mem_nil, or_false] at this
    rcases this with h | h | h <;> rw [h] <;> decide +kernel
  have hh : PyData.strOk r.hears = true := by
    have := mem_strs ok.hears
    simp only [heards, List.mem_cons, List.not_mem_nil, or_false] at this
    rcases this with h | h | h <;> rw [h] <;> decide +kernel
  have hw : PyData.strOk (wayS r) = true := by
    unfold wayS
    split <;> decide +kernel
  have hs : PyData.strOk (numS r.top ++ "/" ++ numS r.under) = true := strOk_app (strOk_app (strOk_num a7) (by decide +kernel)) (strOk_num (by omega))
  rw [List.all_eq_true]
  intro x hx
  simp only [wsV, ruleWS, List.map_cons, List.map_nil, List.mem_cons, List.not_mem_nil, or_false] at hx
  rcases hx with rfl | rfl | rfl | rfl | rfl | rfl | rfl | rfl | rfl | rfl | rfl | rfl | rfl | rfl | rfl | rfl | rfl | rfl | rfl
  all_goals first
    | exact hb
    | exact hh
    | exact hw
    | exact hs
    | exact strOk_num (by omega)
    | (show PyData.strOk _ = true; decide +kernel)
theorem text_len {r : RuleD} (sm : RuleSm r) : (ruleText r).length ≤ 400 := by
  have l1 := numS_len sm.need.1 sm.need.2
  have l2 := numS_len sm.of.1 sm.of.2
  have l3 := numS_len sm.base.1 sm.base.2
  have l4 := numS_len sm.more.1 sm.more.2
  have l5 := numS_len sm.most.1 sm.most.2
  have l6 := numS_len sm.calm.1 sm.calm.2
  have l7 := numS_len sm.top.1 sm.top.2
  have l8 := numS_len sm.under.1 sm.under.2
  have l9 := sm.back
  have l10 := sm.hears
  have l11 : (wayS r).length ≤ 4 := by
    unfold wayS
    split <;> decide +kernel
  have z0 : (Str.ofString "leave ").length = 6 := by decide +kernel
  have z1 : (Str.ofString " of ").length = 4 := by decide +kernel
  have z2 : (Str.ofString " out ").length = 5 := by decide +kernel
  have z3 : (Str.ofString " more ").length = 6 := by decide +kernel
  have z4 : (Str.ofString " most ").length = 6 := by decide +kernel
  have z5 : (Str.ofString " calm ").length = 6 := by decide +kernel
  have z6 : (Str.ofString " back ").length = 6 := by decide +kernel
  have z7 : (Str.ofString " share ").length = 7 := by decide +kernel
  have z8 : (Str.ofString "/").length = 1 := by decide +kernel
  have z9 : (Str.ofString " ").length = 1 := by decide +kernel
  have z10 : (Str.ofString " hears ").length = 7 := by decide +kernel
  unfold ruleText numbersS
  simp only [Str.length_append, emp_len]
  omega
def sp_read (C : Addr) : Sp := fun vs H Q _ => ∃ r : RuleD, vs = [.ref C, .str (ruleText r)] ∧ RuleOk r ∧ RuleTwo r ∧ ∀ (p : Addr) (H' : Hp), Ex H H' → RuleAt C H' p r → Q (.ref p) H' 
theorem Tx.cm_Rule_read (T : Tx w K mg) : Cm P w K mg base 6 (He.ga K "Rule") "read" (sp_read (He.ga K "Rule")) := by
  refine cm_md T.cd_Rule_read sc_Rule_read (fun vs H Q E h => ?_) (fun _ _ _ _ _ _ us hl => match us, hl with | [_, _], _ => rfl) (fun f cdv A outer s H vs Q E hr h => ?_)
  · obtain ⟨r, rfl, _⟩ := h
    rfl
  · have hu := hu_of hr
    obtain ⟨r, rfl, ok, two, k⟩ := h
    obtain ⟨esR, nR, KD⟩ := T.kd_ROUNDS
    obtain ⟨uW, huW, rW⟩ : ∃ u, PySem.W.nsIn K (He.ga K "ROUNDS") (wayS r) = some (some u) ∧ RelV (.bl r.up) u := by
      unfold wayS
      cases hup : r.up with
      | true => exact He.valsB_ok T.kv_ROUNDS (q := ("up", .bl true)) (by simp)
      | false => exact He.valsB_ok T.kv_ROUNDS (q := ("down", .bl false)) (by simp)
    have sm := two.sm ok
    have tl4 := text_len sm
    have a1 := ok.need; have a2 := ok.of; have a3 := ok.base; have a4 := ok.more; have a5 := ok.most; have a6 := ok.calm; have a7 := ok.top; have a8 := ok.under; have a9 := ok.under2
    have b1 := two.of; have b2 := two.more; have b3 := two.most; have b4 := two.calm; have b5 := two.under
    refine ⟨_, (pss_cons (ps_set (i := 2) sc_Rule_read.nd rfl (Or.inr rfl) (pe_split (pv 1) pe_str))
      (pss_cons (ps_if (pt_cmpR op_ne (pe_callB call_lenQ (by rfl) T.b_len PySem.boot_len (pa_cons (pv 2) pa_nil)) pe_int (nomark _)) (pss_one ps_never) pss_nil)
      (pss_cons (ps_set (i := 3) sc_Rule_read.nd rfl (Or.inl rfl) (pe_fn T.F_numbers_in (hr.mono (by decide)) (by rfl) (pa_cons (pe_lc (own := [("at", 8)]) (g := gName 8) (tt := tYes) (by rfl) sc_Rule_read.nd (pi_tup (pe_tup (pa_cons pe_int (pa_cons pe_int (pa_cons pe_int (pa_cons pe_int (pa_cons pe_int (pa_cons pe_int pa_nil)))))))) (blkOk_by (own := [("at", 8)]) (N := ["cls", "text", "words", "plain", "share", "back", "up", "hears", "at"]) (sc := defScope s_Rule_read) (by decide +kernel)) (fun _ _ _ _ _ => pg_name (i := 8) sc_Rule_read.nd rfl (Or.inl rfl)) (fun _ _ _ _ _ => pts_nil) (fun _ _ _ _ _ => (pe_ix (r := rIxL K) ix_list (pv 2) (pv 8) (fun _ _ => rfl)))) pa_nil)))
      (pss_cons (ps_set (i := 4) sc_Rule_read.nd rfl (Or.inl rfl) (pe_fn T.F_share_in (hr.mono (by decide)) (by rfl) (pa_cons (pe_ix (r := rIxL K) ix_list (pv 2) pe_int (fun _ _ => rfl)) pa_nil)))
      (pss_cons (ps_if (PW.pt (pw_or (pt_cmp (pc_isN (pv 3))) (pw_or (pt_cmp (pc_isN (pv 4))) (pw_or1 (pt_cmpR (op_notIn_kd' KD) (pe_ix ix_list (pv 2) pe_int (fun _ _ => rfl)) (pe_glob (v := .ref _) rfl T.g_ROUNDS rfl) rfl))))) (pss_one ps_never) pss_nil)
      (pss_cons (ps_if (pt_cmpR (op_neD hr.units) (pv 2) (pe_fn T.F_words_between (hr.mono (by decide)) (by rfl) (pa_cons (pv 2) pa_nil)) (nomark _)) (pss_one ps_never) pss_nil)
      (pss_cons (ps_par3 (by rfl) sc_Rule_read.nd (i := 5) (j := 6) (l := 7) rfl rfl rfl (by decide) (by decide) (by decide) rfl rfl rfl (pa_cons (pe_ix (r := rIxL K) ix_list (pv 2) pe_int (fun _ _ => rfl)) (pa_cons (pe_ix ix_kdict (pe_glob (v := .ref _) rfl T.g_ROUNDS rfl) (pe_ix ix_list (pv 2) pe_int (fun _ _ => rfl)) (fun _ _ => rfl)) (pa_cons (pe_ix (r := rIxL K) ix_list (pv 2) pe_int (fun _ _ => rfl)) pa_nil))) (by rfl))
      (pss_one (ps_ret (pe_newL (i := 0) T.M_Rule (hr.mono (by decide)) rfl (Or.inl rfl) (StX.pa_star (pv 3) (pa_cons (pv 5) (StX.pa_star (pv 4) (pa_cons (pv 6) (pa_cons (pv 7) pa_nil))))))))))))))), ?_⟩
    walk_at "x"
    refine ⟨⟨_, rfl⟩, ?_⟩
    walk_at "x"
    refine ⟨_, _, rfl, rfl, by decide +kernel, (by have : sizeLine = 16777216 := rfl; omega), ?_⟩
    rw [rule_split ok]
    intro wl hwl
    obtain ⟨H1, hH1, e1, W1⟩ : ∃ H1, upd H wl (.lst (wsV r)) = H1 ∧ Ex H H1 ∧ H1 wl = some (.lst (wsV r)) := ⟨_, rfl, Ex.new hwl, upd_same⟩
    rw [hH1]
    clear hH1 hwl
    walk_at "x"
    refine ⟨_, _, rfl, .inl (SqL.of W1), ?_⟩
    walk_at "x"
    refine iteN (by rfl) ?_
    walk_at "x"
    refine ⟨by show 6 ≤ sizeLine; decide, fun t ht => ⟨t, rfl, ⟨_, SqT.of upd_same⟩, ?_⟩⟩
    obtain ⟨H2, hH2, e2, T2⟩ : ∃ H2, upd H1 t (.tup [.int 1, .int 3, .int 5, .int 7, .int 9, .int 11]) = H2 ∧ Ex H1 H2 ∧ H2 t = some (.tup [.int 1, .int 3, .int 5, .int 7, .int 9, .int 11]) := ⟨_, rfl, Ex.new ht, upd_same⟩
    rw [hH2]
    clear hH2 ht
    refine comp_tup (fun i acc => acc = ([V.str (numS r.need), .str (numS r.of), .str (numS r.base), .str (numS r.more), .str (numS r.most), .str (numS r.calm)] : List V).take i) (SqT.of T2) (by show 6 < 100000; decide) (fun _ => rfl) rfl ?_ ?_
    · rintro i x acc H' hi rfl e KY KN ky kn
      have W2 : H' wl = some (.lst (wsV r)) := e _ _ (e2 _ _ W1)
      walk_at "x"
      refine iteP rfl ?_
      walk_at "x"
      match i, hi with
      | 0, hi => cases hi; exact ⟨wl, _, _, _, rfl, rfl, SqL.of W2, atI_nat (j := 1) rfl, ky _ _ (Ex.refl _) rfl⟩
      | 1, hi => cases hi; exact ⟨wl, _, _, _, rfl, rfl, SqL.of W2, atI_nat (j := 3) rfl, ky _ _ (Ex.refl _) rfl⟩
      | 2, hi => cases hi; exact ⟨wl, _, _, _, rfl, rfl, SqL.of W2, atI_nat (j := 5) rfl, ky _ _ (Ex.refl _) rfl⟩
      | 3, hi => cases hi; exact ⟨wl, _, _, _, rfl, rfl, SqL.of W2, atI_nat (j := 7) rfl, ky _ _ (Ex.refl _) rfl⟩
      | 4, hi => cases hi; exact ⟨wl, _, _, _, rfl, rfl, SqL.of W2, atI_nat (j := 9) rfl, ky _ _ (Ex.refl _) rfl⟩
      | 5, hi => cases hi; exact ⟨wl, _, _, _, rfl, rfl, SqL.of W2, atI_nat (j := 11) rfl, ky _ _ (Ex.refl _) rfl⟩
      | i + 6, hi => simp at hi
    rintro D acc H3 hD e3 hl rfl
    walk_at "x"
    refine ⟨D, [r.need, r.of, r.base, r.more, r.most, r.calm], rfl, SqL.of hl, by simp, by intro n hn; simp at hn; omega, fun D2 H4 e4 hl4 => ?_⟩
    have W4 : H4 wl = some (.lst (wsV r)) := e4 _ _ (e3 _ _ (e2 _ _ W1))
    walk_at "x"
    refine ⟨wl, _, _, _, rfl, rfl, SqL.of W4, atI_nat (j := 15) rfl, ?_⟩
    walk_at "x"
    refine ⟨r.top, r.under, rfl, by omega, by omega, by omega, by omega, fun D3 H5 e5 hl5 => ?_⟩
    have W5 := e5 _ _ W4
    walk_at "x"
    refine iteN (by rfl) ?_
    walk_at "x"
    refine iteN (by rfl) ?_
    walk_at "x"
    refine ⟨wl, _, _, _, rfl, rfl, SqL.of W5, atI_nat (j := 16) rfl, ?_⟩
    walk_at "x"
    refine ⟨_, _, rfl, rfl, huW, ?_⟩
    walk_at "x"
    refine iteN (by rfl) ?_
    walk_at "x"
    refine ⟨wl, r, rfl, SqL.of W5, ok, fun D4 H6 e6 hl6 => ?_⟩
    have W6 := e6 _ _ W5
    refine x_neL W6 hl6 (ws_ok ok) (ws_ok ok) (sameKs_refl (ws_ok ok)) ?_
    walk_at "x"
    refine iteN (by simp) ?_
    walk_at "x"
    refine ⟨wl, _, _, _, rfl, rfl, SqL.of W6, atI_nat (j := 13) rfl, ?_⟩
    walk_at "x"
    refine ⟨wl, _, _, _, rfl, rfl, SqL.of W6, atI_nat (j := 16) rfl, ?_⟩
    refine ⟨_, _, _, rfl, rfl, kdct_of KD huW rW, ?_⟩
    walk_at "x"
    refine ⟨wl, _, _, _, rfl, rfl, SqL.of W6, atI_nat (j := 18) rfl, ?_⟩
    walk_at "x"
    refine ⟨_, _, _, rfl, ?_⟩
    walk_at "x"
    refine x_newL rfl ?_
    walk_at "x"
    refine ⟨D2, _, rfl, .inr (SqL.of (e6 _ _ (e5 _ _ hl4))), ?_⟩
    walk_at "x"
    refine ⟨D3, _, rfl, .inr (SqL.of (e6 _ _ hl5)), ?_⟩
    walk_at "x"
    intro p dx hx hdx ne
    refine ⟨p, dx, r, rfl, ok, upd_same, rfl, ?_⟩
    obtain ⟨H7, hH7, e7, R7⟩ := rule_heap (C := He.ga K "Rule") r hx hdx
    rw [hH7]
    exact k p H7 (e1.trans (e2.trans (e3.trans (e4.trans (e5.trans (e6.trans e7)))))) R7

theorem cap_pos {r : RuleD} (ok : RuleOk r) : 1 ≤ capOf r := by
  unfold capOf
  split
  · exact Int.le_refl _
  · have h1 := ok.more; have h2 := ok.most
    have : 0 ≤ (r.most - r.base + r.more - 1) / r.more := Int.ediv_nonneg (by omega) h1
    omega
theorem cap_facts {r : RuleD} (ok : RuleOk r) (h : r.more ≠ 0) : r.most ≤ r.base + r.more * (capOf r - 1) ∧ ∀ j, 1 ≤ j → j < capOf r → r.base + r.more * (j - 1) < r.most := by
  have h1 := ok.more; have h2 := ok.most
  have hm : 0 < r.more := by omega
  have e : capOf r = 1 + (r.most - r.base + r.more - 1) / r.more := by simp [capOf, h]
  have a1 := Int.mul_ediv_add_emod (r.most - r.base + r.more - 1) r.more
  have a2 := Int.emod_nonneg (r.most - r.base + r.more - 1) h
  have a3 := Int.emod_lt_of_pos (r.most - r.base + r.more - 1) hm
  generalize (r.most - r.base + r.more - 1) / r.more = q at e a1
  have ec : capOf r - 1 = q := by omega
  refine ⟨by rw [ec]; omega, fun j j1 j2 => ?_⟩
  have hj : j - 1 ≤ q - 1 := by omega
  have hmul : r.more * (j - 1) ≤ r.more * (q - 1) := Int.mul_le_mul_of_nonneg_left hj h1
  have e2 : r.more * (q - 1) = r.more * q - r.more := by rw [Int.mul_sub]; omega
  omega
theorem time_lt {r : RuleD} (ok : RuleOk r) {j : Int} (j1 : 1 ≤ j) (j2 : j < capOf r) : timeOf r j < timeOf r (j + 1) := by
  have hm : r.more ≠ 0 := fun z => by
    have : capOf r = 1 := by simp [capOf, z]
    omega
  have h1 := ok.more
  have f := (cap_facts ok hm).2 j j1 j2
  have e : r.more * (j + 1 - 1) = r.more * (j - 1) + r.more := by
    have : j + 1 - 1 = j - 1 + 1 := by omega
    rw [this, Int.mul_add, Int.mul_one]
  unfold timeOf
  rw [e]
  split <;> split <;> omega
theorem time_from {r : RuleD} (ok : RuleOk r) {j : Int} (h : capOf r ≤ j) : timeOf r j = timeOf r (capOf r) := by
  have h1 := ok.more; have h2 := ok.most
  by_cases hm : r.more = 0
  · unfold timeOf
    rw [hm]
    simp
  · have f := (cap_facts ok hm).1
    have hmul : r.more * (capOf r - 1) ≤ r.more * (j - 1) := Int.mul_le_mul_of_nonneg_left (by omega) h1
    unfold timeOf
    split <;> split <;> omega
theorem time_most {r : RuleD} (j : Int) : timeOf r j ≤ r.most := by
  unfold timeOf
  split <;> omega
theorem time_cap_most {r : RuleD} (ok : RuleOk r) (hm : 0 < r.more) : timeOf r (capOf r) = r.most := by
  have f := (cap_facts ok (by omega)).1
  unfold timeOf
  split <;> omega
theorem time_one {r : RuleD} (ok : RuleOk r) : timeOf r 1 = r.base := by
  have h2 := ok.most
  unfold timeOf
  simp
  omega
theorem cap_le {r : RuleD} (ok : RuleOk r) : capOf r ≤ r.most - r.base + 1 := by
  have h1 := ok.more; have h2 := ok.most
  by_cases hm : r.more = 0
  · simp [capOf, hm]; omega
  · by_cases hz : capOf r = 1
    · omega
    · have f := (cap_facts ok hm).2 (capOf r - 1) (by have := cap_pos ok; omega) (by omega)
      have : r.more * (capOf r - 1 - 1) ≥ 1 * (capOf r - 1 - 1) := Int.mul_le_mul_of_nonneg_right (by omega) (by have := cap_pos ok; omega)
      omega
theorem divq {q r u : Int} (h0 : 0 ≤ r) (h1 : r < u) : (q * u + r) / u = q := by
  rw [Int.add_comm, Int.add_mul_ediv_right _ _ (by omega), Int.ediv_eq_zero_of_lt h0 h1]
  omega
def partOf (n t u : Int) (up : Bool) : Int := (n * t + (if up = true then u - 1 else 0)) / u
theorem part_up {n t u wh re : Int} (e : wh * u + re = n * t) (h0 : 0 ≤ re) (h1 : re < u) : partOf n t u true = wh + (if 0 < re then 1 else 0) := by
  unfold partOf
  rw [if_pos rfl, ← e]
  split
  · rw [show wh * u + re + (u - 1) = (wh + 1) * u + (re - 1) by rw [Int.add_mul]; omega]
    exact divq (by omega) (by omega)
  · rw [show wh * u + re + (u - 1) = wh * u + (u - 1) by omega, divq (by omega) (by omega)]
    omega
theorem part_down {n t u wh re : Int} (e : wh * u + re = n * t) (h0 : 0 ≤ re) (h1 : re < u) : partOf n t u false = wh := by
  unfold partOf
  rw [if_neg (by decide), ← e, Int.add_zero]
  exact divq h0 h1
theorem part_mono {n t u : Int} {up : Bool} (t0 : 0 ≤ t) (u1 : 1 ≤ u) : partOf (n - 1) t u up ≤ partOf n t u up := by
  unfold partOf
  refine Int.ediv_le_ediv (by omega) ?_
  rw [Int.sub_mul]
  omega
theorem part_le {n t u : Int} {up : Bool} (n0 : 0 ≤ n) (t1 : t ≤ u) (u1 : 1 ≤ u) : partOf n t u up ≤ n := by
  unfold partOf
  have h := Int.mul_le_mul_of_nonneg_left t1 n0
  refine Int.le_of_lt_add_one (Int.ediv_lt_of_lt_mul (by omega) ?_)
  rw [Int.add_mul]
  split <;> omega
theorem part_rest {n t u : Int} {up : Bool} (u1 : 1 ≤ u) : (if up = true then 0 else 1 - u) ≤ partOf n t u up * u - n * t ∧ partOf n t u up * u - n * t < (if up = true then u else 1) := by
  unfold partOf
  cases up
  · simp only [Bool.false_eq_true, ↓reduceIte, Int.add_zero]
    have h1 := Int.mul_ediv_add_emod (n * t) u
    have h2 := Int.emod_nonneg (n * t) (show u ≠ 0 by omega)
    have h3 := Int.emod_lt_of_pos (n * t) (show 0 < u by omega)
    rw [Int.mul_comm u] at h1
    omega
  · simp only [↓reduceIte]
    have h1 := Int.mul_ediv_add_emod (n * t + (u - 1)) u
    have h2 := Int.emod_nonneg (n * t + (u - 1)) (show u ≠ 0 by omega)
    have h3 := Int.emod_lt_of_pos (n * t + (u - 1)) (show 0 < u by omega)
    rw [Int.mul_comm u] at h1
    omega
theorem part_zero {n u : Int} {up : Bool} (u1 : 1 ≤ u) : partOf n 0 u up = 0 := by
  unfold partOf
  rw [Int.mul_zero, Int.zero_add]
  exact Int.ediv_eq_zero_of_lt (by split <;> omega) (by split <;> omega)
theorem part_all {n u : Int} {up : Bool} (u1 : 1 ≤ u) : partOf n u u up = n := by
  unfold partOf
  exact divq (by split <;> omega) (by split <;> omega)
def withV (r : RuleD) (m : Nat) (v : V) : List V := (ruleVs r).take m ++ [v] ++ (ruleVs r).drop (m + 1)
def sp_with : Sp := fun vs H Q _ => ∃ (t : Addr) (r : RuleD) (m : Nat) (v : V), vs = [.ref t, .int (m : Int), v] ∧ H t = some (.tup (ruleVs r)) ∧ (m = 2 ∨ m = 3 ∨ m = 4 ∨ m = 7 ∨ m = 8 ∨ m = 9) ∧ ∀ (t' : Addr) (H' : Hp), Ex H H' → H' t' = some (.tup (withV r m v)) → Q (.ref t') H' 
theorem Tx.F__law_with (T : Tx w K mg) : Fn P w K mg base 1 "_law_with" ["_law_one", "_law_at", "_law_value"] (sp_with) := by
  refine fn_df T.d__law_with sc__law_with (fun vs H Q E h => ?_) (fun _ _ _ _ _ _ us hl => match us, hl with | [_, _, _], _ => rfl) (fun f cdv A outer s H vs Q E hr h => ?_)
  · obtain ⟨t, r, m, v, rfl, _⟩ := h
    rfl
  · have hu := hu_of hr
    obtain ⟨t, r, m, v, rfl, ht, hm, k⟩ := h
    have c1 : cutV (ruleVs r) none (some (m : Int)) = (ruleVs r).take m := by rcases hm with rfl | rfl | rfl | rfl | rfl | rfl <;> rfl
    have c2 : cutV (ruleVs r) (some ((m : Int) + 1)) none = (ruleVs r).drop (m + 1) := by rcases hm with rfl | rfl | rfl | rfl | rfl | rfl <;> rfl
    have n1 : ¬ (HT.sIx (ruleVs r).length 0 none = 0 ∧ HT.sIx (ruleVs r).length (ruleVs r).length (some (m : Int)) = (ruleVs r).length) := by
      show ¬ (HT.sIx 11 0 none = 0 ∧ HT.sIx 11 11 (some (m : Int)) = 11)
      rcases hm with rfl | rfl | rfl | rfl | rfl | rfl <;> decide
    have n2 : ¬ (HT.sIx (ruleVs r).length 0 (some ((m : Int) + 1)) = 0 ∧ HT.sIx (ruleVs r).length (ruleVs r).length none = (ruleVs r).length) := by
      show ¬ (HT.sIx 11 0 (some ((m : Int) + 1)) = 0 ∧ HT.sIx 11 11 none = 11)
      rcases hm with rfl | rfl | rfl | rfl | rfl | rfl <;> decide
    have l11 : (ruleVs r).length = 11 := rfl
    have hsz : sizeLine = 16777216 := rfl
    have t1 : ((ruleVs r).take m).length = m := by rw [List.length_take, l11]; omega
    have t2 : ((ruleVs r).drop (m + 1)).length = 10 - m := by rw [List.length_drop, l11]; omega
    refine ⟨_, (pss_one (ps_ret (pe_op op_catT (pe_op op_catT (pe_slice sl_tup (pv 0) po_none (po_some (pv 1))) (pe_tup (pa_cons (pv 2) pa_nil))) (pe_slice sl_tup (pv 0) (po_some (pe_op op_add (pv 1) pe_int)) po_none)))), ?_⟩
    walk_at "x"
    refine ⟨_, _, rfl, SqT.of ht, n1, fun a1 h1 => ?_⟩
    rw [c1]
    obtain ⟨H1, hH1, e1, T1⟩ : ∃ H1, upd H a1 (.tup ((ruleVs r).take m)) = H1 ∧ Ex H H1 ∧ H1 a1 = some (.tup ((ruleVs r).take m)) := ⟨_, rfl, Ex.new h1, upd_same⟩
    rw [hH1]
    clear hH1 h1
    walk_at "x"
    refine ⟨by show 1 ≤ sizeLine; decide, fun a2 h2 => ?_⟩
    obtain ⟨H2, hH2, e2, T2⟩ : ∃ H2, upd H1 a2 (.tup [v]) = H2 ∧ Ex H1 H2 ∧ H2 a2 = some (.tup [v]) := ⟨_, rfl, Ex.new h2, upd_same⟩
    rw [hH2]
    clear hH2 h2
    refine ⟨_, _, _, _, rfl, rfl, SqT.of (e2 _ _ T1), SqT.of T2, (fun z => by rw [z] at t1; simp at t1; omega), (by rw [t1]; simp; omega), (fun h => by cases h), fun _ a3 h3 => ?_⟩
    obtain ⟨H3, hH3, e3, T3⟩ : ∃ H3, upd H2 a3 (.tup ((ruleVs r).take m ++ [v])) = H3 ∧ Ex H2 H3 ∧ H3 a3 = some (.tup ((ruleVs r).take m ++ [v])) := ⟨_, rfl, Ex.new h3, upd_same⟩
    rw [hH3]
    clear hH3 h3
    walk_at "x"
    refine ⟨_, _, rfl, SqT.of (e3 _ _ (e2 _ _ (e1 _ _ ht))), n2, fun a4 h4 => ?_⟩
    rw [c2]
    obtain ⟨H4, hH4, e4, T4⟩ : ∃ H4, upd H3 a4 (.tup ((ruleVs r).drop (m + 1))) = H4 ∧ Ex H3 H4 ∧ H4 a4 = some (.tup ((ruleVs r).drop (m + 1))) := ⟨_, rfl, Ex.new h4, upd_same⟩
    rw [hH4]
    clear hH4 h4
    refine ⟨_, _, _, _, rfl, rfl, SqT.of (e4 _ _ T3), SqT.of T4, (by simp), (by rw [List.length_append, t1, t2]; simp; omega), (fun z => by rw [z] at t2; simp at t2; omega), fun _ a5 h5 => ?_⟩
    exact k a5 _ (e1.trans (e2.trans (e3.trans (e4.trans (Ex.new h5))))) upd_same

theorem paired_imp {α β : Type} {F G : α → β → Prop} (h : ∀ a b, F a b → G a b) : ∀ {l : List α} {m : List β}, Paired F l m → Paired G l m
  | _, _, .nil => .nil
  | _, _, .cons a r => .cons (h _ _ a) (paired_imp h r)
theorem kvsF_succ (f : Nat → Int) (n : Nat) : kvsF f (n + 1) = kvsF f n ++ [(Sum.inl (f n), V.int 1)] := by
  unfold kvsF
  rw [List.range_succ, List.map_append]
  rfl
theorem kvsF_len (f : Nat → Int) (n : Nat) : (kvsF f n).length = n := by
  unfold kvsF
  rw [List.length_map, List.length_range]
theorem time_mono {r : RuleD} (ok : RuleOk r) {i k : Int} (h : i ≤ k) : timeOf r i ≤ timeOf r k := by
  have h1 := ok.more
  have : r.more * (i - 1) ≤ r.more * (k - 1) := Int.mul_le_mul_of_nonneg_left (by omega) h1
  unfold timeOf
  split <;> split <;> omega
theorem times_rise {r : RuleD} (ok : RuleOk r) (m : Nat) : ((List.range m).map fun (i : Nat) => timeOf r (1 + (i : Int))).Pairwise (· ≤ ·) := by
  rw [List.pairwise_map]
  refine List.Pairwise.imp (fun {a b} h => ?_) List.pairwise_lt_range
  exact time_mono ok (by omega)
theorem times_keys {r : RuleD} (ok : RuleOk r) {m : Nat} (hm : capOf r ≤ (m : Int)) : (mergeK [] (kvsF (fun (i : Nat) => timeOf r (1 + (i : Int))) m)).length = (capOf r).toNat := by
  have cp := cap_pos ok
  rw [merge_rise (c := (capOf r).toNat) (fun i hi => ?_) (fun i hi => ?_) (by omega) m, kvsF_len]
  · omega
  · have := time_lt ok (show (1 : Int) ≤ 1 + (i : Int) by omega) (by omega)
    rw [show (1 : Int) + ((i + 1 : Nat) : Int) = 1 + (i : Int) + 1 by omega]
    exact this
  · rw [time_from ok (show capOf r ≤ 1 + (i : Int) by omega), time_from ok (show capOf r ≤ 1 + (((capOf r).toNat - 1 : Nat) : Int) by omega)]
/-- a longer rule -/
def GoodL (r : RuleD) (x : V) (H : Hp) : Prop := ∃ b q, x = .ref b ∧ H b = some (.tup (ruleVs q)) ∧ RuleOk q ∧ ∀ j : Int, 1 ≤ j → timeOf r j ≤ timeOf q j
def GoodW (r : RuleD) (x : V) (H : Hp) : Prop := ∃ b q, x = .ref b ∧ H b = some (.tup (ruleVs q)) ∧ RuleOk q ∧ ∀ n : Int, 0 ≤ n → limitOf r n ≤ limitOf q n
theorem GoodL.kt {r : RuleD} {x : V} {H H' : Hp} (g : GoodL r x H) (e : Kt H H') : GoodL r x H' := by
  obtain ⟨b, q, h1, h2, h3⟩ := g
  exact ⟨b, q, h1, e _ _ h2 (fun ys z => by cases z), h3⟩
theorem GoodW.kt {r : RuleD} {x : V} {H H' : Hp} (g : GoodW r x H) (e : Kt H H') : GoodW r x H' := by
  obtain ⟨b, q, h1, h2, h3⟩ := g
  exact ⟨b, q, h1, e _ _ h2 (fun ys z => by cases z), h3⟩
theorem long3 {r : RuleD} {H : Hp} {b : Addr} (Dr : RuleDr r) (h : H b = some (.tup (withV r 3 (.int (r.more + 1))))) : GoodL r (.ref b) H := by
  have ok := Dr.ok
  have l1 := Dr.more
  have m0 := ok.more
  refine ⟨b, { r with more := r.more + 1 }, rfl, h, ⟨ok.need, ok.of, ok.base, by dsimp only; omega, by dsimp only; omega, ok.most, ok.calm, ok.back, ok.top, ok.under, ok.under2, ok.under3, ok.hears⟩, fun j hj => ?_⟩
  have : r.more * (j - 1) ≤ (r.more + 1) * (j - 1) := Int.mul_le_mul_of_nonneg_right (by omega) (by omega)
  unfold timeOf
  dsimp only
  split <;> split <;> omega
theorem long4 {r : RuleD} {H : Hp} {b : Addr} (Dr : RuleDr r) (h : H b = some (.tup (withV r 4 (.int (r.most + 1))))) : GoodL r (.ref b) H := by
  have ok := Dr.ok
  have l1 := ok.most
  refine ⟨b, { r with most := r.most + 1 }, rfl, h, ⟨ok.need, ok.of, ok.base, ok.more, ok.more2, by dsimp only; omega, ok.calm, ok.back, ok.top, ok.under, ok.under2, ok.under3, ok.hears⟩, fun j hj => ?_⟩
  unfold timeOf
  dsimp only
  split <;> split <;> omega
theorem long2 {r : RuleD} {H : Hp} {b : Addr} (Dr : RuleDr r) (hl : r.base < r.most) (h : H b = some (.tup (withV r 2 (.int (r.base + 1))))) : GoodL r (.ref b) H := by
  have ok := Dr.ok
  have l1 := ok.base
  refine ⟨b, { r with base := r.base + 1 }, rfl, h, ⟨ok.need, ok.of, by dsimp only; omega, ok.more, ok.more2, by dsimp only; omega, ok.calm, ok.back, ok.top, ok.under, ok.under2, ok.under3, ok.hears⟩, fun j hj => ?_⟩
  unfold timeOf
  dsimp only
  split <;> split <;> omega
theorem wide9 {r : RuleD} {H : Hp} {b : Addr} (Dr : RuleDr r) (h : H b = some (.tup (withV r 9 (.bl true)))) : GoodW r (.ref b) H := by
  have ok := Dr.ok
  have u1 := ok.under
  refine ⟨b, { r with up := true }, rfl, h, ⟨ok.need, ok.of, ok.base, ok.more, ok.more2, ok.most, ok.calm, ok.back, ok.top, ok.under, ok.under2, ok.under3, ok.hears⟩, fun n hn => ?_⟩
  unfold limitOf
  dsimp only
  refine Int.ediv_le_ediv (by omega) ?_
  rw [if_pos rfl]
  split <;> omega
theorem wide7 {r : RuleD} {H : Hp} {b : Addr} (Dr : RuleDr r) (h : H b = some (.tup (withV r 7 (.int (if r.under < r.top + 1 then r.under else r.top + 1))))) : GoodW r (.ref b) H := by
  have ok := Dr.ok
  have u1 := ok.under
  have u2 := ok.under2
  have t0 := ok.top
  generalize hT : (if r.under < r.top + 1 then r.under else r.top + 1) = T at h
  have hT1 : r.top ≤ T ∧ T ≤ r.under := by rw [← hT]; split <;> omega
  refine ⟨b, { r with top := T }, rfl, h, ⟨ok.need, ok.of, ok.base, ok.more, ok.more2, ok.most, ok.calm, ok.back, by dsimp only; omega, ok.under, by dsimp only; omega, ok.under3, ok.hears⟩, fun n hn => ?_⟩
  unfold limitOf
  dsimp only
  refine Int.ediv_le_ediv (by omega) ?_
  have := Int.mul_le_mul_of_nonneg_left hT1.1 hn
  omega
theorem wide8 {r : RuleD} {H : Hp} {b : Addr} (Dr : RuleDr r) (h1 : 1 < r.under) (h2 : r.top < r.under) (h : H b = some (.tup (withV r 8 (.int (r.under - 1))))) : GoodW r (.ref b) H := by
  have ok := Dr.ok
  have u3 := ok.under3
  have t0 := ok.top
  refine ⟨b, { r with under := r.under - 1 }, rfl, h, ⟨ok.need, ok.of, ok.base, ok.more, ok.more2, ok.most, ok.calm, ok.back, ok.top, by dsimp only; omega, by dsimp only; omega, by dsimp only; omega, ok.hears⟩, fun n hn => ?_⟩
  have a0 : 0 ≤ n * r.top := Int.mul_nonneg hn t0
  unfold limitOf
  dsimp only
  generalize n * r.top = a at a0
  generalize r.under = u at *
  have key : ∀ c : Int, 0 ≤ c → c < u → (c = 0 ∨ 1 ≤ c) → (a + c) / u ≤ (a + (if c = 0 then 0 else c - 1)) / (u - 1) := fun c c0 c1 _ => by
    have e1 := Int.mul_ediv_add_emod (a + c) u
    have e2 := Int.emod_nonneg (a + c) (show u ≠ 0 by omega)
    have q0 : 0 ≤ (a + c) / u := Int.ediv_nonneg (by omega) (by omega)
    generalize (a + c) / u = q at *
    refine Int.le_ediv_of_mul_le (by omega) ?_
    rw [Int.mul_sub, Int.mul_one, Int.mul_comm q u]
    by_cases hq : q = 0
    · rw [hq, Int.mul_zero]
      split <;> omega
    · split <;> omega
  cases r.up
  · simpa using key 0 (by omega) (by omega) (.inl rfl)
  · have := key (u - 1) (by omega) (by omega) (.inr (by omega))
    rw [if_neg (by omega)] at this
    simpa using this
theorem lim_zero {r : RuleD} (ok : RuleOk r) : limitOf r 0 = 0 := by
  have u1 := ok.under
  unfold limitOf
  rw [Int.zero_mul, Int.zero_add]
  exact Int.ediv_eq_zero_of_lt (by split <;> omega) (by split <;> omega)
theorem lim_add {r : RuleD} (ok : RuleOk r) (m : Int) : limitOf r (m + r.under) = limitOf r m + r.top := by
  have u1 := ok.under
  unfold limitOf
  rw [show (m + r.under) * r.top + (if r.up = true then r.under - 1 else 0) = m * r.top + (if r.up = true then r.under - 1 else 0) + r.top * r.under by rw [Int.add_mul, Int.mul_comm r.under r.top]; omega]
  exact Int.add_mul_ediv_right _ _ (by omega)
theorem lim_one {r : RuleD} (ok : RuleOk r) : limitOf r r.under = r.top := by
  have := lim_add ok 0
  rw [lim_zero ok, Int.zero_add, Int.zero_add] at this
  exact this
theorem lim_three {r : RuleD} (ok : RuleOk r) : limitOf r (3 * r.under) = 3 * r.top := by
  have h1 := lim_add ok r.under
  have h2 := lim_add ok (r.under + r.under)
  rw [show 3 * r.under = r.under + r.under + r.under by omega, h2, h1, lim_one ok]
  omega
theorem two_of {r : RuleD} (Dr : RuleDr r) : RuleTwo r := by
  have a1 := Dr.of; have a2 := Dr.base; have a3 := Dr.more; have a4 := Dr.most; have a5 := Dr.calm; have a6 := Dr.under
  exact ⟨by omega, by omega, by omega, by omega, by omega⟩
def spLaw (K : PySem.W.Frag) : Sp := fun vs H Q _ => ∃ (a : Addr) (ns : List Int), vs = [.ref a] ∧ SqL K H a (ns.map V.int) ∧ ns.length ≤ 63 ∧ ∀ H', Q (.bl true) H' 
theorem Tx.law_ok (T : Tx w K mg) {f : Addr} {fd : FuncData} (F : Fun K "law" "law" s_law f fd) : FnOk P w K mg base CX0 7 f fd ["_law_script"] (spLaw K) := by
  refine F.ok sc_law (fun vs H Q E h => ?_) (fun cdv A outer s H vs Q E hr h => ?_)
  · obtain ⟨a, ns, rfl, _⟩ := h
    rfl
  · have hu := hu_of hr
    obtain ⟨a, ns, rfl, hS, hlen, k⟩ := h
    refine ⟨_, (pss_cons (ps_set (i := 1) sc_law.nd rfl (Or.inl rfl) (pe_fn T.F__law_deal (hr.mono (by decide)) (by rfl) (pa_cons (pv 0) (pa_cons pe_int pa_nil))))
      (pss_cons (ps_for PassesOwn.never rfl (pi_range1 (by rfl) T.b_range (pa_cons pe_int pa_nil)) (pg_name (i := 2) sc_law.nd rfl (Or.inl rfl)) (pss_cons (ps_set (i := 3) sc_law.nd rfl (Or.inl rfl) (pe_fn T.F__law_drawn_rule (hr.mono (by decide)) (by rfl) (pa_cons (pv 1) pa_nil)))
      (pss_cons (ps_set (i := 4) sc_law.nd rfl (Or.inr rfl) (pe_fn T.F__law_made (hr.mono (by decide)) (by rfl) (pa_cons (pv 3) pa_nil)))
      (pss_cons (ps_if (PW.pt (pw_or (pt_cmpR (op_neI T.ne_Rule T.m_Rule___eq__ (hr.mono (by decide))) (pe_cm T.cm_Rule_read (hr.mono (by decide)) (pe_glob (v := .ref _) rfl T.g_Rule rfl) (pa_cons (pe_callTy (call_strO T.m_Rule___str__ (hr.mono (by decide))) (by rfl) T.b_str (by decide +kernel) (pa_cons (pv 4) pa_nil)) pa_nil)) (pv 4) (nomark _)) (pw_or1 (pt_cmpR (op_neI T.ne_Rule T.m_Rule___eq__ (hr.mono (by decide))) (pe_fn T.F__law_made (hr.mono (by decide)) (by rfl) (pa_cons (pv 3) pa_nil)) (pv 4) (nomark _))))) (pss_one (ps_ret pe_bl)) pss_nil)
      (pss_cons (ps_setLc (i := 5) (own := [("_law_j", 10)]) (g := gName 10) (tt := tYes) (by rfl) sc_law.nd rfl rfl (sw_true rfl rfl rfl (by decide +kernel)) (pi_range2 (by rfl) T.b_range (pa_cons pe_int (pa_cons (pe_op op_add (pe_fld (pv 4) rfl) pe_int) pa_nil))) (blkOk_by (own := [("_law_j", 10)]) (N := ["_law_script", "_law_deal_here", "_law_turn", "_law_one", "_law_made_here", "_law_times", "_law_longer", "_law_other", "_law_wide", "_law_many", "_law_j", "_law_time"]) (sc := defScope s_law) (by decide +kernel)) (fun _ _ _ _ _ => pg_name (i := 10) sc_law.nd rfl (Or.inl rfl)) (fun _ _ _ _ _ => pts_nil) (fun _ _ _ _ _ => (pe_mt T.m_Rule_time (hr.mono (by decide)) (pv 4) (pa_cons (pv 10) pa_nil))))
      (pss_cons (ps_if (PW.pt (pw_or (pt_cmpR (op_neD hr.units) (pv 5) (pe_callB call_sorted' (by rfl) T.b_sorted (by decide +kernel) (pa_cons (pe_lc (own := [("_law_time", 11)]) (g := gName 11) (tt := tYes) (by rfl) sc_law.nd (pi_list (pv 5)) (blkOk_by (own := [("_law_time", 11)]) (N := ["_law_script", "_law_deal_here", "_law_turn", "_law_one", "_law_made_here", "_law_times", "_law_longer", "_law_other", "_law_wide", "_law_many", "_law_j", "_law_time"]) (sc := defScope s_law) (by decide +kernel)) (fun _ _ _ _ _ => pg_name (i := 11) sc_law.nd rfl (Or.inl rfl)) (fun _ _ _ _ _ => pts_nil) (fun _ _ _ _ _ => (pe_callTy call_int1' (by rfl) T.b_int boot_int (pa_cons (pv 11) pa_nil)))) pa_nil)) (nomark _)) (pw_or1 (pt_cmpR op_ne (pe_callB call_lenD' (by rfl) T.b_len PySem.boot_len (pa_cons (pe_callTy (call_dictP' rfl) (by rfl) T.b_dict (by decide +kernel) (pa_cons (pe_lc (own := [("_law_time", 11)]) (g := gName 11) (tt := tYes) (by rfl) sc_law.nd (pi_list (pv 5)) (blkOk_by (own := [("_law_time", 11)]) (N := ["_law_script", "_law_deal_here", "_law_turn", "_law_one", "_law_made_here", "_law_times", "_law_longer", "_law_other", "_law_wide", "_law_many", "_law_j", "_law_time"]) (sc := defScope s_law) (by decide +kernel)) (fun _ _ _ _ _ => pg_name (i := 11) sc_law.nd rfl (Or.inl rfl)) (fun _ _ _ _ _ => pts_nil) (fun _ _ _ _ _ => (pe_tup (pa_cons (pv 11) (pa_cons pe_int pa_nil))))) pa_nil)) pa_nil)) (pe_fld (pv 4) rfl) (nomark _))))) (pss_one (ps_ret pe_bl)) pss_nil)
      (pss_cons (ps_set (i := 6) sc_law.nd rfl (Or.inl rfl) (pe_lst (pa_cons (pe_fn T.F__law_with (hr.mono (by decide)) (by rfl) (pa_cons (pv 3) (pa_cons pe_int (pa_cons (pe_op op_add (pe_ix (r := rIxT K) ix_tup (pv 3) pe_int (fun _ _ => rfl)) pe_int) pa_nil)))) (pa_cons (pe_fn T.F__law_with (hr.mono (by decide)) (by rfl) (pa_cons (pv 3) (pa_cons pe_int (pa_cons (pe_op op_add (pe_ix (r := rIxT K) ix_tup (pv 3) pe_int (fun _ _ => rfl)) pe_int) pa_nil)))) pa_nil))))
      (pss_cons (ps_if (pt_cmpR op_lt (pe_ix (r := rIxT K) ix_tup (pv 3) pe_int (fun _ _ => rfl)) (pe_ix (r := rIxT K) ix_tup (pv 3) pe_int (fun _ _ => rfl)) (nomark _)) (pss_one (ps_expr (pe_bm PySem.F.plainAttrs_list PySem.F.slot_list_append PySem.F.type_list_append mt_append (pv 6) (pa_cons (pe_fn T.F__law_with (hr.mono (by decide)) (by rfl) (pa_cons (pv 3) (pa_cons pe_int (pa_cons (pe_op op_add (pe_ix (r := rIxT K) ix_tup (pv 3) pe_int (fun _ _ => rfl)) pe_int) pa_nil)))) pa_nil)))) pss_nil)
      (pss_cons (ps_for PassesOwn.never rfl (pi_list (pv 6)) (pg_name (i := 7) sc_law.nd rfl (Or.inr rfl)) (pss_one (ps_if (pt_cmpR (op_neD hr.units) (pe_lc (own := [("_law_j", 10)]) (g := gName 10) (by rfl) sc_law.nd (pi_range2 (by rfl) T.b_range (pa_cons pe_int (pa_cons pe_int pa_nil))) (blkOk_by (own := [("_law_j", 10)]) (N := ["_law_script", "_law_deal_here", "_law_turn", "_law_one", "_law_made_here", "_law_times", "_law_longer", "_law_other", "_law_wide", "_law_many", "_law_j", "_law_time"]) (sc := defScope s_law) (by decide +kernel)) (fun _ _ _ _ _ => pg_name (i := 10) sc_law.nd rfl (Or.inl rfl)) (fun _ _ _ _ _ => pts_one (pt_cmpR op_lt (pe_mt T.m_Rule_time (hr.mono (by decide)) (pe_fn T.F__law_made (hr.mono (by decide)) (by rfl) (pa_cons (pv 7) pa_nil)) (pa_cons (pv 10) pa_nil)) (pe_mt T.m_Rule_time (hr.mono (by decide)) (pv 4) (pa_cons (pv 10) pa_nil)) (nomark _))) (fun _ _ _ _ _ => (pv 10))) (pe_lst pa_nil) (nomark _)) (pss_one (ps_ret pe_bl)) pss_nil)))
      (pss_cons (ps_set (i := 8) sc_law.nd rfl (Or.inl rfl) (pe_lst (pa_cons (pe_fn T.F__law_with (hr.mono (by decide)) (by rfl) (pa_cons (pv 3) (pa_cons pe_int (pa_cons pe_bl pa_nil)))) (pa_cons (pe_fn T.F__law_with (hr.mono (by decide)) (by rfl) (pa_cons (pv 3) (pa_cons pe_int (pa_cons (pe_callB (call_min2' rfl) (by rfl) T.b_min (by decide +kernel) (pa_cons (pe_callTy call_int1' (by rfl) T.b_int boot_int (pa_cons (pe_op op_add (pe_ix (r := rIxT K) ix_tup (pv 3) pe_int (fun _ _ => rfl)) pe_int) pa_nil)) (pa_cons (pe_callTy call_int1' (by rfl) T.b_int boot_int (pa_cons (pe_ix (r := rIxT K) ix_tup (pv 3) pe_int (fun _ _ => rfl)) pa_nil)) pa_nil))) pa_nil)))) pa_nil))))
      (pss_cons (ps_if (pt_cmpR op_gt (pe_ix (r := rIxT K) ix_tup (pv 3) pe_int (fun _ _ => rfl)) (pe_callB (call_max2' rfl) (by rfl) T.b_max (by decide +kernel) (pa_cons pe_int (pa_cons (pe_ix (r := rIxT K) ix_tup (pv 3) pe_int (fun _ _ => rfl)) pa_nil))) (nomark _)) (pss_one (ps_expr (pe_bm PySem.F.plainAttrs_list PySem.F.slot_list_append PySem.F.type_list_append mt_append (pv 8) (pa_cons (pe_fn T.F__law_with (hr.mono (by decide)) (by rfl) (pa_cons (pv 3) (pa_cons pe_int (pa_cons (pe_op op_sub (pe_ix (r := rIxT K) ix_tup (pv 3) pe_int (fun _ _ => rfl)) pe_int) pa_nil)))) pa_nil)))) pss_nil)
      (pss_cons (ps_for PassesOwn.never rfl (pi_list (pv 8)) (pg_name (i := 7) sc_law.nd rfl (Or.inr rfl)) (pss_one (ps_if (pt_cmpR (op_neD hr.units) (pe_lc (own := [("_law_many", 9)]) (g := gName 9) (by rfl) sc_law.nd (pi_range1 (by rfl) T.b_range (pa_cons pe_int pa_nil)) (blkOk_by (own := [("_law_many", 9)]) (N := ["_law_script", "_law_deal_here", "_law_turn", "_law_one", "_law_made_here", "_law_times", "_law_longer", "_law_other", "_law_wide", "_law_many", "_law_j", "_law_time"]) (sc := defScope s_law) (by decide +kernel)) (fun _ _ _ _ _ => pg_name (i := 9) sc_law.nd rfl (Or.inl rfl)) (fun _ _ _ _ _ => pts_one (pt_cmpR op_lt (pe_mt T.m_Rule_limit (hr.mono (by decide)) (pe_fn T.F__law_made (hr.mono (by decide)) (by rfl) (pa_cons (pv 7) pa_nil)) (pa_cons (pv 9) pa_nil)) (pe_mt T.m_Rule_limit (hr.mono (by decide)) (pv 4) (pa_cons (pv 9) pa_nil)) (nomark _))) (fun _ _ _ _ _ => (pv 9))) (pe_lst pa_nil) (nomark _)) (pss_one (ps_ret pe_bl)) pss_nil)))
      (pss_cons (ps_if (PW.pt (pw_or (pt_cmpR op_ne (pe_mt T.m_Rule_limit (hr.mono (by decide)) (pv 4) (pa_cons pe_int pa_nil)) pe_int (nomark _)) (pw_or (pt_cmpR op_ne (pe_mt T.m_Rule_limit (hr.mono (by decide)) (pv 4) (pa_cons (pe_ix (r := rIxT K) ix_tup (pv 3) pe_int (fun _ _ => rfl)) pa_nil)) (pe_ix (r := rIxT K) ix_tup (pv 3) pe_int (fun _ _ => rfl)) (nomark _)) (pw_or1 (pt_cmpR op_ne (pe_mt T.m_Rule_limit (hr.mono (by decide)) (pv 4) (pa_cons (pe_op op_mul pe_int (pe_ix (r := rIxT K) ix_tup (pv 3) pe_int (fun _ _ => rfl))) pa_nil)) (pe_op op_mul pe_int (pe_ix (r := rIxT K) ix_tup (pv 3) pe_int (fun _ _ => rfl))) (nomark _)))))) (pss_one (ps_ret pe_bl)) pss_nil)
      (pss_one (ps_for PassesOwn.never rfl (pi_range2 (by rfl) T.b_range (pa_cons pe_int (pa_cons pe_int pa_nil))) (pg_name (i := 9) sc_law.nd rfl (Or.inl rfl)) (pss_one (ps_if (pt_cmpR op_ne (pe_mt T.m_Rule_limit (hr.mono (by decide)) (pv 4) (pa_cons (pe_op op_add (pv 9) (pe_ix (r := rIxT K) ix_tup (pv 3) pe_int (fun _ _ => rfl))) pa_nil)) (pe_op op_add (pe_mt T.m_Rule_limit (hr.mono (by decide)) (pv 4) (pa_cons (pv 9) pa_nil)) (pe_ix (r := rIxT K) ix_tup (pv 3) pe_int (fun _ _ => rfl))) (nomark _)) (pss_one (ps_ret pe_bl)) pss_nil)))))))))))))))))
      (pss_one (ps_ret pe_bl)))), ?_⟩
    walk_at "y"
    refine ⟨a, ns, 0, rfl, hS, hlen, fun d H0 e0 D0 => ?_⟩
    walk_at "y"
    refine x_cut (fun σ' H' => ∃ x2 x3 x4 x5 x6 x7 x8 x9 x10 x11, σ' = [some (.ref a), some (.ref d), x2, x3, x4, x5, x6, x7, x8, x9, x10, x11]) (fun nn hn => ?_) ?_
    · walk_at "y"
      refine ⟨by decide, by decide, turns_range (fun i σ' H' => (∃ x2 x3 x4 x5 x6 x7 x8 x9 x10 x11, σ' = [some (.ref a), some (.ref d), x2, x3, x4, x5, x6, x7, x8, x9, x10, x11]) ∧ Deal P w H' d) ⟨⟨none, none, none, none, none, none, none, none, none, none, rfl⟩, D0⟩ ?_ (fun σ' H' h => hn _ _ h.1)⟩
      rintro i σ' H hi ⟨⟨x2, x3, x4, x5, x6, x7, x8, x9, x10, x11, rfl⟩, D⟩
      clear hn k
      walk_at "y"
      refine ⟨d, rfl, D, fun t r H1 e1 ht Dr => ?_⟩
      have D1 := D.mono e1
      have ok := Dr.ok
      have two := two_of Dr
      have sm := two.sm ok
      walk_at "y"
      refine ⟨t, r, rfl, ht, ok, fun p H2 e2 np R => ?_⟩
      replace D1 := D1.mono e2
      replace ht := e2 _ _ ht
      walk_at "y"
      clear D D0 e0 e1 e2 np hS
      refine x_cutE (fun nn hn => ?_) (fun H3 e3 => ?_)
      · walk_at "x"
        refine ⟨rfl, ?_⟩
        walk_at "x"
        obtain ⟨dx, hp⟩ := R
        refine x_strO hp ⟨p, r, rfl, ⟨dx, hp⟩, sm, ?_⟩
        walk_at "x"
        refine ⟨r, rfl, ok, two, fun p2 H3 e3 R2 => ?_⟩
        walk_at "x"
        obtain ⟨dx2, hp2⟩ := R2
        have hp' := e3 _ _ hp
        refine x_neI hp2 hp' ⟨_, _, r, r, rfl, ⟨dx2, hp2⟩, ⟨dx, hp'⟩, sm, sm, _, rfl, ?_⟩
        walk_at "x"
        refine iteN (by simp) ?_
        walk_at "x"
        refine ⟨t, r, rfl, e3 _ _ ht, ok, fun p4 H4 e4 np4 R4 => ?_⟩
        walk_at "x"
        obtain ⟨dx4, hp4⟩ := R4
        have hp5 := e4 _ _ hp'
        refine x_neI hp4 hp5 ⟨_, _, r, r, rfl, ⟨dx4, hp4⟩, ⟨dx, hp5⟩, sm, sm, _, rfl, ?_⟩
        walk_at "x"
        refine iteN (by simp) ?_
        walk_at "x"
        exact hn _ (e3.trans e4)
      replace D1 := D1.mono e3
      replace ht := e3 _ _ ht
      replace R := R.mono e3
      have cp := cap_pos ok
      have cl := cap_le ok
      have l1 := Dr.most; have l2 := Dr.base; have l3 := ok.base; have l4 := ok.most; have l5 := Dr.under; have l6 := ok.under; have l7 := ok.under2; have l8 := ok.top
      walk_at "y"
      obtain ⟨dx, hp⟩ := R
      refine ⟨_, _, dx, _, _, rfl, hp, T.c_Rule, T.n_Rule_cap, rfl, ?_⟩
      walk_at "y"
      refine ⟨_, _, rfl, ⟨by decide, by decide, by omega, by omega⟩, ?_⟩
      obtain ⟨m, hm⟩ : ∃ m, m = (capOf r + 3 - 1).toNat := ⟨_, rfl⟩
      rw [← hm]
      refine comp_rangeF (fun i2 => timeOf r (1 + (i2 : Int))) (by omega) (fun _ => rfl) (fun i2 H' hi2 e KY ky => ?_) (fun tD H4 hD e4 hl4 => ?_)
      · walk_at "x"
        have hp' := e _ _ hp
        refine ⟨_, dx, _, rfl, hp', rfl, ?_⟩
        walk_at "x"
        exact ⟨_, _, _, rfl, ⟨dx, hp'⟩, ok, ky⟩
      have R : RuleAt (He.ga K "Rule") H4 p r := ⟨dx, e4 _ _ hp⟩
      replace D1 := D1.mono e4
      replace ht := e4 _ _ ht
      clear hp
      walk_at "y"
      refine x_cutE (fun nn hn => ?_) (fun H5 e5 => ?_)
      · walk_at "x"
        refine ⟨⟨_, SqL.of hl4⟩, ?_⟩
        refine comp_listF (fun n => n) (SqL.of hl4) (by rw [List.length_map, List.length_range]; omega) (fun _ => rfl) (fun n H' hn e KY ky => ?_) (fun D2 H5 hD2 e5 hl5 => ?_)
        · walk_at "x"
          exact ky
        rw [List.map_id'] at hl5
        walk_at "x"
        refine ⟨_, _, rfl, SqL.of hl5, by rw [List.length_map, List.length_range]; omega, fun ns' q1 pe so hq1 => ?_⟩
        have es := sorted_eq pe so (times_rise ok m)
        subst es
        refine x_neInts (Ex.new hq1 _ _ (e5 _ _ hl4)) upd_same ?_
        walk_at "x"
        refine iteN (by simp) ?_
        obtain ⟨H6, hH6, e6⟩ : ∃ H6, upd H5 q1 (.lst (((List.range m).map fun (i2 : Nat) => timeOf r (1 + (i2 : Int))).map V.int)) = H6 ∧ Ex H5 H6 := ⟨_, rfl, Ex.new hq1⟩
        rw [hH6]
        clear hH6
        have hl6 := e6 _ _ (e5 _ _ hl4)
        walk_at "x"
        refine ⟨⟨_, SqL.of hl6⟩, ?_⟩
        refine comp_listH (fun i2 acc H' => ∃ ps : List Addr, acc = ps.map V.ref ∧ Paired (fun p kv => H' p = some (.tup [kV kv.1, kv.2])) ps (kvsF (fun (i2 : Nat) => timeOf r (1 + (i2 : Int))) i2)) ?_ (SqL.of hl6) (by rw [List.length_map, List.length_map, List.length_range]; omega) (fun _ => rfl) ⟨[], rfl, .nil⟩ ?_ ?_
        · rintro i2 acc Ha Hb kt ⟨ps, rfl, pp⟩
          exact ⟨ps, rfl, paired_imp (fun _ _ z => kt _ _ z (fun ys w => by cases w)) pp⟩
        · rintro i2 x acc H' hi2 ⟨ps, rfl, pp⟩ e KY ky
          have hx : x = .int (timeOf r (1 + (i2 : Int))) := by
            rw [List.getElem?_map, List.getElem?_map] at hi2
            by_cases hlt : i2 < m
            · rw [List.getElem?_range hlt] at hi2
              exact (Option.some.inj hi2).symm
            · rw [List.getElem?_eq_none (by rw [List.length_range]; omega)] at hi2
              cases hi2
          subst hx
          walk_at "x"
          refine ⟨by show 2 ≤ sizeLine; decide, fun q2 hq2 => ?_⟩
          refine ky _ _ (Ex.new hq2) ⟨ps ++ [q2], by simp, ?_⟩
          rw [kvsF_succ]
          exact (paired_imp (fun _ _ z => Ex.new hq2 _ _ z) pp).snoc upd_same
        rintro D3 acc H7 hD3 e7 hl7 ⟨ps, rfl, pp⟩
        rw [List.length_map, List.length_map, List.length_range] at pp
        walk_at "x"
        refine ⟨_, ps, _, rfl, SqL.of hl7, paired_imp (fun _ _ z => SqT.of z) pp, fun q3 hq3 => ?_⟩
        walk_at "x"
        refine ⟨q3, _, rfl, upd_same, ?_⟩
        rw [times_keys ok (by omega)]
        walk_at "x"
        obtain ⟨dx, hp⟩ := R.mono (e5.trans (e6.trans (e7.trans (Ex.new hq3))))
        refine ⟨_, _, dx, _, _, rfl, hp, T.c_Rule, T.n_Rule_cap, rfl, ?_⟩
        walk_at "x"
        refine iteN (by rw [show (((capOf r).toNat : Nat) : Int) = capOf r by omega]; simp) ?_
        walk_at "x"
        exact hn _ (e5.trans (e6.trans (e7.trans (Ex.new hq3))))
      replace D1 := D1.mono e5
      replace ht := e5 _ _ ht
      replace R := R.mono e5
      walk_at "y"
      refine ⟨_, _, _, _, rfl, rfl, SqT.of ht, (show atI (ruleVs r) 3 = some (.int r.more) from rfl), ?_⟩
      walk_at "y"
      refine ⟨t, r, 3, _, rfl, ht, by decide, fun b1 H6 e6 B1 => ?_⟩
      replace ht := e6 _ _ ht
      walk_at "y"
      refine ⟨_, _, _, _, rfl, rfl, SqT.of ht, (show atI (ruleVs r) 4 = some (.int r.most) from rfl), ?_⟩
      walk_at "y"
      refine ⟨t, r, 4, _, rfl, ht, by decide, fun b2 H7 e7 B2 => ?_⟩
      replace ht := e7 _ _ ht
      replace B1 := e7 _ _ B1
      walk_at "y"
      replace D1 := (D1.mono e6).mono e7
      replace R := (R.mono e6).mono e7
      refine ⟨by show 2 ≤ sizeLine; decide, fun l hl => ?_⟩
      walk_at "y"
      have eL : Ex H7 (upd H7 l (.lst [.ref b1, .ref b2])) := Ex.new hl
      refine x_cut (fun σ' H' => σ' = [some (.ref a), some (.ref d), some (.int (0 + (i : Int))), some (.ref t), some (.ref p), some (.ref tD), some (.ref l), x7, x8, x9, x10, x11] ∧ ∃ xs : List V, H' l = some (.lst xs) ∧ (∀ x ∈ xs, GoodL r x H') ∧ Ex H7 H') (fun nn hn => ?_) ?_
      · walk_at "x"
        refine ⟨_, _, _, _, rfl, rfl, SqT.of (eL _ _ ht), (show atI (ruleVs r) 2 = some (.int r.base) from rfl), ?_⟩
        walk_at "x"
        refine ⟨_, _, _, _, rfl, rfl, SqT.of (eL _ _ ht), (show atI (ruleVs r) 4 = some (.int r.most) from rfl), ?_⟩
        walk_at "x"
        refine ifc (fun h => ?_) (fun h => ?_)
        · walk_at "x"
          refine ⟨tyL upd_same, ?_⟩
          walk_at "x"
          refine ⟨_, _, _, _, rfl, rfl, SqT.of (eL _ _ ht), (show atI (ruleVs r) 2 = some (.int r.base) from rfl), ?_⟩
          walk_at "x"
          refine ⟨t, r, 2, _, rfl, eL _ _ ht, by decide, fun b3 H8 e8 B3 => ?_⟩
          have L8 := e8 _ _ (show upd H7 l (.lst [.ref b1, .ref b2]) l = _ from upd_same)
          walk_at "x"
          refine x_appendL (K := K) L8 (by show 2 < sizeLine; decide) ?_
          walk_at "x"
          refine hn _ _ ⟨rfl, _, upd_same, ?_, ex_newU hl (eL.trans e8)⟩
          intro x hx
          refine GoodL.kt ?_ (kt_upd L8)
          simp only [List.cons_append, List.nil_append, List.mem_cons, List.not_mem_nil, or_false] at hx
          rcases hx with rfl | rfl | rfl
          · exact long3 Dr (e8 _ _ (eL _ _ B1))
          · exact long4 Dr (e8 _ _ (eL _ _ B2))
          · exact long2 Dr (by simpa using h) B3
        · walk_at "x"
          refine hn _ _ ⟨rfl, _, upd_same, ?_, eL⟩
          intro x hx
          simp only [List.mem_cons, List.not_mem_nil, or_false] at hx
          rcases hx with rfl | rfl
          · exact long3 Dr (eL _ _ B1)
          · exact long4 Dr (eL _ _ B2)
      rintro σ' H8 ⟨rfl, xs, LL, gl, e8⟩
      replace R := R.mono e8
      replace ht := e8 _ _ ht
      replace D1 := D1.mono e8
      clear B1 B2 hl eL e8 e7 e6
      refine x_cut (fun σ' H' => ∃ x7, σ' = [some (.ref a), some (.ref d), some (.int (0 + (i : Int))), some (.ref t), some (.ref p), some (.ref tD), some (.ref l), x7, x8, x9, x10, x11] ∧ Ex H8 H') (fun nn hn => ?_) ?_
      · walk_at "x"
        refine ⟨⟨_, SqL.of LL⟩, turns_list (K := K) (xs := xs) (fun j σ' H' => ∃ x7, σ' = [some (.ref a), some (.ref d), some (.int (0 + (i : Int))), some (.ref t), some (.ref p), some (.ref tD), some (.ref l), x7, x8, x9, x10, x11] ∧ Ex H8 H') ⟨_, rfl, Ex.refl _⟩ (fun j σ' H' _ ⟨_, _, e⟩ => SqL.of (e _ _ LL)) ?_ (fun σ' H' h => hn _ _ h)⟩
        rintro j x σ' H' hj ⟨x7, rfl, e⟩
        obtain ⟨b, q, rfl, hb, okq, hq⟩ := (GoodL.kt (gl x (List.mem_of_getElem? hj)) (Ex.kt e))
        walk_at "x"
        refine ⟨_, _, rfl, by decide, ?_⟩
        refine comp_range0 (by decide) (fun _ => rfl) (fun i2 H2 hi2 e2 KT kt => ?_) (fun Dd H2 hD e2 hl => ?_)
        · walk_at "x"
          refine ⟨b, q, rfl, e2 _ _ hb, okq, fun p3 H3 e3 np3 R3 => ?_⟩
          walk_at "x"
          obtain ⟨dx3, hp3⟩ := R3
          refine ⟨_, dx3, _, rfl, hp3, rfl, ?_⟩
          walk_at "x"
          refine ⟨_, _, _, rfl, ⟨dx3, hp3⟩, okq, ?_⟩
          walk_at "x"
          obtain ⟨dx, hp⟩ := ((R.mono e).mono e2).mono e3
          refine ⟨_, dx, _, rfl, hp, rfl, ?_⟩
          walk_at "x"
          refine ⟨_, _, _, rfl, ⟨dx, hp⟩, ok, ?_⟩
          walk_at "x"
          have lt := hq (1 + (i2 : Int)) (by omega)
          rw [decide_eq_false (by omega)]
          exact kt _ e3
        · walk_at "x"
          refine ⟨Nat.zero_le _, fun qq hqq => ?_⟩
          refine x_neInts (ns := []) (ms := []) (by rw [upd_ne (ne_of_none hl hqq)]; exact hl) upd_same ?_
          walk_at "x"
          refine iteN (by simp) ?_
          walk_at "x"
          exact e.trans (e2.trans (Ex.new hqq))
      rintro σ' H9 ⟨x7, rfl, e⟩
      replace R := R.mono e
      replace ht := e _ _ ht
      replace D1 := D1.mono e
      clear LL gl e
      walk_at "y"
      refine ⟨t, r, 9, _, rfl, ht, by decide, fun b1 H10 e10 B1 => ?_⟩
      replace ht := e10 _ _ ht
      walk_at "y"
      refine ⟨_, _, _, _, rfl, rfl, SqT.of ht, (show atI (ruleVs r) 7 = some (.int r.top) from rfl), ?_⟩
      walk_at "y"
      refine ⟨_, _, _, _, rfl, rfl, SqT.of ht, (show atI (ruleVs r) 8 = some (.int r.under) from rfl), ?_⟩
      walk_at "y"
      refine ⟨t, r, 7, _, rfl, ht, by decide, fun b2 H11 e11 B2 => ?_⟩
      replace ht := e11 _ _ ht
      replace B1 := e11 _ _ B1
      walk_at "y"
      replace D1 := (D1.mono e10).mono e11
      replace R := (R.mono e10).mono e11
      refine ⟨by show 2 ≤ sizeLine; decide, fun lw hl => ?_⟩
      walk_at "y"
      have eL : Ex H11 (upd H11 lw (.lst [.ref b1, .ref b2])) := Ex.new hl
      refine x_cut (fun σ' H' => σ' = [some (.ref a), some (.ref d), some (.int (0 + (i : Int))), some (.ref t), some (.ref p), some (.ref tD), some (.ref l), x7, some (.ref lw), x9, x10, x11] ∧ ∃ xs : List V, H' lw = some (.lst xs) ∧ (∀ x ∈ xs, GoodW r x H') ∧ Ex H11 H') (fun nn hn => ?_) ?_
      · walk_at "x"
        refine ⟨_, _, _, _, rfl, rfl, SqT.of (eL _ _ ht), (show atI (ruleVs r) 8 = some (.int r.under) from rfl), ?_⟩
        walk_at "x"
        refine ⟨_, _, _, _, rfl, rfl, SqT.of (eL _ _ ht), (show atI (ruleVs r) 7 = some (.int r.top) from rfl), ?_⟩
        walk_at "x"
        refine ifc (fun h => ?_) (fun h => ?_)
        · have h' : (if r.top > 1 then r.top else 1) < r.under := by simpa using h
          walk_at "x"
          refine ⟨tyL upd_same, ?_⟩
          walk_at "x"
          refine ⟨_, _, _, _, rfl, rfl, SqT.of (eL _ _ ht), (show atI (ruleVs r) 8 = some (.int r.under) from rfl), ?_⟩
          walk_at "x"
          refine ⟨t, r, 8, _, rfl, eL _ _ ht, by decide, fun b3 H12 e12 B3 => ?_⟩
          have L8 := e12 _ _ (show upd H11 lw (.lst [.ref b1, .ref b2]) lw = _ from upd_same)
          walk_at "x"
          refine x_appendL (K := K) L8 (by show 2 < sizeLine; decide) ?_
          walk_at "x"
          refine hn _ _ ⟨rfl, _, upd_same, ?_, ex_newU hl (eL.trans e12)⟩
          intro x hx
          refine GoodW.kt ?_ (kt_upd L8)
          simp only [List.cons_append, List.nil_append, List.mem_cons, List.not_mem_nil, or_false] at hx
          rcases hx with rfl | rfl | rfl
          · exact wide9 Dr (e12 _ _ (eL _ _ B1))
          · exact wide7 Dr (e12 _ _ (eL _ _ B2))
          · exact wide8 Dr (by split at h' <;> omega) (by split at h' <;> omega) B3
        · walk_at "x"
          refine hn _ _ ⟨rfl, _, upd_same, ?_, eL⟩
          intro x hx
          simp only [List.mem_cons, List.not_mem_nil, or_false] at hx
          rcases hx with rfl | rfl
          · exact wide9 Dr (eL _ _ B1)
          · exact wide7 Dr (eL _ _ B2)
      rintro σ' H12 ⟨rfl, xs, LL, gl, e12⟩
      replace R := R.mono e12
      replace ht := e12 _ _ ht
      replace D1 := D1.mono e12
      clear B1 B2 hl eL e12 e11 e10
      refine x_cut (fun σ' H' => ∃ x7, σ' = [some (.ref a), some (.ref d), some (.int (0 + (i : Int))), some (.ref t), some (.ref p), some (.ref tD), some (.ref l), x7, some (.ref lw), x9, x10, x11] ∧ Ex H12 H') (fun nn hn => ?_) ?_
      · walk_at "x"
        refine ⟨⟨_, SqL.of LL⟩, turns_list (K := K) (xs := xs) (fun j σ' H' => ∃ x7, σ' = [some (.ref a), some (.ref d), some (.int (0 + (i : Int))), some (.ref t), some (.ref p), some (.ref tD), some (.ref l), x7, some (.ref lw), x9, x10, x11] ∧ Ex H12 H') ⟨_, rfl, Ex.refl _⟩ (fun j σ' H' _ ⟨_, _, e⟩ => SqL.of (e _ _ LL)) ?_ (fun σ' H' h => hn _ _ h)⟩
        rintro j x σ' H' hj ⟨x7, rfl, e⟩
        obtain ⟨b, q, rfl, hb, okq, hq⟩ := (GoodW.kt (gl x (List.mem_of_getElem? hj)) (Ex.kt e))
        walk_at "x"
        refine ⟨by decide, by decide, ?_⟩
        refine comp_range0 (by decide) (fun _ => rfl) (fun i2 H2 hi2 e2 KT kt => ?_) (fun Dd H2 hD e2 hl => ?_)
        · walk_at "x"
          refine ⟨b, q, rfl, e2 _ _ hb, okq, fun p3 H3 e3 np3 R3 => ?_⟩
          walk_at "x"
          obtain ⟨dx3, hp3⟩ := R3
          refine ⟨_, dx3, _, rfl, hp3, rfl, ?_⟩
          walk_at "x"
          refine ⟨_, _, _, rfl, ⟨dx3, hp3⟩, okq, ?_⟩
          walk_at "x"
          obtain ⟨dx, hp⟩ := ((R.mono e).mono e2).mono e3
          refine ⟨_, dx, _, rfl, hp, rfl, ?_⟩
          walk_at "x"
          refine ⟨_, _, _, rfl, ⟨dx, hp⟩, ok, ?_⟩
          walk_at "x"
          have lt := hq (0 + (i2 : Int)) (by omega)
          rw [decide_eq_false (by omega)]
          exact kt _ e3
        · walk_at "x"
          refine ⟨Nat.zero_le _, fun qq hqq => ?_⟩
          refine x_neInts (ns := []) (ms := []) (by rw [upd_ne (ne_of_none hl hqq)]; exact hl) upd_same ?_
          walk_at "x"
          refine iteN (by simp) ?_
          walk_at "x"
          exact e.trans (e2.trans (Ex.new hqq))
      rintro σ' H13 ⟨x7, rfl, e⟩
      replace R := R.mono e
      replace ht := e _ _ ht
      replace D1 := D1.mono e
      clear LL gl e
      refine x_cutE (fun nn hn => ?_) (fun H14 e14 => ?_)
      · obtain ⟨dx, hp⟩ := R
        walk_at "x"
        refine ⟨_, dx, _, rfl, hp, rfl, ?_⟩
        walk_at "x"
        refine ⟨_, _, _, rfl, ⟨dx, hp⟩, ok, ?_⟩
        walk_at "x"
        refine iteN (by rw [lim_zero ok]; rfl) ?_
        walk_at "x"
        refine ⟨_, dx, _, rfl, hp, rfl, ?_⟩
        walk_at "x"
        refine ⟨_, _, _, _, rfl, rfl, SqT.of ht, (show atI (ruleVs r) 8 = some (.int r.under) from rfl), ?_⟩
        walk_at "x"
        refine ⟨_, _, _, rfl, ⟨dx, hp⟩, ok, ?_⟩
        walk_at "x"
        refine ⟨_, _, _, _, rfl, rfl, SqT.of ht, (show atI (ruleVs r) 7 = some (.int r.top) from rfl), ?_⟩
        walk_at "x"
        refine iteN (by rw [lim_one ok]; simp) ?_
        walk_at "x"
        refine ⟨_, dx, _, rfl, hp, rfl, ?_⟩
        walk_at "x"
        refine ⟨_, _, _, _, rfl, rfl, SqT.of ht, (show atI (ruleVs r) 8 = some (.int r.under) from rfl), ?_⟩
        walk_at "x"
        refine x_I (.inl ⟨by decide, by decide⟩) ?_
        walk_at "x"
        refine ⟨_, _, _, rfl, ⟨dx, hp⟩, ok, ?_⟩
        walk_at "x"
        refine ⟨_, _, _, _, rfl, rfl, SqT.of ht, (show atI (ruleVs r) 7 = some (.int r.top) from rfl), ?_⟩
        walk_at "x"
        refine x_I (.inl ⟨by decide, by decide⟩) ?_
        walk_at "x"
        refine iteN (by rw [lim_three ok]; simp) ?_
        walk_at "x"
        exact hn _ (Ex.refl _)
      replace R := R.mono e14
      replace ht := e14 _ _ ht
      replace D1 := D1.mono e14
      walk_at "x"
      refine ⟨_, _, rfl, by decide, turns_range (fun j σ' H' => (∃ x9, σ' = [some (.ref a), some (.ref d), some (.int (0 + (i : Int))), some (.ref t), some (.ref p), some (.ref tD), some (.ref l), x7, some (.ref lw), x9, x10, x11]) ∧ H' = H14) ⟨⟨_, rfl⟩, rfl⟩ ?_ ?_⟩
      · rintro j σ' H' hj ⟨⟨x9, rfl⟩, hH⟩
        rw [hH]
        obtain ⟨dx, hp⟩ := R
        walk_at "x"
        refine ⟨_, dx, _, rfl, hp, rfl, ?_⟩
        walk_at "x"
        refine ⟨_, _, _, _, rfl, rfl, SqT.of ht, (show atI (ruleVs r) 8 = some (.int r.under) from rfl), ?_⟩
        walk_at "x"
        refine ⟨_, _, _, rfl, ⟨dx, hp⟩, ok, ?_⟩
        walk_at "x"
        refine ⟨_, dx, _, rfl, hp, rfl, ?_⟩
        walk_at "x"
        refine ⟨_, _, _, rfl, ⟨dx, hp⟩, ok, ?_⟩
        walk_at "x"
        refine ⟨_, _, _, _, rfl, rfl, SqT.of ht, (show atI (ruleVs r) 7 = some (.int r.top) from rfl), ?_⟩
        walk_at "x"
        refine iteN (by rw [lim_add ok]; simp) ?_
        walk_at "x"
        exact ⟨⟨_, rfl⟩, rfl⟩
      · rintro σ' H' ⟨⟨x9, rfl⟩, hH⟩
        rw [hH]
        exact ⟨⟨_, _, _, _, _, _, _, _, _, _, rfl⟩, D1⟩
    · rintro σ' H' ⟨x2, x3, x4, x5, x6, x7, x8, x9, x10, x11, rfl⟩
      walk_at "x"
      exact k _

end
end L3
namespace L3
open PySem PySem.Spec PyProof.Rows L2
def fxs : List Fx := [.fa (.free "isinstance"), .fa (.free "int"), .fa (.free "bool"), .fa (.free "str"), .fa (.glo "is_integer"), .fa (.glo "is_number"), .fa (.glo "is_from"), .fa (.glo "is_word"), .fa (.noat "Rule" "need"), .fa (.noat "Rule" "of"), .fa (.noat "Rule" "base"), .fa (.noat "Rule" "more"), .fa (.noat "Rule" "most"), .fa (.noat "Rule" "calm"), .fa (.noat "Rule" "back"), .fa (.noat "Rule" "top"), .fa (.noat "Rule" "under"), .fa (.noat "Rule" "up"), .fa (.noat "Rule" "hears"), .fa (.noat "Rule" "cap"), .fa (.cls "Rule"), .fa (.glo "BACKS"), .tup "BACKS" [.str "half", .str "open", .str "trial"], .fa (.glo "HEARD"), .tup "HEARD" [.str "fault", .str "no", .str "out"], .fa (.glo "wrong_number"), .fa (.glo "wrong_word"), .fa (.glo "Rule"), .fa (.mkr "Rule"), .fa (.meth "Rule" "limit"), .fa (.free "min"), .fa (.meth "Rule" "time"), .fa (.free "len"), .fa (.free "abs"), .fa (.glo "_law_draw"), .fa (.glo "_law_deal"), .fa (.glo "_law_pick"), .fa (.glo "_law_drawn_rule"), .fa (.glo "_law_made"), .fa (.meth "Rule" "__str__"), .insc "Rule", .fa (.meth "Rule" "__eq__"), .fa (.free "all"), .fa (.free "list"), .fa (.free "zip"), .fa (.str "DIGITS" "0123456789"), .fa (.glo "number_in"), .fa (.glo "numbers_in"), .fa (.glo "share_in"), .fa (.glo "ROUNDS"), .bo (fun K => He.valsB K (He.ga K "ROUNDS") [("down", .bl false), ("up", .bl true)]), .fa (.glo "words_between"), .bo (cmB "Rule" "read"), .fa (.free "range"), .fa (.free "sorted"), .fa (.free "dict"), .fa (.free "max"), .bo (neB "Rule"), .fa (.glo "_law_with"), .fa (.glo "law")]
def fns : List He5.DefA := [gdef "is_integer" s_is_integer, gdef "is_number" s_is_number, gdef "is_from" s_is_from, gdef "is_word" s_is_word, gdef "wrong_number" s_wrong_number, gdef "wrong_word" s_wrong_word, mdef "Rule" "__init__" "Rule.__init__" s_Rule___init__, mdef "Rule" "limit" "Rule.limit" s_Rule_limit, mdef "Rule" "time" "Rule.time" s_Rule_time, gdef "_law_draw" s__law_draw, gdef "_law_deal" s__law_deal, gdef "_law_pick" s__law_pick, gdef "_law_drawn_rule" s__law_drawn_rule, gdef "_law_made" s__law_made, mdef "Rule" "__str__" "Rule.__str__" s_Rule___str__, mdef "Rule" "__eq__" "Rule.__eq__" s_Rule___eq__, gdef "number_in" s_number_in, gdef "numbers_in" s_numbers_in, gdef "share_in" s_share_in, gdef "words_between" s_words_between, cdef "Rule" "read" "Rule.read" s_Rule_read, gdef "_law_with" s__law_with, gdef "law" s_law]
def exs (K : PySem.W.Frag) : Bool := fxs.all fun f => f.ok K
abbrev hR : PySem.W.OpenRow := PySem.W.OpenLaw.row PySem.Challenge.rw_sitout_k13_whole_rules_and_their_parts
def htabs : Tabs := [("ROUNDS", ["down", "up"])]
abbrev hk : PySem.W.Hook := hookW 5 exs fns htabs
def hob (s : PySem.W.SharedT) : hk.α := obsWG 5 exs fns htabs (HandSHeadRun.getT s)
theorem hob_eq (s : PySem.W.SharedT) : hob s = hk.obs s.abs := obsWG_eq (HandSHeadRun.getT_eq s)
def hnm0 : List PySem.Str := ["__name__", "SitError", "InvalidRule", "InvalidText", "DIGITS", "is_integer", "is_number", "is_from", "is_word", "number_in", "BACKS", "HEARD", "ROUNDS", "wrong_number", "wrong_word", "numbers_in", "share_in", "Rule", "words_between", "_law_deal", "_law_draw", "_law_pick", "_law_drawn_rule", "_law_made", "_law_with"]
def hnames : List PySem.Str := hnm0
theorem hrunA (w : World) : HandSHeadRun.RunEq hR (PySem.W.view hR.prog [28]) hk hob 8000 hnames (w.withFollow "special-get-raises" false) := by
  intro os
  kernel_rfl
theorem hrunB (w : World) : HandSHeadRun.RunEq hR (PySem.W.view hR.prog [28]) hk hob 8000 hnames (w.withFollow "special-get-raises" true) := by
  intro os
  kernel_rfl
theorem hrun (w : World) : HandSHeadRun.RunEq hR (PySem.W.view hR.prog [28]) hk hob 8000 hnames w := PySem.W.byRow2 "special-get-raises" hrunA hrunB w
theorem tx_of {w : World} {K : PySem.W.Frag} {h : Heap} {mg : Str → Option Value} (X : K.In h) (G : h.Ns mainGlobals mg) (c : SaysW exs fns htabs w K) : Tx w K mg := by
  have s := c.b
  have hx : (fxs.all fun f => f.ok K) = true := s.fx
  exact ⟨He.free_ok X G (fx_at hx 0 (f := .fa (.free "isinstance"))), He.free_ok X G (fx_at hx 1 (f := .fa (.free "int"))), He.free_ok X G (fx_at hx 2 (f := .fa (.free "bool"))), He.free_ok X G (fx_at hx 3 (f := .fa (.free "str"))), df_of X G (fx_at hx 4 (f := .fa (.glo "is_integer"))) s 0, df_of X G (fx_at hx 5 (f := .fa (.glo "is_number"))) s 1, df_of X G (fx_at hx 6 (f := .fa (.glo "is_from"))) s 2, df_of X G (fx_at hx 7 (f := .fa (.glo "is_word"))) s 3, He.noat_ok (fx_at hx 8 (f := .fa (.noat "Rule" "need"))), He.noat_ok (fx_at hx 9 (f := .fa (.noat "Rule" "of"))), He.noat_ok (fx_at hx 10 (f := .fa (.noat "Rule" "base"))), He.noat_ok (fx_at hx 11 (f := .fa (.noat "Rule" "more"))), He.noat_ok (fx_at hx 12 (f := .fa (.noat "Rule" "most"))), He.noat_ok (fx_at hx 13 (f := .fa (.noat "Rule" "calm"))), He.noat_ok (fx_at hx 14 (f := .fa (.noat "Rule" "back"))), He.noat_ok (fx_at hx 15 (f := .fa (.noat "Rule" "top"))), He.noat_ok (fx_at hx 16 (f := .fa (.noat "Rule" "under"))), He.noat_ok (fx_at hx 17 (f := .fa (.noat "Rule" "up"))), He.noat_ok (fx_at hx 18 (f := .fa (.noat "Rule" "hears"))), He.noat_ok (fx_at hx 19 (f := .fa (.noat "Rule" "cap"))), He.cls_ok (fx_at hx 20 (f := .fa (.cls "Rule"))), He.glo_ok X G (fx_at hx 21 (f := .fa (.glo "BACKS"))), fun H => He.tupB_ok (fx_at hx 22 (f := .tup "BACKS" [.str "half", .str "open", .str "trial"])) H, He.glo_ok X G (fx_at hx 23 (f := .fa (.glo "HEARD"))), fun H => He.tupB_ok (fx_at hx 24 (f := .tup "HEARD" [.str "fault", .str "no", .str "out"])) H, df_of X G (fx_at hx 25 (f := .fa (.glo "wrong_number"))) s 4, df_of X G (fx_at hx 26 (f := .fa (.glo "wrong_word"))) s 5, ki_of X G (fx_at hx 27 (f := .fa (.glo "Rule"))) (fx_at hx 20 (f := .fa (.cls "Rule"))) (fx_at hx 28 (f := .fa (.mkr "Rule"))) s 6, md_of (fx_at hx 29 (f := .fa (.meth "Rule" "limit"))) s 7, He.free_ok X G (fx_at hx 30 (f := .fa (.free "min"))), md_of (fx_at hx 31 (f := .fa (.meth "Rule" "time"))) s 8, He.free_ok X G (fx_at hx 32 (f := .fa (.free "len"))), He.free_ok X G (fx_at hx 33 (f := .fa (.free "abs"))), df_of X G (fx_at hx 34 (f := .fa (.glo "_law_draw"))) s 9, df_of X G (fx_at hx 35 (f := .fa (.glo "_law_deal"))) s 10, df_of X G (fx_at hx 36 (f := .fa (.glo "_law_pick"))) s 11, df_of X G (fx_at hx 37 (f := .fa (.glo "_law_drawn_rule"))) s 12, df_of X G (fx_at hx 38 (f := .fa (.glo "_law_made"))) s 13, md_of (fx_at hx 39 (f := .fa (.meth "Rule" "__str__"))) s 14, insc_ok (fx_at hx 40 (f := .insc "Rule")), He.glo_ok X G (fx_at hx 27 (f := .fa (.glo "Rule"))), md_of (fx_at hx 41 (f := .fa (.meth "Rule" "__eq__"))) s 15, He.free_ok X G (fx_at hx 42 (f := .fa (.free "all"))), He.free_ok X G (fx_at hx 43 (f := .fa (.free "list"))), He.free_ok X G (fx_at hx 44 (f := .fa (.free "zip"))), He.str_ok X G (fx_at hx 45 (f := .fa (.str "DIGITS" "0123456789"))), df_of X G (fx_at hx 46 (f := .fa (.glo "number_in"))) s 16, df_of X G (fx_at hx 47 (f := .fa (.glo "numbers_in"))) s 17, df_of X G (fx_at hx 48 (f := .fa (.glo "share_in"))) s 18, He.glo_ok X G (fx_at hx 49 (f := .fa (.glo "ROUNDS"))), c.tab 0, fx_at hx 50 (f := .bo (fun K => He.valsB K (He.ga K "ROUNDS") [("down", .bl false), ("up", .bl true)])), df_of X G (fx_at hx 51 (f := .fa (.glo "words_between"))) s 19, cmd_of (fx_at hx 52 (f := .bo (cmB "Rule" "read"))) s 20, He.free_ok X G (fx_at hx 53 (f := .fa (.free "range"))), He.free_ok X G (fx_at hx 54 (f := .fa (.free "sorted"))), He.free_ok X G (fx_at hx 55 (f := .fa (.free "dict"))), He.free_ok X G (fx_at hx 56 (f := .fa (.free "max"))), neC_of (fx_at hx 57 (f := .bo (neB "Rule"))), df_of X G (fx_at hx 58 (f := .fa (.glo "_law_with"))) s 21, df_of X G (fx_at hx 59 (f := .fa (.glo "law"))) s 22⟩
theorem facts {P : Program} {w : World} {K : PySem.W.Frag} {h : Heap} {mg : Str → Option Value} {f : Addr} (X : K.In h) (G : h.Ns mainGlobals mg) (hfa : mg ("law" : Str) = some (.ref f)) (c : SaysW exs fns htabs w K) :
    ∃ fd : FuncData, (∀ (s : Shared) (v : Value), BindsTo s fd ⟨[v], []⟩ [("_law_script", v)]) ∧ ∀ base : Heap, K.In base → base.Ns mainGlobals mg → FnOk P w K mg base CX0 7 f fd ["_law_script"] (spLaw K) := by
  have T := tx_of X G c
  obtain ⟨f1, fd, F, g⟩ := T.d_law.ex
  have e := hfa.symm.trans g
  cases e
  have b := F.binds (ps := ["_law_script"]) fun _ _ _ _ _ _ us hl => match us, hl with | [_], _ => rfl
  refine ⟨fd, fun s v => ?_, fun base _ _ => ?_⟩
  · obtain ⟨oc, od, kV, doc, pm, an, cdv, ct, osl, rfl, lk, hcd⟩ := F.ex
    exact .of_eq rfl
  · exact Tx.law_ok T F
end L3
open PySem PySem.W PySem.Calls PyProof.Rows in
set_option maxRecDepth 100000 in
set_option maxHeartbeats 0 in
theorem PySem.Challenge.cw_sitout_k13_whole_rules_and_their_parts_holds : PySem.Challenge.rw_sitout_k13_whole_rules_and_their_parts.Holds := by
  w_on; o_law
  refine HandSHeadRun.head_any (r := OpenLaw.row PySem.Challenge.rw_sitout_k13_whole_rules_and_their_parts) (q := view (OpenLaw.row PySem.Challenge.rw_sitout_k13_whole_rules_and_their_parts).prog [28]) (H := L3.hk) (ob := L3.hob) (M := 8000) (loose := L3.hnames) (d := HandSHeadRun.topDef (OpenLaw.row PySem.Challenge.rw_sitout_k13_whole_rules_and_their_parts).prog 28) (kwd := []) L3.hob_eq
    (by kernel_rfl) (fun s => by kernel_rfl) L3.hrun (by kernel_rfl) (by kernel_rfl) (by kernel_rfl) (by rfl) (by first | assumption | decide +kernel) (by decide +kernel) ⟨rfl, rfl, rfl, rfl, rfl, by decide +kernel⟩ ?hw ?hc
  case hw => w_witness2
  case hc =>
    refine L2.walk_ofE (l := PySem.Challenge.rw_sitout_k13_whole_rules_and_their_parts) (n := 63) (k := 7) (x := "_law_script") (CX := L2.CX0) rfl (by decide) (by kernel_rfl) ⟨rfl, by decide, by decide⟩ ?F (fun _ _ _ _ z => z)
    intro w mg fa h Y G hmg0
    obtain ⟨K, KX, c⟩ := Y
    have hmg : mg ("law" : PySem.Str) = some (.ref fa) := by
      have e : (HandSHeadRun.topDef (OpenLaw.row PySem.Challenge.rw_sitout_k13_whole_rules_and_their_parts).prog 28).name = ("law" : PySem.Str) := by kernel_rfl
      rw [← e]
      exact hmg0
    obtain ⟨fd, hb, hF⟩ := L3.facts (P := (PySem.Challenge.rw_sitout_k13_whole_rules_and_their_parts).prog) (w := w) KX G hmg c
    exact ⟨K, fd, L3.spLaw K, KX, hb, fun H a ns hl _ hS => ⟨a, ns, rfl, hS, hl, fun _ => rfl⟩, hF⟩
#print axioms PySem.Challenge.cw_sitout_k13_whole_rules_and_their_parts_holds
