import PyProof.Rows.All
import Wide.All
import OpenK.AllK
import Wide.FinOn
import HandS.ForMost
import HandS.Evl
import HandS.Codes
import HandS.Defaults
import HandS.IsInst
import HandS.FStr
import KE.KStateDown
import Lean
import HandS.HeadEnd
import HandS.HeadNt
import HandS.HeadHook3
import HandS.Head0
import HandS.Head1
import HandS.Head2
import HandS.Style
import HandS.OwnEq
import KE.KCallOwn
import HandS.Star
import HandS.ClsMeth
import HandS.CallLocal
import KE.GoesNew
import KE.GoesEnum
import HandS.Walk
import HandS.Sort
import HandS.Conv
import HandS.RaiseMore
import HandS.WordsDict
import PyProof.ReprRoads
import KE.KDictKeyed
import KE.KDictPairs
import KE.KDictWalk
import KE.KDictDisplayH
import KE.KDictCopyH
import KE.KDictList
import HandS.Deep
import HandS.TupAny
import HandS.TupMul
import HandS.Zip
import PySem.Challenge.RW_sitout_k37_numbers_known_by_hand
set_option Elab.async false
set_option linter.all false
set_option maxRecDepth 100000
set_option maxHeartbeats 4000000
namespace L3
open PySem L2 Evl
/-! objects of which an invariant alone is told -/
def Flat : HO → Prop
  | .lst _ => True
  | .dK _ => True
  | _ => False
def anyO (P : Program) (w : World) (S : HO → Prop) (a : Addr) : HO := .ext fun h => ∃ u, S u ∧ ObjOk P w (fun _ => none) h a u
section
variable {P : Program} {w : World} {H H' : Hp} {h h' : Heap} {a : Addr} {u : HO}
theorem flat_any (f : Flat u) (o : ObjOk P w H h a u) : ObjOk P w H' h a u := by
  cases u with
  | lst xs => exact o
  | dK kvs => exact o
  | _ => exact f.elim
theorem any_of {S : HO → Prop} (f : Flat u) (s : S u) (hf : ∀ u, S u → Flat u) (o : ObjOk P w H h a u) : ObjOk P w H' h a (anyO P w S a) := by
  refine ⟨⟨u, s, flat_any f o⟩, ?_, ?_⟩
  · cases u with
    | lst xs => obtain ⟨_, its, n, _, e⟩ := o; exact ⟨_, e⟩
    | dK kvs => obtain ⟨_, _, _, _, ob, _, _, e, _⟩ := o; exact ⟨_, e⟩
    | _ => exact f.elim
  · rintro h1 h2 ⟨u', s', o'⟩ k
    refine ⟨u', s', o'.stay (fun b v hb e => ?_) (fun b e => nomatch e) fun b xs e => nomatch e⟩
    rcases hb with rfl | hb
    · exact k v e
    · cases hb
end
/-- the same heap told by less: some lists and dicts by an invariant alone -/
def Abs (P : Program) (w : World) (H H' : Hp) : Prop := ∀ a, H' a = H a ∨ ∃ u S, H a = some u ∧ (∀ u, S u → Flat u) ∧ S u ∧ H' a = some (anyO P w S a)
section
variable {P : Program} {w : World} {H H' H0 : Hp} {h h0 : Heap}
theorem Abs.hok (b : Abs P w H H') (o : HOk P w H h) : HOk P w H' h := fun a u e => by
  have ho : ∀ c y, H c = some (.own y) → H' c = some (.own y) := fun c y q => by
    rcases b c with z | ⟨u, S, e1, f, s, e2⟩
    · rw [z]; exact q
    · rw [q] at e1; cases e1; exact (f _ s).elim
  have ht : ∀ c xs, H c = some (.tup xs) → H' c = some (.tup xs) := fun c y q => by
    rcases b c with z | ⟨u, S, e1, f, s, e2⟩
    · rw [z]; exact q
    · rw [q] at e1; cases e1; exact (f _ s).elim
  rcases b a with z | ⟨u', S, e1, f, s, e2⟩
  · rw [z] at e
    exact (o a u e).stay (fun _ _ _ q => q) (fun c q => ho c a q) ht
  · rw [e2] at e
    cases e
    exact any_of (f _ s) s f (o a u' e1)
theorem Abs.un {fs ex : List Addr} (b : Abs P w H H') (u : Un fs ex H0 H h0 h) : Un fs ex H0 H' h0 h where
  keep := u.keep
  slot := u.slot
  free := fun c o q n hx => by
    have z := u.free c o q n hx
    rcases b c with r | ⟨_, _, e1, _⟩
    · rw [r]; exact z
    · rw [z] at e1; cases e1
  there := u.there
  tups := fun c xs q => by
    have z := u.tups c xs q
    rcases b c with r | ⟨_, _, e1, f, s, _⟩
    · rw [r]; exact z
    · rw [z] at e1; cases e1; exact (f _ s).elim
  frzs := fun c o v q => by
    have z := u.frzs c o v q
    rcases b c with r | ⟨_, _, e1, f, s, _⟩
    · rw [r]; exact z
    · rw [z] at e1; cases e1; exact (f _ s).elim
  tbls := fun c ps q => by
    obtain ⟨m, z⟩ := u.tbls c ps q
    rcases b c with r | ⟨_, _, e1, f, s, _⟩
    · exact ⟨m, by rw [r]; exact z⟩
    · rw [z] at e1; cases e1; exact (f _ s).elim
/-- an object told by its invariant is opened -/
theorem open_hok {a : Addr} {S : HO → Prop} (ha : H a = some (anyO P w S a)) (hf : ∀ u, S u → Flat u) (o : HOk P w H h) : ∃ u, S u ∧ HOk P w (upd H a u) h := by
  obtain ⟨⟨u, s, q⟩, _, _⟩ := o a _ ha
  have ne : ∀ b v, H b = some v → (∀ φ, v ≠ .ext φ) → b ≠ a := fun b v e n z => by
    rw [z, ha] at e; cases e; exact n _ rfl
  refine ⟨u, s, fun b v e => ?_⟩
  by_cases hb : b = a
  · subst hb
    rw [upd_same] at e
    cases e
    exact flat_any (hf _ s) q
  · rw [upd_ne hb] at e
    exact (o b v e).stay (fun _ _ _ q => q) (fun c q => by rw [upd_ne (ne c _ q (fun _ z => nomatch z))]; exact q) fun c xs q => by rw [upd_ne (ne c _ q (fun _ z => nomatch z))]; exact q
theorem open_un {fs ex : List Addr} {a : Addr} {S : HO → Prop} {u0 : HO} (ha : H0 a = some (anyO P w S a)) (x : Un fs ex (upd H0 a u0) H h0 h) : Un fs ex H0 H h0 h := by
  have ne : ∀ b v, H0 b = some v → (∀ φ, v ≠ .ext φ) → b ≠ a := fun b v e n z => by
    rw [z, ha] at e; cases e; exact n _ rfl
  have nn : ∀ b, H0 b = none → b ≠ a := fun b e z => by rw [z, ha] at e; cases e
  exact ⟨fun b o q n => x.keep b o q (by rw [upd_ne (nn b n)]; exact n), fun b o q n => x.slot b o q (by rw [upd_ne (nn b n)]; exact n), fun b o q n => x.free b o q (by rw [upd_ne (nn b n)]; exact n), x.there,
    fun b xs q => x.tups b xs (by rw [upd_ne (ne b _ q (fun _ z => nomatch z))]; exact q), fun b o v q => x.frzs b o v (by rw [upd_ne (ne b _ q (fun _ z => nomatch z))]; exact q), fun b ps q => x.tbls b ps (by rw [upd_ne (ne b _ q (fun _ z => nomatch z))]; exact q)⟩
end
section
variable {P : Program} {w : World} {K : PySem.W.Frag} {mg : Str → Option Value} {base : Heap} {k : Nat} {f : Addr} {fd : FuncData} {ps : List Str} {sp : Sp}
/-- what a def leaves may be told by less -/
theorem post (F : FnOk P w K mg base CX0 k f fd ps sp) : FnOk P w K mg base CX0 k f fd ps (fun vs H Q E => sp vs H (fun v H' => ∃ H'', Abs P w H' H'' ∧ Q v H'') E) := by
  refine ⟨fun vs H Q E q => F.len vs H _ E q, fun A outer s H args us vs Q E hr he hb hv hs => ?_⟩
  refine codeAny_mono (F.run A outer s H args us vs _ E hr he hb hv hs) fun r s' z => ?_
  cases r with
  | error e => exact z
  | ok fl =>
    cases fl with
    | ret u =>
      obtain ⟨v, H', e1, e2, un, ok, rv, H'', ab, q⟩ := z
      exact ⟨v, H'', e1, e2, ab.un un, ab.hok ok, rv, q⟩
    | _ => exact z
/-- an object told by an invariant is opened ahead of the call -/
def opened (P : Program) (w : World) (n : Nat) (sp : Sp) : Sp := fun vs H Q E => vs.length = n ∧ ∃ a S, H a = some (anyO P w S a) ∧ (∀ u, S u → Flat u) ∧ ∀ u, S u → sp vs (upd H a u) Q E
theorem pre (F : FnOk P w K mg base CX0 k f fd ps sp) : FnOk P w K mg base CX0 k f fd ps (opened P w ps.length sp) := by
  refine ⟨fun vs H Q E h => h.1, fun A outer s H args us vs Q E hr he hb hv hs => ?_⟩
  obtain ⟨_, a, S, ha, hf, hq⟩ := hs
  obtain ⟨u, su, ok⟩ := open_hok ha hf he.hok
  have nn : ∀ b, H b = none → b ≠ a := fun b e z => by rw [z, ha] at e; cases e
  have he' : Env0 P w K mg base A outer s (upd H a u) := ⟨he.frames, he.mod, fun b o q => ⟨(he.bs b o q).1, by rw [upd_ne (nn b (he.bs b o q).2)]; exact (he.bs b o q).2⟩, he.bsz, he.funs, fun b q => by rw [upd_ne (nn b (he.frf b q))]; exact he.frf b q, ok, he.bare⟩
  refine codeAny_mono (F.run A outer s (upd H a u) args us vs Q E hr he' hb hv (hq u su)) fun r s' z => ?_
  cases r with
  | error e => exact z.elim
  | ok fl =>
    cases fl with
    | ret u' =>
      obtain ⟨v, H', e1, e2, un, ok', rv, q⟩ := z
      exact ⟨v, H', e1, e2, open_un ha un, ok', rv, q⟩
    | _ => exact z
end
end L3

namespace L3
open PySem L2 Evl
/-! named readings of built-ins -/
def rInt1 : List V → Hp → VK → Prop := fun xs H Q => (∃ i, xs = [.int i] ∧ Q (.int i) H) ∨ ∃ k, xs = [.bl k] ∧ Q (.int (if k then 1 else 0)) H
theorem call_int1' {X : Cx} : CallR X (.type "int") rInt1 := call_int1
def rLenQ (K : PySem.W.Frag) : List V → Hp → VK → Prop := fun xs H Q => ∃ p ys, xs = [.ref p] ∧ (SqL K H p ys ∨ SqT K H p ys) ∧ Q (.int ys.length) H
theorem call_lenQ {X : Cx} : CallR X (.builtin "len") (rLenQ X.K) := call_len_seq
theorem boot_int : bootBuiltins "int" = some (.type "int") := by decide +kernel
/-! the steps of a walk over readings -/
section
variable {σ : L2.St} {H : Hp} {Q : VK} {D : Ends} {QT : Bool → Hp → Prop} {QA : List V → Hp → Prop} {K : PySem.W.Frag}
theorem x_seq {n r b c} {t u : TS} (k : t ⟨u ⟨n, r, b, c⟩, r, b, c⟩ σ H) : tSeq t u ⟨n, r, b, c⟩ σ H := k
theorem x_cut {n r b c} {t u : TS} (B : L2.St → Hp → Prop) (h1 : ∀ nn : L2.St → Hp → Prop, (∀ σ H, B σ H → nn σ H) → t ⟨nn, r, b, c⟩ σ H) (h2 : ∀ σ H, B σ H → u ⟨n, r, b, c⟩ σ H) : tSeq t u ⟨n, r, b, c⟩ σ H := h1 _ h2
theorem x_next {n r b c} (k : n σ H) : tNext ⟨n, r, b, c⟩ σ H := k
theorem x_brk {n r b c} (k : b σ H) : tBreak ⟨n, r, b, c⟩ σ H := k
theorem x_cont {n r b c} (k : c σ H) : tCont ⟨n, r, b, c⟩ σ H := k
theorem x_asg {n r b c} {te : TE} {i : Nat} (k : te σ H fun x H1 => n (σ.set i (some x)) H1) : tAsg te (gName i) ⟨n, r, b, c⟩ σ H := k
theorem x_drop {n r b c} {te : TE} (k : te σ H fun _ H1 => n σ H1) : tDrop te ⟨n, r, b, c⟩ σ H := k
theorem x_ret {n r b c} {te : TE} (k : te σ H r) : tRet te ⟨n, r, b, c⟩ σ H := k
theorem x_retN {n r b c} (k : r .non H) : tRetN ⟨n, r, b, c⟩ σ H := k
theorem x_ifs {n r b c} {cc : TT} {t u : TS} (k : cc σ H fun d H1 => if d = true then t ⟨n, r, b, c⟩ σ H1 else u ⟨n, r, b, c⟩ σ H1) : tIfS cc t u ⟨n, r, b, c⟩ σ H := k
theorem x_while {n r b c} {cc : TT} {tb : TS} (W : Nat → L2.St → Hp → Prop) (m : Nat) (h0 : W m σ H) (h : ∀ m σ H, W m σ H → cc σ H fun d H1 => if d = true then ∃ N : L2.St → Hp → Prop, (∀ σ' H', N σ' H' → ∃ m', m' < m ∧ W m' σ' H') ∧ tb ⟨N, r, n, N⟩ σ H1 else n σ H1) : tWhile cc tb ⟨n, r, b, c⟩ σ H :=
  ⟨W, ⟨m, h0⟩, h⟩
theorem x_turn {n r} {tb : TS} {W : Nat → L2.St → Hp → Prop} {m : Nat} (k : tb ⟨fun σ' H' => ∃ m', m' < m ∧ W m' σ' H', r, n, fun σ' H' => ∃ m', m' < m ∧ W m' σ' H'⟩ σ H) : ∃ N : L2.St → Hp → Prop, (∀ σ' H', N σ' H' → ∃ m', m' < m ∧ W m' σ' H') ∧ tb ⟨N, r, n, N⟩ σ H := ⟨_, fun _ _ q => q, k⟩
theorem x_var {i : Nat} {v : V} (h : σ[i]? = some (some v)) (k : Q v H) : tVar i σ H Q := ⟨v, h, k⟩
theorem x_c {v : V} (k : Q v H) : tC v σ H Q := k
theorem x_op {r : R2} {ta tb : TE} (k : ta σ H fun x H1 => tb σ H1 fun y H2 => r x y H2 Q) : tOp r ta tb σ H Q := k
theorem x_un {r : V → Hp → VK → Prop} {ta : TE} (k : ta σ H fun x H1 => r x H1 Q) : tUn r ta σ H Q := k
theorem x_I0 {g : Int → Int → V} {i j : Int} (k : Q (g i j) H) : rI0 g (.int i) (.int j) H Q := ⟨i, j, rfl, rfl, k⟩
theorem x_I {C : Int → Int → Prop} {g : Int → Int → V} {i j : Int} (c : C i j) (k : Q (g i j) H) : rI C g (.int i) (.int j) H Q := ⟨i, j, rfl, rfl, c, k⟩
theorem x_U {g : Int → V} {i : Int} (k : Q (g i) H) : rU g (.int i) H Q := ⟨i, rfl, k⟩
theorem x_eq {x y : V} (s : scal x y = true) (k : Q (.bl (decide (x = y))) H) : rEq x y H Q := ⟨s, k⟩
theorem x_ne {x y : V} (s : scal x y = true) (k : Q (.bl (!decide (x = y))) H) : rNe x y H Q := ⟨s, k⟩
theorem x_test {te : TE} (k : te σ H fun x H1 => ∃ c, x = .bl c ∧ QT c H1) : tTest te σ H QT := k
theorem x_tb {te : TE} (k : te σ H fun x H1 => ∃ c, x = .bl c ∧ QT c H1) : tB te σ H QT := k
theorem x_bl {c : Bool} (k : QT c H) : ∃ d, V.bl c = .bl d ∧ QT d H := ⟨c, rfl, k⟩
theorem x_and {t u : TT} (k : t σ H fun c H1 => if c = true then u σ H1 QT else QT false H1) : tAnd t u σ H QT := k
theorem x_or {t u : TT} (k : t σ H fun c H1 => if c = true then QT true H1 else u σ H1 QT) : tOr t u σ H QT := k
theorem x_not {t : TT} (k : t σ H fun c H1 => QT (!c) H1) : tNot t σ H QT := k
theorem x_if {t : TT} {ta tb : TE} (k : t σ H fun c H1 => if c = true then ta σ H1 Q else tb σ H1 Q) : tIf t ta tb σ H Q := k
theorem x_andV {ta tb : TE} (k : ta σ H fun x H1 => ∃ c, x = .bl c ∧ if c = true then tb σ H1 Q else Q (.bl false) H1) : tAndV ta tb σ H Q := k
theorem x_orV {ta tb : TE} (k : ta σ H fun x H1 => ∃ c, x = .bl c ∧ if c = true then Q (.bl true) H1 else tb σ H1 Q) : tOrV ta tb σ H Q := k
theorem x_notV {ta : TE} (k : ta σ H fun x H1 => ∃ c, x = .bl c ∧ Q (.bl (!c)) H1) : tNotV ta σ H Q := k
theorem x_blV {c : Bool} {R : Bool → Prop} (k : R c) : ∃ d, V.bl c = .bl d ∧ R d := ⟨c, rfl, k⟩
theorem x_isN {ta : TE} (k : ta σ H fun x H1 => Q (.bl (decide (x = .non))) H1) : tIsN ta σ H Q := k
theorem x_notN {ta : TE} (k : ta σ H fun x H1 => Q (.bl (!decide (x = .non))) H1) : tNotN ta σ H Q := k
theorem x_cb {r : List V → Hp → VK → Prop} {t : TA} (k : t σ H fun vs H1 => r vs H1 Q) : tCB r t σ H Q := k
theorem x_nil (k : QA [] H) : tNil σ H QA := k
theorem x_cons {te : TE} {tr : TA} (k : te σ H fun x H1 => tr σ H1 fun xs H2 => QA (x :: xs) H2) : tCons te tr σ H QA := k
theorem x_int1 {i : Int} (k : Q (.int i) H) : rInt1 [.int i] H Q := .inl ⟨i, rfl, k⟩
theorem x_int1b {b : Bool} (k : Q (.int (if b then 1 else 0)) H) : rInt1 [.bl b] H Q := .inr ⟨b, rfl, k⟩
theorem x_lenL {p : Addr} {ys : List V} (h : H p = some (.lst ys)) (k : Q (.int ys.length) H) : rLenQ K [.ref p] H Q := ⟨p, ys, rfl, .inl (SqL.of h), k⟩
theorem x_lenT {p : Addr} {ys : List V} (h : H p = some (.tup ys)) (k : Q (.int ys.length) H) : rLenQ K [.ref p] H Q := ⟨p, ys, rfl, .inr (SqT.of h), k⟩
theorem x_tup {t : TA} (k : t σ H fun xs H1 => xs.length ≤ sizeLine ∧ ∀ p, H1 p = none → Q (.ref p) (upd H1 p (.tup xs))) : tTup t σ H Q := k
theorem x_lst {t : TA} (k : t σ H fun xs H1 => xs.length ≤ sizeLine ∧ ∀ p, H1 p = none → Q (.ref p) (upd H1 p (.lst xs))) : tLst t σ H Q := k
theorem x_dget {td ty : TE} (k : td σ H fun x H1 => ty σ H1 fun y H2 => ∃ a v, x = .ref a ∧ DGet H2 a y (some v) ∧ Q v H2) : tDGet td ty σ H Q := k
theorem x_dgot {a : Addr} {y v : V} (h : DGet H a y (some v)) (k : Q v H) : ∃ a' v, V.ref a = .ref a' ∧ DGet H a' y (some v) ∧ Q v H := ⟨a, v, rfl, h, k⟩
theorem x_dput {n r b c} {td ty tv : TE} (k : tv σ H fun v H1 => td σ H1 fun x H2 => ty σ H2 fun y H3 => ∃ a H4, x = .ref a ∧ DPut H3 a y v H4 ∧ n σ H4) : sDPut td ty tv ⟨n, r, b, c⟩ σ H := k
theorem x_dputs {n : L2.St → Hp → Prop} {a : Addr} {y v : V} {H4 : Hp} (h : DPut H a y v H4) (k : n σ H4) : ∃ a' H4, V.ref a = .ref a' ∧ DPut H a' y v H4 ∧ n σ H4 := ⟨a, H4, rfl, h, k⟩
theorem x_bm0L {r : V → List V → Hp → VK → Prop} {to : TE} (k : to σ H fun x H1 => tyV K "list" x H1 ∧ r x [] H1 Q) : tBM0 K "list" r to σ H Q := k
theorem x_pop {p : Addr} {xs : List V} {y : V} (h : H p = some (.lst xs)) (hy : xs[xs.length - 1]? = some y) (k : Q y (upd H p (.lst xs.dropLast))) : tyV K "list" (.ref p) H ∧ rPop (.ref p) [] H Q := ⟨.inl ⟨rfl, _, SqL.of h⟩, p, xs, y, rfl, rfl, h, hy, k⟩
theorem x_bmL {r : V → List V → Hp → VK → Prop} {to : TE} {t : TA} (k : to σ H fun x H1 => tyV K "list" x H1 ∧ t σ H1 fun xs H2 => r x xs H2 Q) : tBM K "list" r to t σ H Q := k
theorem tyL {p : Addr} {xs : List V} (h : H p = some (.lst xs)) : tyV K "list" (.ref p) H := .inl ⟨rfl, _, SqL.of h⟩
theorem x_fld {ta : TE} {f : Str} (k : ta σ H fun x H1 => ∃ a C dx fs v, x = .ref a ∧ H1 a = some (.ins C dx fs) ∧ Cls K C ∧ NoAttr K C f ∧ fs.lookup f = some v ∧ Q v H1) : tFld K ta f σ H Q := k
theorem x_call {sp : Sp} {dvs : List V} {E : XK} {t : TA} (k : t σ H fun vs H1 => sp (vs ++ dvs) H1 Q E) : tCall sp dvs E t σ H Q := k
theorem ifc {b : Bool} {p q : Prop} (h1 : b = true → p) (h2 : b = false → q) : if b = true then p else q := by
  cases b
  · exact h2 rfl
  · exact h1 rfl
end
end L3

namespace L3
open PySem L2 Evl
/-! a def of the top, by its name -/
structure Df (K : PySem.W.Frag) (mg : Str → Option Value) (x : Str) (st : Stmt) : Prop where
  ex : ∃ f fd, Fun K x x st f fd ∧ mg x = some (.ref f)
structure Fn (P : Program) (w : World) (K : PySem.W.Frag) (mg : Str → Option Value) (base : Heap) (k : Nat) (x : Str) (ps : List Str) (sp : Sp) : Prop where
  ex : ∃ f fd, FnOk P w K mg base CX0 k f fd ps sp ∧ mg x = some (.ref f) ∧ PySem.W.keepIn K (.ref f) = true ∧ Binds K fd ps []
/-- a method -/
structure Md (K : PySem.W.Frag) (C : Addr) (m q : Str) (st : Stmt) : Prop where
  ex : ∃ f fd, Fun K m q st f fd ∧ Meth K C m f
structure Mt (P : Program) (w : World) (K : PySem.W.Frag) (mg : Str → Option Value) (base : Heap) (k : Nat) (C : Addr) (m : Str) (ps : List Str) (sp : Sp) : Prop where
  cl : Cls K C
  ex : ∃ f fd, FnOk P w K mg base CX0 k f fd ps sp ∧ Meth K C m f ∧ Binds K fd ps []
/-- a class with its __init__ -/
structure Ki (K : PySem.W.Frag) (mg : Str → Option Value) (x : Str) (C : Addr) (q : Str) (st : Stmt) : Prop where
  cl : Cls K C
  mgC : mg x = some (.ref C)
  ex : ∃ f fd, Fun K "__init__" q st f fd ∧ Mk K C f
structure Nw (P : Program) (w : World) (K : PySem.W.Frag) (mg : Str → Option Value) (base : Heap) (k : Nat) (x : Str) (C : Addr) (ps : List Str) (sp : Sp) : Prop where
  mgC : mg x = some (.ref C)
  ex : ∃ f fd, FnOk P w K mg base CX0 k f fd ps sp ∧ Mk K C f ∧ Binds K fd ps []
section
variable {P : Program} {w : World} {K : PySem.W.Frag} {mg : Str → Option Value} {base : Heap} {k : Nat} {x q m : Str} {C : Addr} {ps N : List Str} {sp sp' : Sp} {st : Stmt}
theorem fn_df (D : Df K mg x st) (S : FnScope N ps (defScope st)) (len : ∀ vs H Q E, sp vs H Q E → vs.length = ps.length)
    (hb : ∀ (kV doc pm : Value) (an : Option Addr) (cdv ct : Value) (us : List Value), us.length = ps.length → bindArgs (PySem.W.fnOf x x (defArgs st) (defBody st) (defScope st) .none kV doc pm an cdv ct) ⟨us, []⟩ = pure (ps.zip us))
    (hbody : ∀ (f : Addr) (cdv : Value) (A : Around) (outer : List Env) (s : Shared) (H : Hp) (vs : List V) (Q : VK) (E : XK), Room k (A.deeper (PyProof.Rows.envOfC x (defScope st) s.heap.objs.size f cdv)) → sp vs H Q E →
      ∃ t, PSs (cxOf CX0 P w K mg base N x (defScope st) f cdv A outer s H E).nox (defBody st) t ∧ t { nx := fun _ H' => Q .non H', rt := Q } (start N vs) H) : Fn P w K mg base (k + 1) x ps sp := by
  obtain ⟨f, fd, F, g⟩ := D.ex
  exact ⟨f, fd, F.ok S len (hbody f), g, F.kp, F.binds hb⟩
theorem Fn.imp (F : Fn P w K mg base k x ps sp) (h : ∀ vs H Q E, sp' vs H Q E → sp vs H Q E) : Fn P w K mg base k x ps sp' := by
  obtain ⟨f, fd, F, r⟩ := F.ex
  exact ⟨f, fd, F.imp h, r⟩
theorem Fn.post (F : Fn P w K mg base k x ps sp) : Fn P w K mg base k x ps (fun vs H Q E => sp vs H (fun v H' => ∃ H'', Abs P w H' H'' ∧ Q v H'') E) := by
  obtain ⟨f, fd, F, r⟩ := F.ex
  exact ⟨f, fd, L3.post F, r⟩
theorem Fn.pre (F : Fn P w K mg base k x ps sp) : Fn P w K mg base k x ps (opened P w ps.length sp) := by
  obtain ⟨f, fd, F, r⟩ := F.ex
  exact ⟨f, fd, L3.pre F, r⟩
theorem mt_md (D : Md K C m q st) (c : Cls K C) (S : FnScope N ps (defScope st)) (len : ∀ vs H Q E, sp vs H Q E → vs.length = ps.length)
    (hb : ∀ (kV doc pm : Value) (an : Option Addr) (cdv ct : Value) (us : List Value), us.length = ps.length → bindArgs (PySem.W.fnOf m q (defArgs st) (defBody st) (defScope st) .none kV doc pm an cdv ct) ⟨us, []⟩ = pure (ps.zip us))
    (hbody : ∀ (f : Addr) (cdv : Value) (A : Around) (outer : List Env) (s : Shared) (H : Hp) (vs : List V) (Q : VK) (E : XK), Room k (A.deeper (PyProof.Rows.envOfC q (defScope st) s.heap.objs.size f cdv)) → sp vs H Q E →
      ∃ t, PSs (cxOf CX0 P w K mg base N q (defScope st) f cdv A outer s H E).nox (defBody st) t ∧ t { nx := fun _ H' => Q .non H', rt := Q } (start N vs) H) : Mt P w K mg base (k + 1) C m ps sp := by
  obtain ⟨f, fd, F, g⟩ := D.ex
  exact ⟨c, f, fd, F.ok S len (hbody f), g, F.binds hb⟩
theorem nw_ki (D : Ki K mg x C q st) (S : FnScope N ps (defScope st)) (len : ∀ vs H Q E, sp vs H Q E → vs.length = ps.length)
    (hb : ∀ (kV doc pm : Value) (an : Option Addr) (cdv ct : Value) (us : List Value), us.length = ps.length → bindArgs (PySem.W.fnOf "__init__" q (defArgs st) (defBody st) (defScope st) .none kV doc pm an cdv ct) ⟨us, []⟩ = pure (ps.zip us))
    (hbody : ∀ (f : Addr) (cdv : Value) (A : Around) (outer : List Env) (s : Shared) (H : Hp) (vs : List V) (Q : VK) (E : XK), Room k (A.deeper (PyProof.Rows.envOfC q (defScope st) s.heap.objs.size f cdv)) → sp vs H Q E →
      ∃ t, PSs (cxOf CX0 P w K mg base N q (defScope st) f cdv A outer s H E).nox (defBody st) t ∧ t { nx := fun _ H' => Q .non H', rt := Q } (start N vs) H) : Nw P w K mg base (k + 1) x C ps sp := by
  obtain ⟨f, fd, F, g⟩ := D.ex
  exact ⟨D.mgC, f, fd, F.ok S len (hbody f), g, F.binds hb⟩
end
section
variable {X : Cx} {k : Nat} {x m : Str} {C : Addr} {ps : List Str} {sp : Sp} {e o : Expr} {es : List Expr} {p pos apos : Pos} {t : TA} {ta : TE}
theorem pe_fn (F : Fn X.prog X.w X.K X.mg X.base k x ps sp) (hr : Room k X.A) (hg : Gl X x) (ha : PA X (e :: es) t) (hdb : (x == ("__debug__" : Str)) = false := by decide)
    (he : starEach (e :: es) X.env = (false, eval e X.env) :: starEach es X.env := by rfl) (hpl : (backTo pos (starEach es X.env)).any (·.1) = false := by rfl) : PE X (.Call (.Name x p) (e :: es) [] pos) (tCall sp [] E0 t) := by
  obtain ⟨f, fd, F, g, kp, b⟩ := F.ex
  exact pe_call F hr hg g kp b .nil pass0 ha hdb he hpl
theorem pe_fn0 (F : Fn X.prog X.w X.K X.mg X.base k x ps sp) (hr : Room k X.A) (hg : Gl X x) (hdb : (x == ("__debug__" : Str)) = false := by decide) : PE X (.Call (.Name x p) [] [] pos) (tCall sp [] E0 tNil) := by
  obtain ⟨f, fd, F, g, kp, b⟩ := F.ex
  exact pe_call0 F hr hg g kp b .nil pass0 hdb
theorem pe_mt {pl : Sem Bool} (M : Mt X.prog X.w X.K X.mg X.base k C m ps sp) (hr : Room k X.A) (ho : PE X o ta) (ha : PA X (e :: es) t)
    (hst : starEach (e :: es) X.env = (false, eval e X.env) :: starEach es X.env := by rfl) (hpl : (backTo pos (starEach es X.env)).any (·.1) = false := by rfl)
    (ht : eval (.Call (.Attribute o m apos) (e :: es) [] pos) X.env = (do
      let ov ← eval o X.env
      standAt apos.atName
      let (f, first) ← holding [ov] (getMethod ov m pl)
      callWith pos f first (backTo pos (starEach (e :: es) X.env)) (backToKw pos (keywordEach [] X.env))) := by rfl) : PE X (.Call (.Attribute o m apos) (e :: es) [] pos) (tMeth C m sp [] E0 ta t) := by
  obtain ⟨f, fd, F, g, b⟩ := M.ex
  exact pe_meth ho M.cl g F hr b .nil pass0 ha hst hpl ht
theorem pe_mt0 {pl : Sem Bool} (M : Mt X.prog X.w X.K X.mg X.base k C m ps sp) (hr : Room k X.A) (ho : PE X o ta)
    (ht : eval (.Call (.Attribute o m apos) [] [] pos) X.env = (do
      let ov ← eval o X.env
      standAt apos.atName
      let (f, first) ← holding [ov] (getMethod ov m pl)
      callWith pos f first (backTo pos (starEach [] X.env)) (backToKw pos (keywordEach [] X.env))) := by rfl) : PE X (.Call (.Attribute o m apos) [] [] pos) (tMeth C m sp [] E0 ta tNil) := by
  obtain ⟨f, fd, F, g, b⟩ := M.ex
  exact pe_meth0 ho M.cl g F hr b .nil pass0 ht
theorem pe_new (M : Nw X.prog X.w X.K X.mg X.base k x C ps sp) (hr : Room (k + 1) X.A) (hg : Gl X x) (ha : PA X (e :: es) t) (hdb : (x == ("__debug__" : Str)) = false := by decide)
    (he : starEach (e :: es) X.env = (false, eval e X.env) :: starEach es X.env := by rfl) (hpl : (backTo pos (starEach es X.env)).any (·.1) = false := by rfl) : PE X (.Call (.Name x p) (e :: es) [] pos) (tMake C sp [] E0 t) := by
  obtain ⟨f, fd, F, g, b⟩ := M.ex
  exact pe_make g F hr hg M.mgC b .nil pass0 ha hdb he hpl
end
/-! named readings -/
def rAbs : List V → Hp → VK → Prop := fun xs H Q => ∃ i, xs = [.int i] ∧ Q (.int (if i < 0 then -i else i)) H
theorem call_abs' {X : Cx} : CallR X (.builtin "abs") rAbs := call_abs
def rMin2 : List V → Hp → VK → Prop := fun xs H Q => ∃ i j, xs = [.int i, .int j] ∧ Q (.int (if j < i then j else i)) H
theorem call_min2' {X : Cx} (hc : X.calm = true) : CallR X (.builtin "min") rMin2 := call_min2 hc
def rMax2' : List V → Hp → VK → Prop := fun xs H Q => ∃ i j, xs = [.int i, .int j] ∧ Q (.int (if j > i then j else i)) H
theorem call_max2' {X : Cx} (hc : X.calm = true) : CallR X (.builtin "max") rMax2' := call_max2 hc
def rStrI : List V → Hp → VK → Prop := fun xs H Q => ∃ i, xs = [.int i] ∧ i.natAbs.log2 < 1920 ∧ Q (.str (toString i)) H
theorem call_str_int' {X : Cx} : CallR X (.type "str") rStrI := call_str_int
/-- a value that is no object of the package -/
inductive Plain (H : Hp) : V → Prop where
  | non : Plain H .non
  | bl (b : Bool) : Plain H (.bl b)
  | int (i : Int) : Plain H (.int i)
  | str (x : Str) : Plain H (.str x)
  | lst {a : Addr} {xs : List V} (h : H a = some (.lst xs)) : Plain H (.ref a)
  | tup {a : Addr} {xs : List V} (h : H a = some (.tup xs)) : Plain H (.ref a)
def isI : V → Bool | .int _ => true | _ => false
def isB : V → Bool | .bl _ => true | _ => false
def isS : V → Bool | .str _ => true | _ => false
section
variable {σ : L2.St} {H : Hp} {Q : VK} {K : PySem.W.Frag}
theorem x_abs {i : Int} (k : Q (.int (if i < 0 then -i else i)) H) : rAbs [.int i] H Q := ⟨i, rfl, k⟩
theorem x_min2 {i j : Int} (k : Q (.int (if j < i then j else i)) H) : rMin2 [.int i, .int j] H Q := ⟨i, j, rfl, k⟩
theorem x_max2 {i j : Int} (k : Q (.int (if j > i then j else i)) H) : rMax2' [.int i, .int j] H Q := ⟨i, j, rfl, k⟩
theorem x_isInt {v : V} (p : Plain H v) (k : Q (.bl (isI v || isB v)) H) : rIsi K [v, .ty "int"] H Q := by
  cases p with
  | non => exact ⟨_, _, _, _, false, rfl, .ty _, .base .non, kit_ty (by decide +kernel), k⟩
  | bl b => exact ⟨_, _, _, _, true, rfl, .ty _, .base (.bl b), kit_ty (by decide +kernel), k⟩
  | int i => exact ⟨_, _, _, _, true, rfl, .ty _, .base (.int i), kit_ty (by decide +kernel), k⟩
  | str x => exact ⟨_, _, _, _, false, rfl, .ty _, .base (.str x), kit_ty (by decide +kernel), k⟩
  | lst h => exact ⟨_, _, _, _, false, rfl, .ty _, .base (.lst h), kit_ty (by decide +kernel), k⟩
  | tup h => exact ⟨_, _, _, _, false, rfl, .ty _, .base (.tup h), kit_ty (by decide +kernel), k⟩
theorem x_isBool {v : V} (p : Plain H v) (k : Q (.bl (isB v)) H) : rIsi K [v, .ty "bool"] H Q := by
  cases p with
  | non => exact ⟨_, _, _, _, false, rfl, .ty _, .base .non, kit_ty (by decide +kernel), k⟩
  | bl b => exact ⟨_, _, _, _, true, rfl, .ty _, .base (.bl b), kit_ty (by decide +kernel), k⟩
  | int i => exact ⟨_, _, _, _, false, rfl, .ty _, .base (.int i), kit_ty (by decide +kernel), k⟩
  | str x => exact ⟨_, _, _, _, false, rfl, .ty _, .base (.str x), kit_ty (by decide +kernel), k⟩
  | lst h => exact ⟨_, _, _, _, false, rfl, .ty _, .base (.lst h), kit_ty (by decide +kernel), k⟩
  | tup h => exact ⟨_, _, _, _, false, rfl, .ty _, .base (.tup h), kit_ty (by decide +kernel), k⟩
theorem x_isStr {v : V} (p : Plain H v) (k : Q (.bl (isS v)) H) : rIsi K [v, .ty "str"] H Q := by
  cases p with
  | non => exact ⟨_, _, _, _, false, rfl, .ty _, .base .non, kit_ty (by decide +kernel), k⟩
  | bl b => exact ⟨_, _, _, _, false, rfl, .ty _, .base (.bl b), kit_ty (by decide +kernel), k⟩
  | int i => exact ⟨_, _, _, _, false, rfl, .ty _, .base (.int i), kit_ty (by decide +kernel), k⟩
  | str x => exact ⟨_, _, _, _, true, rfl, .ty _, .base (.str x), kit_ty (by decide +kernel), k⟩
  | lst h => exact ⟨_, _, _, _, false, rfl, .ty _, .base (.lst h), kit_ty (by decide +kernel), k⟩
  | tup h => exact ⟨_, _, _, _, false, rfl, .ty _, .base (.tup h), kit_ty (by decide +kernel), k⟩
theorem x_meth {C : Addr} {m : Str} {sp : Sp} {dvs : List V} {E : XK} {ta : TE} {t : TA} (k : ta σ H fun x H1 => ∃ a dx fs, x = .ref a ∧ H1 a = some (.ins C dx fs) ∧ fs.lookup m = none ∧ t σ H1 fun vs H2 => sp (x :: (vs ++ dvs)) H2 Q E) : tMeth C m sp dvs E ta t σ H Q := k
theorem x_make {C : Addr} {sp : Sp} {dvs : List V} {E : XK} {t : TA} (k : t σ H fun vs H1 => ∀ x dx, H1 x = none → H1 dx = none → dx ≠ x → sp (.ref x :: (vs ++ dvs)) (upd (upd H1 dx (.own x)) x (.ins C dx [])) (fun v H2 => v = .non ∧ Q (.ref x) H2) E) : tMake C sp dvs E t σ H Q := k
theorem x_sfld {n r b c} {ta tv : TE} {f : Str} (k : tv σ H fun y H1 => ta σ H1 fun x H2 => ∃ a C dx fs, x = .ref a ∧ H2 a = some (.ins C dx fs) ∧ Cls K C ∧ NoAttr K C f ∧ fs.length < 1000 ∧ n σ (upd H2 a (.ins C dx (putF f y fs)))) : sFld K ta tv f ⟨n, r, b, c⟩ σ H := k
end
end L3
namespace L3
theorem iteP {b : Bool} {p q : Prop} (h : b = true) (k : p) : if b = true then p else q := by rw [if_pos h]; exact k
theorem iteN {b : Bool} {p q : Prop} (h : b = false) (k : q) : if b = true then p else q := by rw [if_neg (by rw [h]; decide)]; exact k
end L3

/-! the head's facts: any Bool of the written part, and defs -/
namespace L3
open PySem PySem.W PyProof.Rows
def obsB (ex : Frag → Bool) (fn : List He5.DefA) (K : Frag) : He.AlD := (ex K && fn.all fun d => d.ok K, fn.map fun d => He5.fnA K (d.at_ K))
def SaysB (ex : Frag → Bool) (fn : List He5.DefA) (K : Frag) : Prop := obsB ex fn K = He5.valA fn
def obsBG (n : Nat) (ex : Frag → Bool) (fn : List He5.DefA) (g : Addr → Option Obj) : He.AlD := obsB ex fn (He.frG g (He5.asA g n))
def hookB (n : Nat) (ex : Frag → Bool) (fn : List He5.DefA) : PySem.W.Hook where
  α := He.AlD
  obs := fun s => obsBG n ex fn s.heap.get?
  val := fun _ => He5.valA fn
  says := fun _ h => ∃ K : Frag, K.In h ∧ SaysB ex fn K
  of := fun _ _ e => ⟨_, He.frG_in, e⟩
  keeps := fun _ _ _ ⟨K, hK, c⟩ k => ⟨K, Frag.In.keeps hK k, c⟩
theorem obsBG_eq {n : Nat} {ex : Frag → Bool} {fn : List He5.DefA} {g : Addr → Option Obj} {s : Shared} (h : ∀ a, g a = s.heap.get? a) : obsBG n ex fn g = (hookB n ex fn).obs s := by
  have e : g = s.heap.get? := funext h
  rw [e] <;> rfl
section
variable {ex : Frag → Bool} {fn : List He5.DefA} {K : Frag}
theorem SaysB.fx (c : SaysB ex fn K) : ex K = true :=
  (He.ba (show (ex K && fn.all fun d => d.ok K) = true from congrArg (fun z : He.AlD => z.1) c)).1
theorem SaysB.def_ (c : SaysB ex fn K) (i : Nat) {d : He5.DefA} (h : fn[i]? = some d := by rfl) : ∃ fd, L2.FunD K d.name d.qual d.params d.body d.scope (d.dvs K) (d.kws K) (d.at_ K) fd := by
  have c2 := (He.ba (show (ex K && fn.all fun d => d.ok K) = true from congrArg (fun z : He.AlD => z.1) c)).2
  have e : fn.map (fun d => He5.fnA K (d.at_ K)) = fn.map He5.DefA.val := congrArg (fun z : He.AlD => z.2) c
  have e2 : (fn.map fun d => He5.fnA K (d.at_ K))[i]? = (fn.map He5.DefA.val)[i]? := by rw [e]
  rw [List.getElem?_map, List.getElem?_map, h] at e2
  exact He5.DefA.funD (Option.some.inj e2) (List.all_eq_true.mp c2 d (List.mem_of_getElem? h))
end
/-- one fact more, a tuple of the top among them -/
inductive Fx where
  | fa (f : He.Fa)
  | tup (x : PySem.Str) (vs : List He.Dv)
  | wrap (x m : PySem.Str)
  | dic (x : PySem.Str)
  | insc (x : PySem.Str)
  | bo (f : Frag → Bool)
def Fx.ok0 (K : Frag) : Fx → Bool
  | .fa f => f.ok K
  | _ => false
def Fx.ok (K : Frag) : Fx → Bool
  | .fa f => f.ok K
  | .tup x vs => He.tupB K x vs
  | .wrap x m => He5.wrapB K (He.ga K x) "classmethod" "classmethod.__get__" m
  | .dic x => (He.dicW K (He.ga K x)).isSome
  | .bo f => f K
  | .insc x => (Fx.fa (.cls x)).ok0 K && (He.eqO (findIn K (.ref (He.ga K x)) "__class__") (some (some (.builtin "object.__class__"))) && (He.eqO (specialIn K (.builtin "object.__class__") "__get__") (some (some (.builtin "getset_descriptor.__get__"))) &&
    (decide (takesIn K (.builtin "object.__class__") = some true) && (decide (mroIn K (He.ga K x) (.type "object") = some true) && decide (kitOne K (.ref (He.ga K x)) (.ref (He.ga K x)) = some true)))))
theorem fx_at {fx : List Fx} {K : Frag} (h : (fx.all fun f => f.ok K) = true) (i : Nat) {f : Fx} (e : fx[i]? = some f := by rfl) : f.ok K = true := List.all_eq_true.mp h f (List.mem_of_getElem? e)
theorem insc_ok {x : PySem.Str} {K : Frag} (h : (Fx.insc x).ok K = true) : C8.InsC K (He.ga K x) := by
  obtain ⟨h1, h⟩ := He.ba h
  obtain ⟨h2, h⟩ := He.ba h
  obtain ⟨h3, h⟩ := He.ba h
  obtain ⟨h4, h⟩ := He.ba h
  obtain ⟨h5, h6⟩ := He.ba h
  exact ⟨He.cls_ok h1, He.eqO_ok h2, He.eqO_ok h3, of_decide_eq_true h4, of_decide_eq_true h5, of_decide_eq_true h6⟩
def gdef (x : PySem.Str) (st : Stmt) : He5.DefA := ⟨fun K => He.ga K x, x, x, L2.defArgs st, L2.defBody st, L2.defScope st, [], []⟩
def mdef (c m q : PySem.Str) (st : Stmt) : He5.DefA := ⟨fun K => He.ma K (He.ga K c) m, m, q, L2.defArgs st, L2.defBody st, L2.defScope st, [], []⟩
section
variable {K : Frag} {h : Heap} {mg : PySem.Str → Option Value} {ex : Frag → Bool} {fn : List He5.DefA} {x c m q : PySem.Str} {st : Stmt}
theorem df_of (X : K.In h) (G : h.Ns mainGlobals mg) (f : (Fx.fa (.glo x)).ok K = true) (s : SaysB ex fn K) (i : Nat) (e : fn[i]? = some (gdef x st) := by rfl) : Df K mg x st := by
  obtain ⟨fd, F⟩ := s.def_ i e
  exact ⟨He.ga K x, fd, He5.fun_of F, He.glo_ok X G f⟩
theorem md_of (f : (Fx.fa (.meth c m)).ok K = true) (s : SaysB ex fn K) (i : Nat) (e : fn[i]? = some (mdef c m q st) := by rfl) : Md K (He.ga K c) m q st := by
  obtain ⟨fd, F⟩ := s.def_ i e
  exact ⟨He.ma K (He.ga K c) m, fd, He5.fun_of F, He.meth_ok f⟩
theorem ki_of (X : K.In h) (G : h.Ns mainGlobals mg) (f : (Fx.fa (.glo x)).ok K = true) (f1 : (Fx.fa (.cls x)).ok K = true) (f2 : (Fx.fa (.mkr x)).ok K = true) (s : SaysB ex fn K) (i : Nat) (e : fn[i]? = some (mdef x "__init__" q st) := by rfl) : Ki K mg x (He.ga K x) q st := by
  obtain ⟨fd, F⟩ := s.def_ i e
  exact ⟨He.cls_ok f1, He.glo_ok X G f, He.ma K (He.ga K x) "__init__", fd, He5.fun_of F, He.mkr_ok f2⟩
end
/-! .. and dicts of the top with text keys (their hashes hang on the world) -/
abbrev Tabs := List (PySem.Str × List PySem.Str)
def tabsOf (ts : Tabs) (K : Frag) : List (Option (List (Option (PySem.Str × Int)))) := ts.map fun t => He.dicW K (He.ga K t.1)
def tabsIn (ts : Tabs) (P : Params) : List (Option (List (Option (PySem.Str × Int)))) := ts.map fun t => some (He.keysIn P t.2)
def obsWG (n : Nat) (ex : Frag → Bool) (fn : List He5.DefA) (ts : Tabs) (g : Addr → Option Obj) : He.AlD × List (Option (List (Option (PySem.Str × Int)))) := (obsBG n ex fn g, tabsOf ts (He.frG g (He5.asA g n)))
structure SaysW (ex : Frag → Bool) (fn : List He5.DefA) (ts : Tabs) (w : World) (K : Frag) : Prop where
  b : SaysB ex fn K
  t : tabsOf ts K = tabsIn ts w.params
def hookW (n : Nat) (ex : Frag → Bool) (fn : List He5.DefA) (ts : Tabs) : PySem.W.Hook where
  α := He.AlD × List (Option (List (Option (PySem.Str × Int))))
  obs := fun s => obsWG n ex fn ts s.heap.get?
  val := fun w => (He5.valA fn, tabsIn ts w.params)
  says := fun w h => ∃ K : Frag, K.In h ∧ SaysW ex fn ts w K
  of := fun w s e => ⟨He.frG s.heap.get? (He5.asA s.heap.get? n), He.frG_in, ⟨congrArg Prod.fst e, congrArg Prod.snd e⟩⟩
  keeps := fun _ _ _ ⟨K, hK, c⟩ k => ⟨K, Frag.In.keeps hK k, c⟩
theorem obsWG_eq {n : Nat} {ex : Frag → Bool} {fn : List He5.DefA} {ts : Tabs} {g : Addr → Option Obj} {s : Shared} (h : ∀ a, g a = s.heap.get? a) : obsWG n ex fn ts g = (hookW n ex fn ts).obs s := by
  have e : g = s.heap.get? := funext h
  rw [e] <;> rfl
theorem SaysW.tab {ex : Frag → Bool} {fn : List He5.DefA} {ts : Tabs} {w : World} {K : Frag} (c : SaysW ex fn ts w K) (i : Nat) {t : PySem.Str × List PySem.Str} (h : ts[i]? = some t := by rfl) : ∃ es n, L2.KDict K w (He.ga K t.1) es n := by
  have e : (tabsOf ts K)[i]? = (tabsIn ts w.params)[i]? := by rw [c.t]
  unfold tabsOf tabsIn at e
  rw [List.getElem?_map, List.getElem?_map, h] at e
  exact He.dicW_ok (Option.some.inj e)
end L3

namespace L3
open PySem L2 Evl
section
variable {σ : L2.St} {H : Hp} {Q : VK} {K : PySem.W.Frag} {R : It → Hp → Prop}
theorem x_iList {tl : TE} (k : tl σ H fun x H1 => ∃ a, x = .ref a ∧ (∃ xs, SqL K H1 a xs) ∧ R (Itl K a) H1) : iList K tl σ H R := k
theorem x_iTup {tl : TE} (k : tl σ H fun x H1 => ∃ a, x = .ref a ∧ (∃ xs, SqT K H1 a xs) ∧ R (Itt K a) H1) : iTup K tl σ H R := k
theorem x_iRng1 {ta : TA} (k : ta σ H fun vs H1 => ∃ j : Int, vs = [.int j] ∧ -(2 ^ 62) ≤ j ∧ j < 2 ^ 62 ∧ R (Itr 0 j.toNat) H1) : iRng1 ta σ H R := k
theorem x_iRng2 {ta : TA} (k : ta σ H fun vs H1 => ∃ i j : Int, vs = [.int i, .int j] ∧ (-(2 ^ 62) ≤ i ∧ i < 2 ^ 62 ∧ -(2 ^ 62) ≤ j ∧ j < 2 ^ 62) ∧ R (Itr i (j - i).toNat) H1) : iRng2 ta σ H R := k
/-- what is left of a for: its turns -/
def Turns (J : It) (g : TG) (tb : TS) (n : L2.St → Hp → Prop) (r : VK) (σ : L2.St) (H : Hp) : Prop := ∃ W : Nat → Nat → L2.St → Hp → Prop, (∃ m, W 0 m σ H) ∧ ∀ i m σ H, W i m σ H →
  (J.stop i H ∧ n σ H) ∨ (J.go i H ∧ ∃ N : L2.St → Hp → Prop, (∀ σ' H', N σ' H' → ∃ m', m' < m ∧ W (i + 1) m' σ' H') ∧ ∀ x H', J.yld i H x H' → g x σ H' fun σ2 H2 => tb ⟨N, r, n, N⟩ σ2 H2)
theorem x_for {n r b c} {wi : TI} {g : TG} {tb : TS} (k : wi σ H fun J H1 => Turns J g tb n r σ H1) : tFor wi g tb ⟨n, r, b, c⟩ σ H := k
theorem turns_list {n : L2.St → Hp → Prop} {r : VK} {a : Addr} {xs : List V} {g : TG} {tb : TS} (Pv : Nat → L2.St → Hp → Prop) (h0 : Pv 0 σ H) (hl : ∀ i σ H, i ≤ xs.length → Pv i σ H → SqL K H a xs)
    (hs : ∀ i x σ H, xs[i]? = some x → Pv i σ H → g x σ H fun σ2 H2 => tb ⟨Pv (i + 1), r, n, Pv (i + 1)⟩ σ2 H2) (hd : ∀ σ H, Pv xs.length σ H → n σ H) : Turns (Itl K a) g tb n r σ H :=
  for_list (D := ⟨n, r, fun _ _ => False, fun _ _ => False⟩) Pv h0 hl hs hd
theorem turns_tup {n : L2.St → Hp → Prop} {r : VK} {a : Addr} {xs : List V} {g : TG} {tb : TS} (Pv : Nat → L2.St → Hp → Prop) (h0 : Pv 0 σ H) (hl : ∀ i σ H, i ≤ xs.length → Pv i σ H → SqT K H a xs)
    (hs : ∀ i x σ H, xs[i]? = some x → Pv i σ H → g x σ H fun σ2 H2 => tb ⟨Pv (i + 1), r, n, Pv (i + 1)⟩ σ2 H2) (hd : ∀ σ H, Pv xs.length σ H → n σ H) : Turns (Itt K a) g tb n r σ H :=
  for_tup (D := ⟨n, r, fun _ _ => False, fun _ _ => False⟩) Pv h0 hl hs hd
theorem turns_range {n : L2.St → Hp → Prop} {r : VK} {lo : Int} {m : Nat} {g : TG} {tb : TS} (Pv : Nat → L2.St → Hp → Prop) (h0 : Pv 0 σ H)
    (hs : ∀ (i : Nat) σ H, i < m → Pv i σ H → g (.int (lo + i)) σ H fun σ2 H2 => tb ⟨Pv (i + 1), r, n, Pv (i + 1)⟩ σ2 H2) (hd : ∀ σ H, Pv m σ H → n σ H) : Turns (Itr lo m) g tb n r σ H :=
  for_range (D := ⟨n, r, fun _ _ => False, fun _ _ => False⟩) Pv h0 hs hd
theorem x_gname {i : Nat} {v : V} {QG : L2.St → Hp → Prop} (k : QG (σ.set i (some v)) H) : gName i v σ H QG := k
/-! comprehensions -/
def Comp (J : It) (g : TG) (tt : TT) (te : TE) (vs : List Nat) (Q : VK) (σ : L2.St) (H1 : Hp) : Prop := ∀ D, H1 D = none → ∃ W : Nat → Nat → Hp → Prop, (∃ m, W 0 m (upd H1 D (.lst []))) ∧ ∀ i m H, W i m H →
  (J.stop i H ∧ Q (.ref D) H) ∨ (J.go i H ∧ ∃ Nx : Hp → Prop, (∀ H', Nx H' → ∃ m', m' < m ∧ W (i + 1) m' H') ∧ ∀ x H', J.yld i H x H' → g x (wipe σ vs) H' fun σ2 H2 => wipe σ2 vs = wipe σ vs ∧ tt σ2 H2 fun b H3 =>
    if b = true then te σ2 H3 fun y H4 => ∃ acc, H4 D = some (.lst acc) ∧ acc.length < sizeLine ∧ Nx (upd H4 D (.lst (acc ++ [y]))) else Nx H3)
theorem x_lc {wi : TI} {g : TG} {tt : TT} {te : TE} {vs : List Nat} (k : wi σ H fun J H1 => Comp J g tt te vs Q σ H1) : tLc wi g tt te vs σ H Q := k
theorem x_yes {QT : Bool → Hp → Prop} (k : QT true H) : tYes σ H QT := k
/-- one turn of a comprehension whose element and test leave what is known -/
def CTurn (tt : TT) (te : TE) (σ2 : L2.St) (H : Hp) (R : List V → Prop) (acc : List V) : Prop :=
  ∀ (KY : VK) (KN : Hp → Prop), (∀ y H4, Ex H H4 → R (acc ++ [y]) → KY y H4) → (∀ H3, Ex H H3 → R acc → KN H3) → tt σ2 H fun b H3 => if b = true then te σ2 H3 KY else KN H3
private theorem ex_new {H H' : Hp} {D : Addr} {u : HO} (h : H D = none) (e : Ex H H') : Ex H (upd H' D u) := fun b o hb => by
  rw [upd_ne (ne_of_none hb h)]
  exact e b o hb
theorem comp_list {a : Addr} {xs : List V} {j : Nat} {tt : TT} {te : TE} {vs : List Nat} (Rr : Nat → List V → Prop) (hx : SqL K H a xs) (hz : xs.length < 100000) (hw : ∀ x, wipe ((wipe σ vs).set j (some x)) vs = wipe σ vs) (h0 : Rr 0 [])
    (hs : ∀ i x acc H', xs[i]? = some x → Rr i acc → Ex H H' → CTurn tt te ((wipe σ vs).set j (some x)) H' (Rr (i + 1)) acc)
    (k : ∀ D acc H', H D = none → Ex H H' → H' D = some (.lst acc) → Rr xs.length acc → Q (.ref D) H') : Comp (Itl K a) (gName j) tt te vs Q σ H := fun D hD => by
  refine lc_list (K := K) (a := a) (xs := xs) (fun i H' => ∃ acc, Rr i acc ∧ acc.length ≤ i ∧ Ex H H' ∧ H' D = some (.lst acc)) ⟨[], h0, Nat.le_refl _, Ex.new hD, upd_same⟩ (fun i H' _ ⟨_, _, _, e, _⟩ => ex_l e hx) ?_ ?_
  · rintro i x H' hi ⟨acc, r, l, e, hd⟩
    have hi' : i < xs.length := (List.getElem?_eq_some_iff.mp hi).1
    refine ⟨hw x, hs i x acc H' hi r e _ _ (fun y H4 e4 r4 => ?_) (fun H3 e3 r3 => ?_)⟩
    · refine ⟨acc, e4 _ _ hd, Nat.lt_of_le_of_lt l (Nat.lt_of_lt_of_le hi' (Nat.le_trans (Nat.le_of_lt hz) (by decide))), acc ++ [y], r4, by simp; omega, ex_new hD (e.trans e4), upd_same⟩
    · exact ⟨acc, r3, Nat.le_succ_of_le l, e.trans e3, e3 _ _ hd⟩
  · rintro H' ⟨acc, r, l, e, hd⟩
    exact k D acc H' hD e hd r
theorem comp_tup {a : Addr} {xs : List V} {j : Nat} {tt : TT} {te : TE} {vs : List Nat} (Rr : Nat → List V → Prop) (hx : SqT K H a xs) (hz : xs.length < 100000) (hw : ∀ x, wipe ((wipe σ vs).set j (some x)) vs = wipe σ vs) (h0 : Rr 0 [])
    (hs : ∀ i x acc H', xs[i]? = some x → Rr i acc → Ex H H' → CTurn tt te ((wipe σ vs).set j (some x)) H' (Rr (i + 1)) acc)
    (k : ∀ D acc H', H D = none → Ex H H' → H' D = some (.lst acc) → Rr xs.length acc → Q (.ref D) H') : Comp (Itt K a) (gName j) tt te vs Q σ H := fun D hD => by
  refine lc_tup (K := K) (a := a) (xs := xs) (fun i H' => ∃ acc, Rr i acc ∧ acc.length ≤ i ∧ Ex H H' ∧ H' D = some (.lst acc)) ⟨[], h0, Nat.le_refl _, Ex.new hD, upd_same⟩ (fun i H' _ ⟨_, _, _, e, _⟩ => ex_t e hx) ?_ ?_
  · rintro i x H' hi ⟨acc, r, l, e, hd⟩
    have hi' : i < xs.length := (List.getElem?_eq_some_iff.mp hi).1
    refine ⟨hw x, hs i x acc H' hi r e _ _ (fun y H4 e4 r4 => ?_) (fun H3 e3 r3 => ?_)⟩
    · refine ⟨acc, e4 _ _ hd, Nat.lt_of_le_of_lt l (Nat.lt_of_lt_of_le hi' (Nat.le_trans (Nat.le_of_lt hz) (by decide))), acc ++ [y], r4, by simp; omega, ex_new hD (e.trans e4), upd_same⟩
    · exact ⟨acc, r3, Nat.le_succ_of_le l, e.trans e3, e3 _ _ hd⟩
  · rintro H' ⟨acc, r, l, e, hd⟩
    exact k D acc H' hD e hd r
theorem comp_range {lo : Int} {m : Nat} {j : Nat} {tt : TT} {te : TE} {vs : List Nat} (Rr : Nat → List V → Prop) (hz : m < 100000) (hw : ∀ x, wipe ((wipe σ vs).set j (some x)) vs = wipe σ vs) (h0 : Rr 0 [])
    (hs : ∀ (i : Nat) acc H', i < m → Rr i acc → Ex H H' → CTurn tt te ((wipe σ vs).set j (some (.int (lo + i)))) H' (Rr (i + 1)) acc)
    (k : ∀ D acc H', H D = none → Ex H H' → H' D = some (.lst acc) → Rr m acc → Q (.ref D) H') : Comp (Itr lo m) (gName j) tt te vs Q σ H := fun D hD => by
  refine lc_range (lo := lo) (n := m) (fun i H' => ∃ acc, Rr i acc ∧ acc.length ≤ i ∧ Ex H H' ∧ H' D = some (.lst acc)) ⟨[], h0, Nat.le_refl _, Ex.new hD, upd_same⟩ ?_ ?_
  · rintro i H' hi ⟨acc, r, l, e, hd⟩
    refine ⟨hw _, hs i acc H' hi r e _ _ (fun y H4 e4 r4 => ?_) (fun H3 e3 r3 => ?_)⟩
    · refine ⟨acc, e4 _ _ hd, Nat.lt_of_le_of_lt l (Nat.lt_of_lt_of_le hi (Nat.le_trans (Nat.le_of_lt hz) (by decide))), acc ++ [y], r4, by simp; omega, ex_new hD (e.trans e4), upd_same⟩
    · exact ⟨acc, r3, Nat.le_succ_of_le l, e.trans e3, e3 _ _ hd⟩
  · rintro H' ⟨acc, r, l, e, hd⟩
    exact k D acc H' hD e hd r
theorem x_slice {r : V → Option Int → Option Int → Hp → VK → Prop} {te : TE} {tl th : TO} (k : te σ H fun x H1 => tl σ H1 fun lo H2 => th σ H2 fun hi H3 => r x lo hi H3 Q) : tSl r te tl th σ H Q := k
theorem x_part {te : TE} {QO : Option Int → Hp → Prop} (k : te σ H fun x H1 => ∃ i, x = .int i ∧ QO (some i) H1) : tPart te σ H QO := k
theorem x_nopart {QO : Option Int → Hp → Prop} (k : QO none H) : tNoPart σ H QO := k
theorem x_revL {te : TE} (k : te σ H fun x H1 => ∃ a xs, x = .ref a ∧ SqL K H1 a xs ∧ ∀ p, H1 p = none → Q (.ref p) (upd H1 p (.lst xs.reverse))) : tRevL K te σ H Q := k
theorem x_disp {trs : List (TE × TE)} (k : ∀ p, H p = none → tPairs trs σ (upd H p (.dK [])) fun ps H2 => H2 p = some (.dK []) ∧ ∃ kvs : List (Key × V), ps = kvs.map (fun kv => (kV kv.1, kv.2)) ∧ kvs.length ≤ 15 ∧ Q (.ref p) (upd H2 p (.dK (mergeK [] kvs)))) : tDisp trs σ H Q := k
theorem x_pairs {tk tv : TE} {r : List (TE × TE)} {QP : List (V × V) → Hp → Prop} (k : tk σ H fun x H1 => tv σ H1 fun y H2 => tPairs r σ H2 fun ps H3 => QP ((x, y) :: ps) H3) : tPairs ((tk, tv) :: r) σ H QP := k
theorem x_pairs0 {QP : List (V × V) → Hp → Prop} (k : QP [] H) : tPairs [] σ H QP := k
end
end L3
namespace L3
open PySem L2 Evl
theorem q_for {wi : TI} {g : TG} {tb u : TS} {D : Ends} {σ : L2.St} {H : Hp} (h : False) : tSeq (tFor wi g tb) u D σ H := h.elim
theorem q_while {c : TT} {tb u : TS} {D : Ends} {σ : L2.St} {H : Hp} (h : False) : tSeq (tWhile c tb) u D σ H := h.elim
end L3

namespace L3
open PySem L2 Evl
/-! == by an own __eq__ of two instances of one class; str() by an own __str__ -/
def rEqI (C : Addr) (sp : Sp) : R2 := fun x y H Q => ∃ a b dx fs dy gs, x = .ref a ∧ y = .ref b ∧ H a = some (.ins C dx fs) ∧ H b = some (.ins C dy gs) ∧ sp [.ref a, .ref b] H (fun v H' => ∃ c, v = .bl c ∧ Q (.bl c) H') E0
section
variable {X : Cx} {k : Nat} {C : Addr} {ps : List Str} {sp : Sp}
theorem op_eqI (M : Mt X.prog X.w X.K X.mg X.base k C "__eq__" ps sp) (hr : Room k X.A) : OpR X (compareOp .Eq) (rEqI C sp) := by
  intro pins s σ H x y v u Q I rx ry hq
  obtain ⟨a, b, dx, fs, dy, gs, rfl, rfl, ha, hb', hsp⟩ := hq
  obtain ⟨f, fd, F, me, bi⟩ := M.ex
  cases rx
  cases ry
  obtain ⟨mA, J, _⟩ := ins_get I.hok ha
  obtain ⟨mB, J', _⟩ := ins_get I.hok hb'
  obtain ⟨od, J, _⟩ := J.look
  obtain ⟨od', J', _⟩ := J'.look
  obtain ⟨m, hF⟩ := I.fr
  show wpAny (model X.prog X.w) X.A (richCompare .Eq (.ref a) (.ref b)) (EP X pins σ Q) X.xe s
  refine PySem.W.cmp_K (op := .Eq) (tb := .ref C) hr.units0 hF I.ok.mod.kin J J'.type (by simp [PySem.W.notFirst]) me.at_ me.fn ?_
  have e0 : Env0 X.prog X.w X.K X.mg X.base X.A X.stack s H := I.env0
  have hl := F.len _ _ _ _ hsp
  have r2 : Vals [V.ref a, V.ref b] [Value.ref a, Value.ref b] := .cons rfl (.cons rfl .nil)
  refine wpAny_call (codeAny_mono (F.run X.A X.stack s H ⟨[.ref a, .ref b], []⟩ [.ref a, .ref b] [.ref a, .ref b] _ E0 hr e0 (by
    have := bi s [.ref a, .ref b] I.kIn (by simpa using hl)
    simpa using this) r2 hsp) fun r s' hq => ?_)
  cases r with
  | error e => exact hq.elim
  | ok fl =>
    cases fl with
    | ret w =>
      obtain ⟨z, H', I', rz, c, ez, q⟩ := I.after hq
      subst ez
      cases rz
      exact ⟨.bl c, H', I', rfl, q⟩
    | next => exact False.elim hq
    | brk => exact False.elim hq
    | cont => exact False.elim hq
theorem x_eqI {H : Hp} {Q : VK} {a b dx dy : Addr} {fs gs : List (Str × V)} (ha : H a = some (.ins C dx fs)) (hb : H b = some (.ins C dy gs)) (k : sp [.ref a, .ref b] H (fun v H' => ∃ c, v = .bl c ∧ Q (.bl c) H') E0) : rEqI C sp (.ref a) (.ref b) H Q :=
  ⟨a, b, dx, fs, dy, gs, rfl, rfl, ha, hb, k⟩
def rStrO (C : Addr) (sp : Sp) : List V → Hp → VK → Prop := fun xs H Q => ∃ a dx fs, xs = [.ref a] ∧ H a = some (.ins C dx fs) ∧ sp [.ref a] H (fun v H' => ∃ x, v = .str x ∧ Q (.str x) H') E0
theorem call_strO (M : Mt X.prog X.w X.K X.mg X.base k C "__str__" ps sp) (hr : Room (k + 2) X.A) : CallR X (.type "str") (rStrO C sp) := by
  intro pins s σ H xs us Q I r h
  obtain ⟨a, dx, fs, rfl, ha, hsp⟩ := h
  obtain ⟨f, fd, F, me, bi⟩ := M.ex
  obtain ⟨u, rfl, rx⟩ := vals1 r
  cases rx
  obtain ⟨mA, J, _⟩ := ins_get I.hok ha
  obtain ⟨od, J, _⟩ := J.look
  have hr1 : Room k X.A.in1.in1 := (Room.in1 (k := k + 1) hr).in1
  refine PySem.W.kso_call hr1.units0 I.kIn J me.at_ me.fn ?_
  have e0 : Env0 X.prog X.w X.K X.mg X.base X.A.in1.in1 X.stack s H := I.env0.in1.in1
  have hl := F.len _ _ _ _ hsp
  have r2 : Vals [V.ref a] [Value.ref a] := .cons rfl .nil
  refine wpAny_call (codeAny_mono (F.run X.A.in1.in1 X.stack s H ⟨[.ref a], []⟩ [.ref a] [.ref a] _ E0 hr1 e0 (by
    have := bi s [.ref a] I.kIn (by simpa using hl)
    simpa using this) r2 hsp) fun r s' hq => ?_)
  cases r with
  | error e => exact hq.elim
  | ok fl =>
    cases fl with
    | ret w =>
      obtain ⟨z, H', I', rz, c, ez, q⟩ := I.after hq
      subst ez
      obtain ⟨t, rfl⟩ := rz
      exact ⟨.str c, H', I', ⟨t, rfl⟩, q⟩
    | next => exact False.elim hq
    | brk => exact False.elim hq
    | cont => exact False.elim hq
theorem x_strO {H : Hp} {Q : VK} {a dx : Addr} {fs : List (Str × V)} (ha : H a = some (.ins C dx fs)) (k : sp [.ref a] H (fun v H' => ∃ x, v = .str x ∧ Q (.str x) H') E0) : rStrO C sp [.ref a] H Q := ⟨a, dx, fs, rfl, ha, k⟩
/-! f-strings -/
theorem x_fmtI {σ : L2.St} {H : Hp} {Q : VK} {te : TE} (k : te σ H fun x H1 => (∃ y : Str, x = .str y ∧ y.length ≤ sizeLine ∧ Q (.str y) H1) ∨ ∃ i : Int, x = .int i ∧ i.natAbs.log2 < 1920 ∧ Q (.str (toString i)) H1) : tFmt te σ H Q := k
abbrev numS (i : Int) : Str := Str.ofString (toString i)
theorem x_fint {H : Hp} {Q : VK} {i : Int} (h : i.natAbs.log2 < 1920) (k : Q (.str (numS i)) H) : (∃ y : Str, V.int i = .str y ∧ y.length ≤ sizeLine ∧ Q (.str y) H) ∨ ∃ j : Int, V.int i = .int j ∧ j.natAbs.log2 < 1920 ∧ Q (.str (toString j)) H := .inr ⟨i, rfl, h, k⟩
theorem x_fstr {H : Hp} {Q : VK} {y : Str} (h : y.length ≤ sizeLine) (k : Q (.str y) H) : (∃ z : Str, V.str y = .str z ∧ z.length ≤ sizeLine ∧ Q (.str z) H) ∨ ∃ j : Int, V.str y = .int j ∧ j.natAbs.log2 < 1920 ∧ Q (.str (toString j)) H := .inl ⟨y, rfl, h, k⟩
theorem x_js {σ : L2.St} {H : Hp} {t : TE} {ts : List TE} {acc : Str} {QS : Str → Hp → Prop} (k : t σ H fun x H1 => ∃ y : Str, x = .str y ∧ (acc ++ y).length ≤ sizeLine ∧ tJs ts (acc ++ y) σ H1 QS) : tJs (t :: ts) acc σ H QS := k
theorem x_js0 {σ : L2.St} {H : Hp} {acc : Str} {QS : Str → Hp → Prop} (k : QS acc H) : tJs [] acc σ H QS := k
theorem num_small {i : Int} (h0 : 0 ≤ i) (h1 : i < 10 ^ 9) : i.natAbs.log2 < 1920 := by
  have : i.natAbs < 10 ^ 9 := by omega
  have h2 : i.natAbs.log2 ≤ 30 := by
    by_cases hz : i.natAbs = 0
    · rw [hz]; decide
    · have := (Nat.log2_lt hz (k := 31)).mpr (by omega)
      omega
  omega
theorem numS_len {i : Int} (h0 : 0 ≤ i) (h1 : i < 10 ^ 9) : (numS i).length ≤ 10 := PySem.W.KT.len_num h0 (by omega)
end
end L3

namespace L3
open PySem L2 Evl TL
/-! lists of ints compared -/
theorem dpAll_ints {K : PySem.W.Frag} {H : Hp} : ∀ ns : List Int, DpAll K H (ns.map V.int) (ns.map PyData.int)
  | [] => .nil
  | n :: ns => .cons (.int n) (dpAll_ints ns)
theorem dp_ints {K : PySem.W.Frag} {H : Hp} {p : Addr} {ns : List Int} (h : H p = some (.lst (ns.map V.int))) : Dp K H (.ref p) (.list (ns.map PyData.int)) := .lst (SqL.of h) (dpAll_ints ns)
theorem canLayAll_ints : ∀ ns : List Int, PyData.canLayAll0 (ns.map PyData.int) = true
  | [] => by simp [PyData.canLayAll0]
  | n :: ns => by simp [PyData.canLayAll0, PyData.canLay0, canLayAll_ints ns]
theorem depthAll_ints : ∀ ns : List Int, PyData.depthAll (ns.map PyData.int) = 0
  | [] => by simp [PyData.depthAll]
  | n :: ns => by simp [PyData.depthAll, PyData.depth, depthAll_ints ns]
theorem shaped_ints (ns : List Int) : SeqAt.shaped (.list (ns.map PyData.int)) = true := by
  unfold SeqAt.shaped
  simp only [PyData.canLay0, canLayAll_ints, PyData.depth, depthAll_ints]
  decide
theorem eqvAll_ints : ∀ ns ms : List Int, PyData.eqvAll (ns.map PyData.int) (ms.map PyData.int) = decide (ns = ms)
  | [], [] => by simp [PyData.eqvAll]
  | [], m :: ms => by simp [PyData.eqvAll]
  | n :: ns, [] => by simp [PyData.eqvAll]
  | n :: ns, m :: ms => by
    simp only [List.map_cons, PyData.eqvAll, PyData.eqv, eqvAll_ints ns ms]
    by_cases h : n = m
    · subst h; simp
    · simp [h]
theorem x_neInts {K : PySem.W.Frag} {H : Hp} {Q : VK} {p q : Addr} {ns ms : List Int} (h1 : H p = some (.lst (ns.map V.int))) (h2 : H q = some (.lst (ms.map V.int))) (k : Q (.bl (!decide (ns = ms))) H) : rNeD K (.ref p) (.ref q) H Q := by
  refine ⟨_, _, dp_ints h1, dp_ints h2, shaped_ints ns, shaped_ints ms, ?_⟩
  simp only [PyData.eqv, eqvAll_ints]
  exact k
theorem x_eqInts {K : PySem.W.Frag} {H : Hp} {Q : VK} {p q : Addr} {ns ms : List Int} (h1 : H p = some (.lst (ns.map V.int))) (h2 : H q = some (.lst (ms.map V.int))) (k : Q (.bl (decide (ns = ms))) H) : rEqD K (.ref p) (.ref q) H Q := by
  refine ⟨_, _, dp_ints h1, dp_ints h2, shaped_ints ns, shaped_ints ms, ?_⟩
  simp only [PyData.eqv, eqvAll_ints]
  exact k
def rIsC (C : Addr) : List V → Hp → VK → Prop := fun xs H Q => ∃ a dx fs, xs = [.ref a, .ref C] ∧ H a = some (.ins C dx fs) ∧ Q (.bl true) H
theorem call_isC' {X : Cx} {C : Addr} (c : C8.InsC X.K C) : CallR X (.builtin "isinstance") (rIsC C) := C8.call_isC c
theorem x_isC {C : Addr} {H : Hp} {Q : VK} {a dx : Addr} {fs : List (Str × V)} (h : H a = some (.ins C dx fs)) (k : Q (.bl true) H) : rIsC C [.ref a, .ref C] H Q := ⟨a, dx, fs, rfl, h, k⟩
/-! the text of a rule tells its arguments -/
theorem numS_tl {i : Int} (h : 0 ≤ i) : tl (numS i) = numL i.toNat := by
  obtain ⟨n, rfl⟩ := Int.eq_ofNat_of_zero_le h
  exact tl_num n
end L3
namespace L3
open PySem L2 Evl TL
theorem q_ifs {c : TT} {t1 t2 u : TS} {D : Ends} {σ : L2.St} {H : Hp} (h : False) : tSeq (tIfS c t1 t2) u D σ H := h.elim
theorem x_cutE {σ : L2.St} {H : Hp} {n r b c} {t u : TS} (h1 : ∀ nn : L2.St → Hp → Prop, (∀ H', Ex H H' → nn σ H') → t ⟨nn, r, b, c⟩ σ H) (h2 : ∀ H', Ex H H' → u ⟨n, r, b, c⟩ σ H') : tSeq t u ⟨n, r, b, c⟩ σ H := h1 _ h2
section
variable {σ : L2.St} {H : Hp} {Q : VK} {K : PySem.W.Frag} {j : Nat} {te : TE} {vs : List Nat}
theorem comp_rangeF {lo : Int} {m : Nat} (f : Nat → Int) (hz : m < 100000) (hw : ∀ x, wipe ((wipe σ vs).set j (some x)) vs = wipe σ vs)
    (hs : ∀ (i : Nat) H', i < m → Ex H H' → ∀ KY : VK, KY (.int (f i)) H' → te ((wipe σ vs).set j (some (.int (lo + i)))) H' KY)
    (k : ∀ D H', H D = none → Ex H H' → H' D = some (.lst (((List.range m).map f).map V.int)) → Q (.ref D) H') : Comp (Itr lo m) (gName j) tYes te vs Q σ H := by
  refine comp_range (fun i acc => acc = ((List.range i).map f).map V.int) hz hw rfl (fun i acc H' hi ha e KY KN ky kn => ?_) (fun D acc H' hD e hl ha => k D H' hD e (by rw [hl, ha]))
  refine x_yes ?_
  rw [if_pos rfl]
  exact hs i H' hi e KY (ky _ _ (Ex.refl _) (by rw [ha, List.range_succ]; simp))
theorem comp_tupF {a : Addr} {ns : List Int} (f : Int → Int) (hx : SqT K H a (ns.map V.int)) (hz : ns.length < 100000) (hw : ∀ x, wipe ((wipe σ vs).set j (some x)) vs = wipe σ vs)
    (hs : ∀ (n : Int) H', n ∈ ns → Ex H H' → ∀ KY : VK, KY (.int (f n)) H' → te ((wipe σ vs).set j (some (.int n))) H' KY)
    (k : ∀ D H', H D = none → Ex H H' → H' D = some (.lst ((ns.map f).map V.int)) → Q (.ref D) H') : Comp (Itt K a) (gName j) tYes te vs Q σ H := by
  refine comp_tup (fun i acc => acc = ((ns.take i).map f).map V.int) hx (by simpa using hz) hw rfl (fun i x acc H' hi ha e KY KN ky kn => ?_) (fun D acc H' hD e hl ha => k D H' hD e (by rw [hl, ha]; simp))
  rw [List.getElem?_map] at hi
  cases q : ns[i]? with
  | none => rw [q] at hi; cases hi
  | some n =>
    rw [q] at hi
    cases hi
    refine x_yes ?_
    rw [if_pos rfl]
    exact hs n H' (List.mem_of_getElem? q) e KY (ky _ _ (Ex.refl _) (by rw [ha, List.take_add_one, q]; simp))
end
end L3
namespace L3
open PySem L2 Evl TL
theorem x_par {σ : L2.St} {H : Hp} {n r b c} {i j : Nat} {ta : TA} (k : ta σ H fun vs H1 => ∃ v w, vs = [v, w] ∧ n ((σ.set i (some v)).set j (some w)) H1) : tPar i j ta ⟨n, r, b, c⟩ σ H := k
theorem x_rep {K : PySem.W.Frag} {H : Hp} {Q : VK} : True := trivial
end L3
namespace L3
open PySem L2 Evl TL
section
variable {σ : L2.St} {H : Hp} {Q : VK} {K : PySem.W.Frag} {j : Nat} {te : TE} {tt : TT} {vs : List Nat}
/-- a comprehension whose test never holds -/
theorem comp_range0 {lo : Int} {m : Nat} (hz : m < 100000) (hw : ∀ x, wipe ((wipe σ vs).set j (some x)) vs = wipe σ vs)
    (hs : ∀ (i : Nat) H', i < m → Ex H H' → ∀ KT : Bool → Hp → Prop, (∀ H3, Ex H' H3 → KT false H3) → tt ((wipe σ vs).set j (some (.int (lo + i)))) H' KT)
    (k : ∀ D H', H D = none → Ex H H' → H' D = some (.lst []) → Q (.ref D) H') : Comp (Itr lo m) (gName j) tt te vs Q σ H := by
  refine comp_range (fun i acc => acc = []) hz hw rfl (fun i acc H' hi ha e KY KN ky kn => ?_) (fun D acc H' hD e hl ha => k D H' hD e (by rw [hl, ha]))
  refine hs i H' hi e _ fun H3 e3 => ?_
  rw [if_neg (by decide)]
  exact kn H3 e3 ha
end
end L3
namespace L3
open PySem L2 Evl TL
section
variable {σ : L2.St} {H : Hp} {Q : VK} {K : PySem.W.Frag} {QG : L2.St → Hp → Prop}
theorem x_asgG {n r b c} {te : TE} {g : TG} (k : te σ H fun x H1 => g x σ H1 n) : tAsg te g ⟨n, r, b, c⟩ σ H := k
theorem x_gtup {a : Addr} {xs : List V} {m : Nat} {t : TGs} (h : SqT K H a xs) (hl : xs.length = m) (k : t xs σ H QG) : gTup K m t (.ref a) σ H QG := ⟨a, xs, rfl, h, hl, k⟩
theorem x_gcons {v : V} {r : List V} {t : TG} {u : TGs} (k : t v σ H fun σ' H' => u r σ' H' QG) : gCons t u (v :: r) σ H QG := ⟨v, r, rfl, k⟩
theorem x_gnil (k : QG σ H) : gNil [] σ H QG := ⟨rfl, k⟩
end
end L3

namespace L3
open PySem L2 Evl TL
/-! a call whose first argument is starred, with more behind -/
theorem evalArgs_star {M : Model} {A : Around} {E : Value → Shared → Prop} {s : Shared} {f : Value} {x : Sem Value} {y : Bool × Sem Value} {rest : List (Bool × Sem Value)} {Q : Args → Shared → Prop}
    (h : wpAny M A (spliced ((true, x) :: y :: rest)) (fun vs s' => Q ⟨vs, []⟩ s') E s) : wpAny M A (evalArgs f true ((true, x) :: y :: rest) []) Q E s := by
  unfold evalArgs
  show wpAny M A (spliced ((true, x) :: y :: rest) >>= _) Q E s
  refine wpAny_bind (wpAny_mono h (fun vs s' h' => ?_) fun _ _ x => x)
  refine wpAny_holding ?_
  exact wpAny_bind (wpAny_pure (wpAny_bind (wpAny_pure (wpAny_pure h'))))
/-- x(*e, ..), x a local name that holds the class at C -/
def tMakeL (i : Nat) (C : Addr) (sp : Sp) (t : TA) : TE := fun σ H Q => σ[i]? = some (some (.ref C)) ∧ t σ H fun vs H1 => ∀ x dx, H1 x = none → H1 dx = none → dx ≠ x →
  sp (.ref x :: (vs ++ [])) (upd (upd H1 dx (.own x)) x (.ins C dx [])) (fun v H2 => v = .non ∧ Q (.ref x) H2) E0
section
variable {X : Cx} {k i : Nat} {x y : Str} {C : Addr} {ps : List Str} {sp : Sp} {e e2 : Expr} {es : List Expr} {p p2 pos : Pos} {t : TA} {a2 : Bool × Sem Value} {r2 : List (Bool × Sem Value)}
theorem pe_newL (M : Nw X.prog X.w X.K X.mg X.base k y C ps sp) (hr : Room (k + 1) X.A) (hN : X.N[i]? = some x) (hv : Vis X.env.scope x) (ha : PA X (.Starred e p2 :: e2 :: es) t)
    (hdb : (x == ("__debug__" : Str)) = false := by decide) (hcd : (x == ("__classdict__" : Str)) = false := by decide)
    (he : starEach (.Starred e p2 :: e2 :: es) X.env = (true, eval e X.env) :: a2 :: r2 := by rfl) : PE X (.Call (.Name x p) (.Starred e p2 :: e2 :: es) [] pos) (tMakeL i C sp t) := by
  obtain ⟨f, fd, F, g, b⟩ := M.ex
  refine ⟨fun pins s σ H Q I h => ?_⟩
  obtain ⟨hs, ht⟩ := h
  refine wpAny_Call_Name_kw (thn ((pe_var (pos := p) hN hv hdb hcd).run pins s σ H (fun v H1 => v = .ref C ∧ H1 = H) I ⟨.ref C, hs, rfl, rfl⟩) fun u s1 ⟨v, H1, I1, r1, q1⟩ => ?_)
  obtain ⟨rfl, rfl⟩ := q1
  cases r1
  have hrun := ha.run pos pins s1 σ _ _ I1 ht
  rw [he] at hrun
  show wpAny _ _ (callWith pos (.ref C) [] (backTo pos (starEach (.Starred e p2 :: e2 :: es) X.env)) []) _ _ _
  rw [he]
  refine PySem.W.ks_call (P := fun h => X.K.In h) rfl (PySem.W.keeps_K g.kp) (evalArgs_star (thn hrun fun us s2 ⟨vs, H2, I2, r, q⟩ => ⟨I2.kIn, ?_⟩))
  exact run_make g F hr b .nil pass0 I2 r q
end
/-! class methods -/
structure Cmd (K : PySem.W.Frag) (C : Addr) (m q : Str) (st : Stmt) : Prop where
  ex : ∃ p g fd, Fun K m q st g fd ∧ ClX.CRead K C (.type "type") ∧ ClX.CMet K C (.type "type") m p g
structure Cm (P : Program) (w : World) (K : PySem.W.Frag) (mg : Str → Option Value) (base : Heap) (k : Nat) (C : Addr) (m : Str) (sp : Sp) : Prop where
  ex : ∃ p g, FnR P w K mg base CX0 k g sp ∧ ClX.CRead K C (.type "type") ∧ ClX.CMet K C (.type "type") m p g
section
variable {P : Program} {w : World} {K : PySem.W.Frag} {mg : Str → Option Value} {base : Heap} {k : Nat} {q m : Str} {C : Addr} {ps N : List Str} {sp : Sp} {st : Stmt}
theorem cm_md (D : Cmd K C m q st) (S : FnScope N ps (defScope st)) (len : ∀ vs H Q E, sp vs H Q E → vs.length = ps.length)
    (hb : ∀ (kV doc pm : Value) (an : Option Addr) (cdv ct : Value) (us : List Value), us.length = ps.length → bindArgs (PySem.W.fnOf m q (defArgs st) (defBody st) (defScope st) .none kV doc pm an cdv ct) ⟨us, []⟩ = pure (ps.zip us))
    (hbody : ∀ (f : Addr) (cdv : Value) (A : Around) (outer : List Env) (s : Shared) (H : Hp) (vs : List V) (Q : VK) (E : XK), Room k (A.deeper (PyProof.Rows.envOfC q (defScope st) s.heap.objs.size f cdv)) → sp vs H Q E →
      ∃ t, PSs (cxOf CX0 P w K mg base N q (defScope st) f cdv A outer s H E).nox (defBody st) t ∧ t { nx := fun _ H' => Q .non H', rt := Q } (start N vs) H) : Cm P w K mg base (k + 1) C m sp := by
  obtain ⟨p, g, fd, F, r, c⟩ := D.ex
  have R := (F.ok S len (hbody g)).raw (F.binds hb) .nil
  exact ⟨p, g, R.imp fun vs H Q E h => by simpa using h, r, c⟩
end
section
variable {X : Cx} {k : Nat} {m : Str} {C : Addr} {sp : Sp} {e o : Expr} {es : List Expr} {pos apos : Pos} {t : TA} {ta : TE}
theorem pe_cm {pl : Sem Bool} (M : Cm X.prog X.w X.K X.mg X.base k C m sp) (hr : Room k X.A) (ho : PE X o ta) (ha : PA X (e :: es) t)
    (hst : starEach (e :: es) X.env = (false, eval e X.env) :: starEach es X.env := by rfl) (hpl : (backTo pos (starEach es X.env)).any (·.1) = false := by rfl)
    (ht : eval (.Call (.Attribute o m apos) (e :: es) [] pos) X.env = (do
      let ov ← eval o X.env
      standAt apos.atName
      let (f, first) ← holding [ov] (getMethod ov m pl)
      callWith pos f first (backTo pos (starEach (e :: es) X.env)) (backToKw pos (keywordEach [] X.env))) := by rfl) : PE X (.Call (.Attribute o m apos) (e :: es) [] pos) (ClX.tCMeth C sp E0 ta t) := by
  obtain ⟨p, g, F, r, c⟩ := M.ex
  exact ClX.pe_cmeth ho r c F hr pass0 ha hst hpl ht
theorem x_cm {σ : L2.St} {H : Hp} {Q : VK} {E : XK} (k : ta σ H fun x H1 => x = .ref C ∧ t σ H1 fun vs H2 => sp (.ref C :: vs) H2 Q E) : ClX.tCMeth C sp E ta t σ H Q := k
theorem x_newL {σ : L2.St} {H : Hp} {Q : VK} {i : Nat} (h : σ[i]? = some (some (.ref C))) (k : t σ H fun vs H1 => ∀ x dx, H1 x = none → H1 dx = none → dx ≠ x →
  sp (.ref x :: (vs ++ [])) (upd (upd H1 dx (.own x)) x (.ins C dx [])) (fun v H2 => v = .non ∧ Q (.ref x) H2) E0) : tMakeL i C sp t σ H Q := ⟨h, k⟩
theorem x_star {K : PySem.W.Frag} {σ : L2.St} {H : Hp} {te : TE} {QA : List V → Hp → Prop} (k : te σ H fun x H1 => ∃ p xs, x = V.ref p ∧ (SqT K H1 p xs ∨ SqL K H1 p xs) ∧ t σ H1 fun ys H2 => QA (xs ++ ys) H2) : StX.tStar K te t σ H QA := k
end
/-! the head's facts of a class method -/
def cmB (x m : Str) (K : PySem.W.Frag) : Bool := He5.wrapB K (He.ga K x) "classmethod" "classmethod.__get__" m && (PySem.W.fnIn K (He5.wf K (He.ga K x) "classmethod" m) && (PySem.W.readsIn K (He.ga K x) (.type "type") && He.eqO (PySem.W.specialIn K (.ref (He.ga K x)) "__getattribute__") (some (some (.builtin "type.__getattribute__")))))
def cdef (c m q : Str) (st : Stmt) : He5.DefA := ⟨fun K => He5.wf K (He.ga K c) "classmethod" m, m, q, L2.defArgs st, L2.defBody st, L2.defScope st, [], []⟩
theorem cmd_of {K : PySem.W.Frag} {x m q : Str} {st : Stmt} {ex : PySem.W.Frag → Bool} {fn : List He5.DefA} (f : cmB x m K = true) (s : SaysB ex fn K) (i : Nat) (e : fn[i]? = some (cdef x m q st) := by rfl) : Cmd K (He.ga K x) m q st := by
  obtain ⟨h1, h⟩ := He.ba f
  obtain ⟨h2, h⟩ := He.ba h
  obtain ⟨h3, h4⟩ := He.ba h
  obtain ⟨fd, F⟩ := s.def_ i e
  exact ⟨_, _, fd, He5.fun_of F, ⟨h3, He.eqO_ok h4⟩, He5.cmet_of h1 h2⟩
end L3

namespace L3
open PySem L2 Evl TL
/-! zip of a tuple and a list -/
def ItzM (K : PySem.W.Frag) (a b : Addr) : It where
  go := fun i H => ∃ (xs ys : List V) (x y : V), SqT K H a xs ∧ SqL K H b ys ∧ xs[i]? = some x ∧ ys[i]? = some y
  yld := fun i H v H' => ∃ T x y, v = .ref T ∧ H T = none ∧ H' = upd H T (.tup [x, y]) ∧ (∀ xs, SqT K H a xs → xs[i]? = some x) ∧ ∀ ys, SqL K H b ys → ys[i]? = some y
  stop := fun i H => ∃ xs ys : List V, SqT K H a xs ∧ SqL K H b ys ∧ i = min xs.length ys.length
def zSt (N a b i : Nat) (h : Heap) : Prop := IsZip h (N + 4) (N + 2) (N + 3) .none ∧ IsTupOf2 h (N + 2) (.ref N) (.ref (N + 1)) ∧ (∃ a1 a2, IsTupOf2 h (N + 3) a1 a2) ∧ h.IsTupleIter N a i ∧ h.IsListIter (N + 1) b i
theorem turn_zipM {P : Program} {w : World} {K : PySem.W.Frag} {elts : List Expr} {kk : Nat} {tpos : Pos} {N a b : Nat} (ha : a < N) (hb : b < N) :
    Turn P w K (.Tuple elts kk tpos) (ItzM K a b) [N + 4, N + 2, N + 3, N, N + 1] (N + 4) (zSt N a b) where
  mem := by simp
  obj := by
    rintro i h ⟨z1, z2, ⟨x1, x2, z3⟩, ⟨o4, z4, _, d4⟩, ⟨o5, z5, _, d5⟩⟩ c hc
    simp only [List.mem_cons, List.not_mem_nil, or_false] at hc
    rcases hc with rfl | rfl | rfl | rfl | rfl
    · exact ⟨_, z1, nofun⟩
    · exact ⟨_, z2, nofun⟩
    · exact ⟨_, z3, nofun⟩
    · exact ⟨o4, z4, fun v q => by rw [d4] at q; cases q⟩
    · exact ⟨o5, z5, fun v q => by rw [d5] at q; cases q⟩
  keep := by
    rintro i h h' ⟨z1, z2, ⟨x1, x2, z3⟩, z4, z5⟩ k
    exact ⟨k _ (by simp) _ z1, k _ (by simp) _ z2, ⟨x1, x2, k _ (by simp) _ z3⟩, z4.at fun o q => k _ (by simp) o q, z5.at fun o q => k _ (by simp) o q⟩
  item := by
    rintro X rfl rfl rfl hc i pins s σ H E I hf st ⟨xs, ys, x, y, qx, qy, hx, hy⟩
    obtain ⟨z1, z2, z3, z4, z5⟩ := st
    obtain ⟨us, ru, pu, _⟩ := I.tuple qx
    obtain ⟨ws, rw', pw, _⟩ := I.list qy
    have lu := ru.length
    have lw := rw'.length
    have ix : i < xs.length := (List.getElem?_eq_some_iff.mp hx).1
    have iy : i < ys.length := (List.getElem?_eq_some_iff.mp hy).1
    have hh : X.A.in1.handled = none := I.ok.hd hc
    have nz : N + 4 < s.heap.objs.size := Heap.lt_size z1
    have W := GoesN.zip2 (prog := X.prog) (w := X.w) (A := X.A) (elts := elts) (x1 := kk) (pos := tpos) (zip_sep2 (N := N) (fp1 := [a]) (fp2 := [b]) (by simpa using ha) (by simpa using hb))
      (Draws.tuple hh N a (Nat.ne_of_lt ha) us.toArray) (Draws.list hh (N + 1) b (Nat.ne_of_lt (Nat.lt_succ_of_lt hb)) ws.toArray)
    refine W.goes i s _ E (by simp; omega) ⟨z1, z2, z3, ⟨z4, pu⟩, ⟨z5, pw.isList⟩⟩ fun v h' tk hY st' hk htk => ?_
    obtain ⟨T, u1, u2, rfl, hT, e1, e2, hTt⟩ := hY
    obtain ⟨w1, w2, w3, ⟨w4, _⟩, ⟨w5, _⟩⟩ := st'
    obtain ⟨v1, g1, r1⟩ := ru.get hx
    obtain ⟨v2, g2, r2⟩ := rw'.get hy
    have q1 : u1 = v1 := by
      have : us.toArray[i]? = us[i]? := by simp
      rw [this, g1] at e1
      exact (Option.some.inj e1).symm
    have q2 : u2 = v2 := by
      have : ws.toArray[i]? = ws[i]? := by simp
      rw [this, g2] at e2
      exact (Option.some.inj e2).symm
    subst q1 q2
    have new : ObjOk X.prog X.w (upd H T (.tup [x, y])) h' T (.tup [x, y]) := ⟨by show 2 ≤ sizeLine; decide, [u1, u2], .cons r1 (.cons r2 .nil), hTt⟩
    have I1 : Inv X pins σ (upd H T (.tup [x, y])) { s with heap := h', toks := tk } := I.turnedNew (t' := tk) (ch := [N + 4, N + 3, N, N + 1]) (fun c o hb q => hk c o hb q) (fun c hc' => hf c (by
      simp only [List.mem_cons, List.not_mem_nil, or_false] at hc' ⊢
      rcases hc' with z | z | z | z <;> simp [z])) hT new
    refine ⟨.ref T, _, I1, rfl, ⟨T, x, y, rfl, I.hok.fresh hT, rfl, fun l hl => by rw [I.tuple_inj hl qx]; exact hx, fun l hl => by rw [I.list_inj hl qy]; exact hy⟩, ⟨w1, w2, w3, w4, w5⟩, fun c hc' => ?_⟩
    have lt : c < s.heap.objs.size := by
      simp only [List.mem_cons, List.not_mem_nil, or_false] at hc'
      rcases hc' with z | z | z | z | z
      · exact Nat.lt_of_le_of_lt (Nat.le_of_eq z) nz
      · exact Nat.lt_of_le_of_lt (Nat.le_of_eq z) (by omega)
      · exact Nat.lt_of_le_of_lt (Nat.le_of_eq z) (by omega)
      · exact Nat.lt_of_le_of_lt (Nat.le_of_eq z) (by omega)
      · exact Nat.lt_of_le_of_lt (Nat.le_of_eq z) (by omega)
    rw [upd_ne (Nat.ne_of_lt (Nat.lt_of_lt_of_le lt hT))]
    exact (hf c hc').1
  done := by
    rintro X rfl rfl rfl hc i pins s σ H E I hf st ⟨xs, ys, qx, qy, hi⟩
    obtain ⟨z1, z2, z3, z4, z5⟩ := st
    obtain ⟨us, ru, pu, _⟩ := I.tuple qx
    obtain ⟨ws, rw', pw, _⟩ := I.list qy
    have lu := ru.length
    have lw := rw'.length
    have hh : X.A.in1.handled = none := I.ok.hd hc
    have W := GoesN.zip2 (prog := X.prog) (w := X.w) (A := X.A) (elts := elts) (x1 := kk) (pos := tpos) (zip_sep2 (N := N) (fp1 := [a]) (fp2 := [b]) (by simpa using ha) (by simpa using hb))
      (Draws.tuple hh N a (Nat.ne_of_lt ha) us.toArray) (Draws.list hh (N + 1) b (Nat.ne_of_lt (Nat.lt_succ_of_lt hb)) ws.toArray)
    have e : min us.toArray.size ws.toArray.size = i := by simp; omega
    refine W.stops s (fun s1 => Inv X pins σ H s1) E (by rw [e]; exact ⟨z1, z2, z3, ⟨z4, pu⟩, ⟨z5, pw.isList⟩⟩) fun h' tk hk htk => ?_
    exact I.turnedL (t' := tk) (ch := [N + 4, N + 3, N, N + 1]) (fun c o hb q => hk c o hb q) (fun c hc' => hf c (by
      simp only [List.mem_cons, List.not_mem_nil, or_false] at hc' ⊢
      rcases hc' with z | z | z | z <;> simp [z]))
  self := fun A i s Q E st h => wpAny_pyIter_zip st.1 h
def iZipM (K : PySem.W.Frag) (ta : TA) : TI := fun σ H R => ta σ H fun vs H1 => ∃ a b xs ys, vs = [.ref a, .ref b] ∧ SqT K H1 a xs ∧ SqL K H1 b ys ∧ R (ItzM K a b) H1
theorem pi_zipM {X : Cx} {e e2 : Expr} {ta : TA} {p pos tpos : Pos} {elts : List Expr} {kk : Nat} (hg : Gl X "zip") (hm : X.mg "zip" = none) (ha : PA X [e, e2] ta)
    (hs : starEach [e, e2] X.env = (false, eval e X.env) :: starEach [e2] X.env := by rfl) (hpl : (backTo pos (starEach [e2] X.env)).any (·.1) = false := by rfl) : PI X (.Tuple elts kk tpos) (.Call (.Name "zip" p) [e, e2] [] pos) (iZipM X.K ta) := by
  refine ⟨fun pins s σ H R I h => ?_⟩
  refine PyProof.Rows.Call_ (ld_blt I hg hm PyProof.Rows.boot_zip (PyProof.Rows.callWith_type1 (thn (ha.run pos pins s σ H _ I h) fun us s1 ⟨vs, H1, I1, r1, a, b, xs, ys, ex, qx, qy, q⟩ => ?_) hs hpl))
  subst ex
  obtain ⟨u1, u2, rfl, ra, rb⟩ := vals2 r1
  cases ra
  cases rb
  obtain ⟨its, rv, p1, _⟩ := I1.tuple qx
  obtain ⟨its2, rv2, p2, _⟩ := I1.list qy
  have la : a < s1.heap.objs.size := by
    obtain ⟨o1, ho1, _⟩ := id p1
    exact Heap.lt_size ho1
  refine zip_begins2 (begins_tuple a its.toArray) (begins_list b its2.toArray) p1 p2.isList fun h' hz hTI hTO h1 h2 hsz hk => wpAny_pyIter_zip hz ?_
  have I2 : Inv X pins σ H1 { s1 with heap := h' } := I1.kept (t' := s1.toks) hk
  refine ⟨s1.heap.objs.size + 4, [s1.heap.objs.size + 4, s1.heap.objs.size + 2, s1.heap.objs.size + 3, s1.heap.objs.size, s1.heap.objs.size + 1], _, _, H1, rfl, I2, turn_zipM la p2.lt, ⟨hz, hTI, ⟨_, _, hTO⟩, ?_, ?_⟩, fun c hc => ?_, q⟩
  · exact ⟨_, h1, rfl, rfl⟩
  · exact ⟨_, h2, rfl, rfl⟩
  · have hle : s1.heap.objs.size ≤ c := by
      simp only [List.mem_cons, List.not_mem_nil, or_false] at hc
      rcases hc with z | z | z | z | z <;> rw [z] <;> first | exact Nat.le_refl _ | exact Nat.le_add_right _ _
    exact I1.fpOk hle (I1.hok.fresh hle)
theorem x_iZipM {K : PySem.W.Frag} {σ : L2.St} {H : Hp} {R : It → Hp → Prop} {ta : TA} (k : ta σ H fun vs H1 => ∃ a b xs ys, vs = [.ref a, .ref b] ∧ SqT K H1 a xs ∧ SqL K H1 b ys ∧ R (ItzM K a b) H1) : iZipM K ta σ H R := k
theorem turns_zipM {K : PySem.W.Frag} {σ : L2.St} {H : Hp} {n : L2.St → Hp → Prop} {r : VK} {a b : Addr} {xs ys : List V} {g : TG} {tb : TS} (hl : xs.length = ys.length) (Pv : Nat → L2.St → Hp → Prop) (h0 : Pv 0 σ H) (hq : ∀ i σ H, i ≤ xs.length → Pv i σ H → SqT K H a xs ∧ SqL K H b ys)
    (hs : ∀ i x y T σ H, xs[i]? = some x → ys[i]? = some y → Pv i σ H → H T = none → g (.ref T) σ (upd H T (.tup [x, y])) fun σ2 H2 => tb ⟨Pv (i + 1), r, n, Pv (i + 1)⟩ σ2 H2) (hd : ∀ σ H, Pv xs.length σ H → n σ H) : Turns (ItzM K a b) g tb n r σ H := by
  refine ⟨fun i m σ H => m = xs.length - i ∧ i ≤ xs.length ∧ Pv i σ H, ⟨_, rfl, Nat.zero_le _, h0⟩, ?_⟩
  rintro i m σ H ⟨rfl, hi, p⟩
  obtain ⟨q1, q2⟩ := hq i σ H hi p
  by_cases e : i = xs.length
  · subst e
    exact .inl ⟨⟨xs, ys, q1, q2, by omega⟩, hd σ H p⟩
  · have lt : i < xs.length := by omega
    refine .inr ⟨⟨xs, ys, xs[i], ys[i]'(by omega), q1, q2, List.getElem?_eq_getElem lt, List.getElem?_eq_getElem (by omega)⟩, Pv (i + 1), fun σ' H' z => ⟨_, by omega, rfl, lt, z⟩, ?_⟩
    rintro v H' ⟨T, x, y, rfl, hT, rfl, k1, k2⟩
    exact hs i x y T σ H (k1 xs q1) (k2 ys q2) p hT
end L3
namespace L3
open PySem L2 Evl TL
section
variable {σ : L2.St} {H : Hp} {Q : VK} {K : PySem.W.Frag} {j : Nat} {te : TE} {tt : TT} {vs : List Nat}
theorem comp_str {z : Str} (Rr : Nat → List V → Prop) (hz : z.cps.size < 100000) (hw : ∀ x, wipe ((wipe σ vs).set j (some x)) vs = wipe σ vs) (h0 : Rr 0 [])
    (hs : ∀ i c acc H', z.cps[i]? = some c → Rr i acc → Ex H H' → CTurn tt te ((wipe σ vs).set j (some (.str ⟨#[c]⟩))) H' (Rr (i + 1)) acc)
    (k : ∀ D acc H', H D = none → Ex H H' → H' D = some (.lst acc) → Rr z.cps.size acc → Q (.ref D) H') : Comp (Its z) (gName j) tt te vs Q σ H := fun D hD => by
  refine lc_it (walk_str (z := z)) (fun i H' => ∃ acc, Rr i acc ∧ acc.length ≤ i ∧ Ex H H' ∧ H' D = some (.lst acc)) ⟨[], h0, Nat.le_refl _, Ex.new hD, upd_same⟩ (fun i H' _ _ => trivial) ?_ ?_
  · rintro i v H' _ hi ⟨acc, r, l, e, hd⟩ ⟨rfl, c, hc, rfl⟩
    refine ⟨hw _, hs i c acc _ hc r e _ _ (fun y H4 e4 r4 => ?_) (fun H3 e3 r3 => ?_)⟩
    · refine ⟨acc, e4 _ _ hd, Nat.lt_of_le_of_lt l (Nat.lt_of_lt_of_le hi (Nat.le_trans (Nat.le_of_lt hz) (by decide))), acc ++ [y], r4, by simp; omega, fun a o h => ?_, upd_same⟩
      rw [upd_ne (ne_of_none h hD)]
      exact e4 _ _ (e _ _ h)
    · exact ⟨acc, r3, Nat.le_succ_of_le l, e.trans e3, e3 _ _ hd⟩
  · rintro H' ⟨acc, r, l, e, hd⟩
    exact k D acc H' hD e hd r
theorem x_iStr {R : It → Hp → Prop} (k : te σ H fun v H1 => ∃ x, v = .str x ∧ R (Its x) H1) : iStr te σ H R := k
end
end L3
namespace L3
open PySem L2 Evl TL
theorem x_chain {σ : L2.St} {H : Hp} {Q : VK} {r r' : R2} {ta tb tc : TE} (k : ta σ H fun x H1 => tb σ H1 fun y H2 => r x y H2 fun z H3 => ∃ k, z = .bl k ∧ (if k = true then tc σ H3 fun w' H4 => r' y w' H4 Q else Q (.bl false) H3)) : tChain r r' ta tb tc σ H Q := k
/-! numbers below a hundred, as texts -/
def numChk (w : Str) : Bool := decide (1 ≤ w.length) && decide (w.length ≤ 2) && w.cps.all (fun c => decide (48 ≤ c) && decide (c ≤ 57)) && (decide (w = "0") || (match w.cps.toList with
  | c :: _ => decide (c ≠ 48)
  | [] => false))
theorem numChk_all : ∀ n : Fin 100, numChk (numS ((n.val : Nat) : Int)) = true := by decide +kernel
theorem numChk_of {n : Int} (h0 : 0 ≤ n) (h1 : n < 100) : numChk (numS n) = true := by
  obtain ⟨m, rfl⟩ := Int.eq_ofNat_of_zero_le h0
  exact numChk_all ⟨m, by omega⟩
theorem digit_in {c : Nat} (h : 48 ≤ c ∧ c ≤ 57) : decide (c ∈ (Str.ofString "0123456789").cps.toList) = true := by
  have : c = 48 ∨ c = 49 ∨ c = 50 ∨ c = 51 ∨ c = 52 ∨ c = 53 ∨ c = 54 ∨ c = 55 ∨ c = 56 ∨ c = 57 := by omega
  rcases this with rfl | rfl | rfl | rfl | rfl | rfl | rfl | rfl | rfl | rfl <;> decide +kernel
end L3
namespace L3
open PySem L2 Evl TL
theorem x_m1 {σ : L2.St} {H : Hp} {Q : VK} {r : V → List V → Hp → VK → Prop} {to te : TE} (k : to σ H fun x H1 => (∃ a, x = .str a) ∧ te σ H1 fun y H2 => r x [y] H2 Q) : tM1 r to te σ H Q := k
theorem x_m0 {σ : L2.St} {H : Hp} {Q : VK} {r : V → List V → Hp → VK → Prop} {to : TE} (k : to σ H fun x H1 => (∃ a, x = .str a) ∧ r x [] H1 Q) : tM0 r to σ H Q := k
end L3
namespace L3
open PySem L2 Evl TL
theorem x_gsub {σ : L2.St} {H : Hp} {v : V} {to ti : TE} {t : TSet} {QG : L2.St → Hp → Prop} (k : to σ H fun o H1 => ti σ H1 fun i H2 => t o i v H2 fun H3 => QG σ H3) : gSub to ti t v σ H QG := k
theorem upd_id {H : Hp} {a : Addr} {o : HO} (h : H a = some o) : upd H a o = H := by
  funext b
  by_cases e : b = a
  · rw [e, upd_same, h]
  · rw [upd_ne e]
theorem set_id {α : Type} {xs : List α} {k : Nat} {y : α} (h : xs[k]? = some y) : xs.set k y = xs := by
  apply List.ext_getElem?
  intro i
  rw [List.getElem?_set]
  split
  · rename_i e
    subst e
    obtain ⟨hl, _⟩ := List.getElem?_eq_some_iff.mp h
    rw [if_pos hl, h]
  · rfl
theorem ixN_of {n k : Nat} (h : k < n) : ixN n (k : Int) = some k := by
  unfold ixN
  rw [if_pos (Int.natCast_nonneg k), if_pos (by exact_mod_cast h)]
  simp
def rInKD (K : PySem.W.Frag) (d : Addr) (neg : Bool) : R2 := fun x y H Q => ∃ (z : Str) (r : Option Value), x = .str z ∧ y = .ref d ∧ PySem.W.nsIn K d z = some r ∧ Q (.bl (if neg then !r.isSome else r.isSome)) H
theorem op_notIn_kd' {X : Cx} {d : Addr} {es : Array DictEntry} {n : Nat} (D : KDict X.K X.w d es n) : OpR X (compareOp .NotIn) (rInKD X.K d true) := op_notIn_kd D
end L3

namespace L3
open PySem PySem.Spec PyProof.Rows L2 Evl TL
/-! ranges as values; lists of ranges -/
def rRg2 : List V → Hp → VK → Prop := fun vs H Q => ∃ i j, vs = [V.int i, V.int j] ∧ ∀ p, H p = none → Q (.ref p) (upd H p (.rng i j))
theorem call_rg2 {X : Cx} : CallR X (.type "range") rRg2 := cr_range2
def rOutR : R2 := fun x y H Q => ∃ i a lo hi, x = V.int i ∧ y = V.ref a ∧ H a = some (.rng lo hi) ∧ Q (.bl (!decide (lo ≤ i ∧ i < hi))) H
theorem op_outR {X : Cx} : OpR X (compareOp .NotIn) rOutR := by
  intro pins s σ H x y v u Q I rx ry h
  obtain ⟨i, a, lo, hi, rfl, rfl, ha, q⟩ := h
  obtain ⟨k, rfl⟩ := rx
  cases (show u = Value.ref a from ry)
  obtain ⟨t1, t2, t3, ho⟩ := I.hok a _ ha
  show wpAny _ _ (do return Value.bool (!(← contains (Value.ref a) (Value.int i k)))) _ _ s
  refine wpAny_bind ?_
  refine wpAny_contains_slot (T := "range") ⟨_, ho, rfl⟩ F.slot_range_contains ?_
  refine call_meets F.slot_range_contains ⟨_, ho, rfl⟩ F.entry_range_contains (F.args_range_contains_2 _ _) (q_contains a lo hi i t1 t2 t3 k) ?_
  refine ⟨ho, ?_⟩
  refine wpAny_truthy_bool ?_
  refine wpAny_pure ⟨.bl _, H, I, rfl, ?_⟩
  rw [place1]
  exact q
theorem x_outR {H : Hp} {Q : VK} {i : Int} {a : Addr} {lo hi : Int} (h : H a = some (.rng lo hi)) (k : Q (.bl (!decide (lo ≤ i ∧ i < hi))) H) : rOutR (.int i) (.ref a) H Q := ⟨i, a, lo, hi, rfl, rfl, h, k⟩
theorem x_rg2 {H : Hp} {Q : VK} {i j : Int} (k : ∀ p, H p = none → Q (.ref p) (upd H p (.rng i j))) : rRg2 [.int i, .int j] H Q := ⟨i, j, rfl, k⟩
theorem x_listRg {σ : L2.St} {H : Hp} {Q : VK} {te : L2.St → Hp → (Int → Int → Hp → Prop) → Prop} (k : te σ H fun a b H1 => RgOk a b ∧ ∀ q, H1 q = none → Q (.ref q) (upd H1 q (.lst (rgV a b)))) : tLstRg te σ H Q := k
theorem x_rg1 {σ : L2.St} {H : Hp} {Q : Int → Int → Hp → Prop} {ta : TE} (k : ta σ H fun x H1 => ∃ n, x = .int n ∧ Q 0 n H1) : tRg1 ta σ H Q := k
theorem x_catL {H : Hp} {Q : VK} {l b : Addr} {xs zs : List V} (h1 : H l = some (.lst xs)) (h2 : H b = some (.lst zs)) (hz : xs.length + zs.length ≤ sizeLine) (k : ∀ p, H p = none → Q (.ref p) (upd H p (.lst (xs ++ zs)))) : rCat (.ref l) (.ref b) H Q := ⟨l, b, xs, zs, rfl, rfl, h1, h2, hz, k⟩
end L3

namespace L3
open PySem PySem.Spec PyProof.Rows L2 Evl TL
/-! repr of plain values; max of a list; filters -/
def reprV : V → Str
  | .int i => toString i
  | .bl b => if b then "True" else "False"
  | _ => "None"
def rReprV : List V → Hp → VK → Prop := fun xs H Q => ∃ v, xs = [v] ∧ ((∃ i, v = .int i ∧ i.natAbs.log2 < 1920) ∨ (∃ b, v = .bl b) ∨ v = .non) ∧ Q (.str (reprV v)) H
theorem call_reprV {X : Cx} : CallR X (.builtin "repr") rReprV := by
  intro pins s σ H xs us Q I r h
  obtain ⟨v, rfl, hv, q⟩ := h
  obtain ⟨u, rfl, ru⟩ := vals1 r
  rcases hv with ⟨i, rfl, hz⟩ | ⟨b, rfl⟩ | rfl
  · obtain ⟨t, rfl⟩ := ru
    exact PySem.P.repr_of_int hz ⟨.str (toString i), H, I.tok _, ⟨_, rfl⟩, q⟩
  · cases (show u = Value.bool b from ru)
    refine PySem.P.repr_of_bool ⟨.str _, H, I.tok _, ⟨_, rfl⟩, ?_⟩
    exact q
  · cases (show u = Value.none from ru)
    refine PySem.P.repr_of_none ⟨.str _, H, I.tok _, ⟨_, rfl⟩, ?_⟩
    exact q
theorem call_maxV {X : Cx} (hc : X.calm = true) : CallR X (.builtin "max") (rMax X.K) := cr_max hc
section
variable {σ : L2.St} {H : Hp} {Q : VK} {K : PySem.W.Frag} {j : Nat} {te : TE} {tt : TT} {vs : List Nat}
/-- a comprehension that keeps the turns of which p holds -/
theorem comp_rangeP {lo : Int} {m : Nat} (p : Nat → Bool) (f : Nat → Int) (hz : m < 100000) (hw : ∀ x, wipe ((wipe σ vs).set j (some x)) vs = wipe σ vs)
    (hs : ∀ (i : Nat) H', i < m → Ex H H' → ∀ KT : Bool → Hp → Prop, (∀ H3, Ex H' H3 → KT (p i) H3) → tt ((wipe σ vs).set j (some (.int (lo + i)))) H' KT)
    (he : ∀ (i : Nat) H', i < m → p i = true → Ex H H' → ∀ KY : VK, KY (.int (f i)) H' → te ((wipe σ vs).set j (some (.int (lo + i)))) H' KY)
    (k : ∀ D H', H D = none → Ex H H' → H' D = some (.lst ((((List.range m).filter p).map f).map V.int)) → Q (.ref D) H') : Comp (Itr lo m) (gName j) tt te vs Q σ H := by
  refine comp_range (fun i acc => acc = (((List.range i).filter p).map f).map V.int) hz hw rfl (fun i acc H' hi ha e KY KN ky kn => ?_) (fun D acc H' hD e hl ha => k D H' hD e (by rw [hl, ha]))
  refine hs i H' hi e _ fun H3 e3 => ?_
  cases hp : p i with
  | true =>
    rw [if_pos rfl]
    exact he i H3 hi hp (e.trans e3) KY (ky _ _ e3 (by rw [ha, List.range_succ]; simp [List.filter_append, hp]))
  | false =>
    rw [if_neg (by decide)]
    exact kn H3 e3 (by rw [ha, List.range_succ]; simp [List.filter_append, hp])
theorem comp_listF {a : Addr} {ns : List Int} (f : Int → Int) (hx : SqL K H a (ns.map V.int)) (hz : ns.length < 100000) (hw : ∀ x, wipe ((wipe σ vs).set j (some x)) vs = wipe σ vs)
    (hs : ∀ (n : Int) H', n ∈ ns → Ex H H' → ∀ KY : VK, KY (.int (f n)) H' → te ((wipe σ vs).set j (some (.int n))) H' KY)
    (k : ∀ D H', H D = none → Ex H H' → H' D = some (.lst ((ns.map f).map V.int)) → Q (.ref D) H') : Comp (Itl K a) (gName j) tYes te vs Q σ H := by
  refine comp_list (fun i acc => acc = ((ns.take i).map f).map V.int) hx (by simpa using hz) hw rfl (fun i x acc H' hi ha e KY KN ky kn => ?_) (fun D acc H' hD e hl ha => k D H' hD e (by rw [hl, ha]; simp))
  rw [List.getElem?_map] at hi
  cases q : ns[i]? with
  | none => rw [q] at hi; cases hi
  | some n =>
    rw [q] at hi
    cases hi
    refine x_yes ?_
    rw [if_pos rfl]
    exact hs n H' (List.mem_of_getElem? q) e KY (ky _ _ (Ex.refl _) (by rw [ha, List.take_add_one, q]; simp))
theorem x_appendL {K : PySem.W.Frag} {p : Addr} {xs : List V} {y : V} (h : H p = some (.lst xs)) (hz : xs.length < sizeLine) (k : Q .non (upd H p (.lst (xs ++ [y])))) : rAppend (.ref p) [y] H Q := ⟨p, xs, y, rfl, rfl, h, hz, k⟩
end
/-- the last turn of which p holds -/
def lastP (p : Nat → Bool) : Nat → Option Nat
  | 0 => none
  | m + 1 => if p m = true then some m else lastP p m
theorem lastP_none {p : Nat → Bool} : ∀ {m : Nat}, lastP p m = none → (List.range m).filter p = []
  | 0, _ => rfl
  | m + 1, h => by
    unfold lastP at h
    split at h
    · cases h
    · rename_i hp
      rw [List.range_succ, List.filter_append, lastP_none h]
      simp [hp]
theorem lastP_some {p : Nat → Bool} {x : Nat} : ∀ {m : Nat}, lastP p m = some x → x < m ∧ p x = true ∧ ∀ y, y < m → p y = true → y ≤ x
  | 0, h => by cases h
  | m + 1, h => by
    unfold lastP at h
    split at h
    · rename_i hp
      cases h
      exact ⟨Nat.lt_succ_self _, hp, fun y hy _ => by omega⟩
    · rename_i hp
      obtain ⟨h1, h2, h3⟩ := lastP_some h
      refine ⟨by omega, h2, fun y hy hp2 => ?_⟩
      by_cases e : y = m
      · rw [e] at hp2; exact absurd hp2 hp
      · exact h3 y (by omega) hp2
def lastV (p : Nat → Bool) (m : Nat) : V := match lastP p m with
  | none => .non
  | some i => .int i
end L3

namespace L3
open PySem L2 Evl TL
/-! rows of plain values compared -/
def dOf : V → PyData
  | .int i => .int i
  | .str s => .str s
  | .bl b => .bool b
  | _ => .none
def okV : V → Bool
  | .int _ => true
  | .str s => PyData.strOk s
  | .bl _ => true
  | .non => true
  | _ => false
def sameK : V → V → Bool
  | .int _, .int _ => true
  | .str _, .str _ => true
  | .bl _, .bl _ => true
  | .non, .non => true
  | _, _ => false
def sameKs : List V → List V → Bool
  | [], [] => true
  | x :: xs, y :: ys => sameK x y && sameKs xs ys
  | _, _ => false
theorem dp_of {K : PySem.W.Frag} {H : Hp} : ∀ {v : V}, okV v = true → Dp K H v (dOf v)
  | .int i, _ => .int i
  | .str s, _ => .str s
  | .bl b, _ => .bl b
  | .non, _ => .non
theorem dpAll_of {K : PySem.W.Frag} {H : Hp} : ∀ {vs : List V}, vs.all okV = true → DpAll K H vs (vs.map dOf)
  | [], _ => .nil
  | v :: vs, h => by
    rw [List.all_cons, Bool.and_eq_true] at h
    exact .cons (dp_of h.1) (dpAll_of h.2)
theorem lay_of : ∀ {v : V}, okV v = true → PyData.canLay0 (dOf v) = true ∧ PyData.depth (dOf v) = 0
  | .int i, _ => by simp [dOf, PyData.canLay0, PyData.depth]
  | .str s, h => by
    have h' : PyData.strOk s = true := h
    simp [dOf, PyData.canLay0, PyData.depth, h']
  | .bl b, _ => by simp [dOf, PyData.canLay0, PyData.depth]
  | .non, _ => by simp [dOf, PyData.canLay0, PyData.depth]
theorem layAll_of : ∀ {vs : List V}, vs.all okV = true → PyData.canLayAll0 (vs.map dOf) = true ∧ PyData.depthAll (vs.map dOf) = 0
  | [], _ => by simp [PyData.canLayAll0, PyData.depthAll]
  | v :: vs, h => by
    rw [List.all_cons, Bool.and_eq_true] at h
    obtain ⟨a1, a2⟩ := lay_of h.1
    obtain ⟨b1, b2⟩ := layAll_of h.2
    simp [PyData.canLayAll0, PyData.depthAll, a1, a2, b1, b2]
theorem shaped_L {vs : List V} (h : vs.all okV = true) : SeqAt.shaped (.list (vs.map dOf)) = true := by
  obtain ⟨h1, h2⟩ := layAll_of h
  unfold SeqAt.shaped
  simp only [PyData.canLay0, h1, PyData.depth, h2]
  decide
theorem shaped_T {vs : List V} (h : vs.all okV = true) : SeqAt.shaped (.tuple (vs.map dOf)) = true := by
  obtain ⟨h1, h2⟩ := layAll_of h
  unfold SeqAt.shaped
  simp only [PyData.canLay0, h1, PyData.depth, h2]
  decide
theorem eqv_of : ∀ {x y : V}, sameK x y = true → PyData.eqv (dOf x) (dOf y) = decide (x = y)
  | .int i, .int j, _ => by
    by_cases h : i = j
    · subst h; simp [dOf, PyData.eqv]
    · simp [dOf, PyData.eqv, h]
  | .str i, .str j, _ => by
    by_cases h : i = j
    · subst h; simp [dOf, PyData.eqv]
    · simp [dOf, PyData.eqv, h]
  | .bl i, .bl j, _ => by cases i <;> cases j <;> simp [dOf, PyData.eqv]
  | .non, .non, _ => by simp [dOf, PyData.eqv]
theorem eqvAll_of : ∀ {xs ys : List V}, sameKs xs ys = true → PyData.eqvAll (xs.map dOf) (ys.map dOf) = decide (xs = ys)
  | [], [], _ => by simp [PyData.eqvAll]
  | x :: xs, y :: ys, h => by
    rw [sameKs, Bool.and_eq_true] at h
    simp only [List.map_cons, PyData.eqvAll, eqv_of h.1, eqvAll_of h.2]
    by_cases e : x = y
    · subst e; simp
    · simp [e]
section
variable {K : PySem.W.Frag} {H : Hp} {Q : VK} {p q : Addr} {xs ys : List V}
theorem x_neL (h1 : H p = some (.lst xs)) (h2 : H q = some (.lst ys)) (o1 : xs.all okV = true) (o2 : ys.all okV = true) (s : sameKs xs ys = true) (k : Q (.bl (!decide (xs = ys))) H) : rNeD K (.ref p) (.ref q) H Q := by
  refine ⟨_, _, .lst (SqL.of h1) (dpAll_of o1), .lst (SqL.of h2) (dpAll_of o2), shaped_L o1, shaped_L o2, ?_⟩
  simp only [PyData.eqv, eqvAll_of s]
  exact k
theorem x_eqT (h1 : SqT K H p xs) (h2 : SqT K H q ys) (o1 : xs.all okV = true) (o2 : ys.all okV = true) (s : sameKs xs ys = true) (k : Q (.bl (decide (xs = ys))) H) : rEqD K (.ref p) (.ref q) H Q := by
  refine ⟨_, _, .tup h1 (dpAll_of o1), .tup h2 (dpAll_of o2), shaped_T o1, shaped_T o2, ?_⟩
  simp only [PyData.eqv, eqvAll_of s]
  exact k
end
theorem sameK_refl : ∀ {x : V}, okV x = true → sameK x x = true
  | .int _, _ => rfl
  | .str _, _ => rfl
  | .bl _, _ => rfl
  | .non, _ => rfl
theorem sameKs_refl : ∀ {xs : List V}, xs.all okV = true → sameKs xs xs = true
  | [], _ => rfl
  | x :: xs, h => by
    rw [List.all_cons, Bool.and_eq_true] at h
    rw [sameKs, sameK_refl h.1, sameKs_refl h.2]
    rfl
theorem strOk_of {x : Str} (h : ∀ c ∈ tl x, c < 1114112) : PyData.strOk x = true := by
  unfold PyData.strOk
  rw [← Array.all_toList, List.all_eq_true]
  intro c hc
  exact decide_eq_true (h c hc)
theorem strOk_app {x y : Str} (hx : PyData.strOk x = true) (hy : PyData.strOk y = true) : PyData.strOk (x ++ y) = true := by
  refine strOk_of fun c hc => ?_
  unfold PyData.strOk at hx hy
  rw [← Array.all_toList, List.all_eq_true] at hx hy
  rw [tl_append] at hc
  rcases List.mem_append.mp hc with h | h
  · exact of_decide_eq_true (hx c h)
  · exact of_decide_eq_true (hy c h)
theorem strOk_num {i : Int} (h : 0 ≤ i) : PyData.strOk (numS i) = true := by
  refine strOk_of fun c hc => ?_
  rw [numS_tl h] at hc
  by_cases z : c < 48 ∨ 57 < c
  · exact absurd hc (numL_free z)
  · omega
theorem kdct_of {K : PySem.W.Frag} {w : World} {a : Addr} {es : Array DictEntry} {n : Nat} {x : Str} {v : V} {u : Value} (D : KDict K w a es n) (h : PySem.W.nsIn K a x = some (some u)) (r : RelV v u) : KDct K w a x v := ⟨es, n, u, D.at_, D.lit, h, r⟩
theorem x_par3 {σ : L2.St} {H : Hp} {n r b c} {i j l : Nat} {ta : TA} (k : ta σ H fun vs H1 => ∃ u v w, vs = [u, v, w] ∧ n (((σ.set i (some u)).set j (some v)).set l (some w)) H1) : tPar3 i j l ta ⟨n, r, b, c⟩ σ H := k
end L3

namespace L3
open PySem PySem.Spec PyProof.Rows L2 Evl TL
/-! != of two instances of a class with its own __eq__ and no __ne__ -/
def neB (x : Str) (K : PySem.W.Frag) : Bool := He.eqO (PySem.W.findIn K (.ref (He.ga K x)) "__ne__") (some (some (.builtin "object.__ne__"))) && decide (PySem.W.mroIn K (He.ga K x) (.type "object") = some true)
structure NeC (K : PySem.W.Frag) (C : Addr) : Prop where
  f : PySem.W.findIn K (.ref C) "__ne__" = some (some (.builtin "object.__ne__"))
  m : PySem.W.mroIn K C (.type "object") = some true
theorem neC_of {K : PySem.W.Frag} {x : Str} (h : neB x K = true) : NeC K (He.ga K x) := by
  obtain ⟨h1, h2⟩ := He.ba h
  exact ⟨He.eqO_ok h1, of_decide_eq_true h2⟩
section
variable {M : Model} {prog : Program} {w : World} {A : Around} {E : Value → Shared → Prop} {s : Shared} {K : PySem.W.Frag} {x C : Addr} {ox : Obj} {od : Option Obj} {b : Value}
theorem ifBound_ne {Q : Option Value → Shared → Prop} (X : K.In s.heap) (I : PySem.W.InstAt s.heap x ox C od) (hs : PySem.W.findIn K (.ref C) "__ne__" = some (some (.builtin "object.__ne__")))
    (h : wpAny M A (call (.builtin "object.__ne__") [.ref x, b]) (fun v => Q (some v)) E s) : wpAny M A (callSpecialIfBound? (.ref x) "__ne__" [b]) Q E s := by
  unfold callSpecialIfBound? bindSpecialIfBound?
  refine wpAny_holding (wpAny_bind ?_)
  refine wpAny_bind (wpAny_bind (I.type.here ?_))
  refine (PySem.W.looks_findIn X hs).here ?_
  refine wpAny_bind (wpAny_askSetting (wpAny_ite ?_))
  have fin : wpAny M A (do let v ← call (.builtin "object.__ne__") ([.ref x] ++ [b]); pure (some v)) Q E s := by
    refine wpAny_bind (wpAny_mono h (fun v s' z => ?_) fun _ _ z => z)
    exact wpAny_pure z
  split
  · refine wpAny_bind ?_
    exact wpAny_of_eq (F.cmp_object.ne.bind _) (wpAny_pure (by exact fin))
  · refine wpAny_tryCatch (wpAny_bind ?_)
    exact wpAny_of_eq (F.cmp_object.ne.bind _) (wpAny_pure (by exact fin))
theorem entry_ne {Q : Fin → Shared → Prop} (hu : A.units < cLine) (h : wpAny M A (callSpecialIfBound? (.ref x) "__eq__" [b]) (fun r s' => ∃ c, r = some (.bool c) ∧ Q (.done (.ret (.bool (!c)))) s') E s) :
    wpAny M A (Builtin.«object.__ne__» ⟨[.ref x, b], []⟩) Q E s := by
  unfold Builtin.«object.__ne__»
  have h2 : ∀ R : Option Value → Shared → Prop, (∀ c s', Q (.done (.ret (.bool (!c)))) s' → R (some (.bool c)) s') → wpAny M A (callSpecialIfBound? (.ref x) "__eq__" [b]) R E s := fun R hR => by
    refine wpAny_mono h (fun r s' z => ?_) fun _ _ z => z
    obtain ⟨c, rfl, q⟩ := z
    exact hR c s' q
  repeat (first | with_reducible refine wpAny_cRoomFor hu ?_ | (with_reducible refine h2 _ (fun c s' q => ?_)) | wp_step)
  exact q
theorem call_ne {Q : Value → Shared → Prop} (hu : A.units + 1 < cLine) (X : K.In s.heap) (I : PySem.W.InstAt s.heap x ox C od) (hm : PySem.W.mroIn K C (.type "object") = some true)
    (h : wpAny (model prog w) A.in1 (callSpecialIfBound? (.ref x) "__eq__" [b]) (fun r s' => ∃ c, r = some (.bool c) ∧ Q (.bool (!c)) s') E s) : wpAny (model prog w) A (call (.builtin "object.__ne__") [.ref x, b]) Q E s := by
  refine wpAny_call (codeAny_call_builtin F.cmp_object.ne.plain F.cmpEntry_ne ?_)
  refine PySem.W.check_slot F.cmpKind_ne F.cmpSplit_ne (I.type.andThen (PySem.W.looks_mroIn X hm)) (F.cmpArgs_ne _ _) ?_
  exact entry_ne hu h
end
def rNeI (C : Addr) (sp : Sp) : R2 := fun x y H Q => ∃ a b dx fs dy gs, x = .ref a ∧ y = .ref b ∧ H a = some (.ins C dx fs) ∧ H b = some (.ins C dy gs) ∧ sp [.ref a, .ref b] H (fun v H' => ∃ c, v = .bl c ∧ Q (.bl (!c)) H') E0
section
variable {X : Cx} {k : Nat} {C : Addr} {ps : List Str} {sp : Sp}
theorem op_neI (N : NeC X.K C) (M : Mt X.prog X.w X.K X.mg X.base k C "__eq__" ps sp) (hr : Room (k + 1) X.A) : OpR X (compareOp .NotEq) (rNeI C sp) := by
  intro pins s σ H x y v u Q I rx ry hq
  obtain ⟨a, b, dx, fs, dy, gs, rfl, rfl, ha, hb', hsp⟩ := hq
  obtain ⟨f, fd, F, me, bi⟩ := M.ex
  cases rx
  cases ry
  obtain ⟨mA, J, _⟩ := ins_get I.hok ha
  obtain ⟨mB, J', _⟩ := ins_get I.hok hb'
  obtain ⟨od, J, _⟩ := J.look
  obtain ⟨od', J', _⟩ := J'.look
  have hr1 : Room k X.A.in1 := Room.in1 (k := k) hr
  show wpAny (model X.prog X.w) X.A (richCompare .NotEq (.ref a) (.ref b)) (EP X pins σ Q) X.xe s
  have one : wpAny (model X.prog X.w) X.A (tryCompare (.ref a) (cmpInfo .NotEq).2.1 (.ref b)) (fun r s' => ∃ v, r = some v ∧ EP X pins σ Q v s') X.xe s := by
    unfold tryCompare
    refine wpAny_bind (ifBound_ne I.kIn J N.f ?_)
    refine call_ne (by have := hr.units; omega) I.kIn J N.m ?_
    refine PySem.W.ifBound_K I.kIn J me.at_ me.fn ?_
    have e0 : Env0 X.prog X.w X.K X.mg X.base X.A.in1 X.stack s H := I.env0.in1
    have hl := F.len _ _ _ _ hsp
    have r2 : Vals [V.ref a, V.ref b] [Value.ref a, Value.ref b] := .cons rfl (.cons rfl .nil)
    refine wpAny_call (codeAny_mono (F.run X.A.in1 X.stack s H ⟨[.ref a, .ref b], []⟩ [.ref a, .ref b] [.ref a, .ref b] _ E0 hr1 e0 (by
      have := bi s [.ref a, .ref b] I.kIn (by simpa using hl)
      simpa using this) r2 hsp) fun r s' hq => ?_)
    cases r with
    | error e => exact hq.elim
    | ok fl =>
      cases fl with
      | ret w =>
        obtain ⟨z, H', I', rz, c, ez, q⟩ := I.after hq
        subst ez
        cases rz
        exact ⟨c, rfl, wpAny_pure ⟨_, rfl, .bl (!c), H', I', rfl, q⟩⟩
      | next => exact False.elim hq
      | brk => exact False.elim hq
      | cont => exact False.elim hq
  unfold richCompare
  simp only [oneThing_ref]
  refine wpAny_holding (wpAny_bind (wpAny_cRoomFor hr.units0 ?_))
  refine wpAny_bind (J.type.here (wpAny_bind (J'.type.here ?_)))
  split
  · rename_i q
    simp at q
  · refine wpAny_bind (wpAny_pure ?_)
    simp only [Bool.false_eq_true, if_false]
    refine wpAny_bind (wpAny_mono one (fun r s' z => ?_) fun _ _ e => e)
    obtain ⟨v, rfl, hq⟩ := z
    exact wpAny_pure hq
theorem x_neI {H : Hp} {Q : VK} {a b dx dy : Addr} {fs gs : List (Str × V)} (ha : H a = some (.ins C dx fs)) (hb : H b = some (.ins C dy gs)) (k : sp [.ref a, .ref b] H (fun v H' => ∃ c, v = .bl c ∧ Q (.bl (!c)) H') E0) : rNeI C sp (.ref a) (.ref b) H Q :=
  ⟨a, b, dx, fs, dy, gs, rfl, rfl, ha, hb, k⟩
end
end L3

namespace L3
open PySem PySem.Spec PyProof.Rows L2 Evl TL
/-! lists of new tuples; dict of pairs; sorted -/
/-- what is no list still stands -/
def Kt (H H' : Hp) : Prop := ∀ a u, H a = some u → (∀ ys, u ≠ .lst ys) → H' a = some u
theorem Ex.kt {H H' : Hp} (e : Ex H H') : Kt H H' := fun a u h _ => e a u h
theorem kt_upd {H : Hp} {D : Addr} {xs ys : List V} (h : H D = some (.lst xs)) : Kt H (upd H D (.lst ys)) := fun a u ha hn => by
  have : a ≠ D := fun z => by
    rw [z, h] at ha
    cases ha
    exact hn xs rfl
  rw [upd_ne this]
  exact ha
theorem ex_newU {H H' : Hp} {D : Addr} {u : HO} (h : H D = none) (e : Ex H H') : Ex H (upd H' D u) := fun b o hb => by
  rw [upd_ne (ne_of_none hb h)]
  exact e b o hb
section
variable {σ : L2.St} {H : Hp} {Q : VK} {K : PySem.W.Frag} {j : Nat} {te : TE} {vs : List Nat}
theorem comp_listH {a : Addr} {xs : List V} (Rr : Nat → List V → Hp → Prop) (mono : ∀ i acc H H', Kt H H' → Rr i acc H → Rr i acc H') (hx : SqL K H a xs) (hz : xs.length < 100000) (hw : ∀ x, wipe ((wipe σ vs).set j (some x)) vs = wipe σ vs) (h0 : Rr 0 [] H)
    (hs : ∀ i x acc H', xs[i]? = some x → Rr i acc H' → Ex H H' → ∀ KY : VK, (∀ y H4, Ex H' H4 → Rr (i + 1) (acc ++ [y]) H4 → KY y H4) → te ((wipe σ vs).set j (some x)) H' KY)
    (k : ∀ D acc H', H D = none → Ex H H' → H' D = some (.lst acc) → Rr xs.length acc H' → Q (.ref D) H') : Comp (Itl K a) (gName j) tYes te vs Q σ H := fun D hD => by
  refine lc_list (K := K) (a := a) (xs := xs) (fun i H' => ∃ acc, Rr i acc H' ∧ acc.length ≤ i ∧ Ex H H' ∧ H' D = some (.lst acc)) ⟨[], mono _ _ _ _ (Ex.kt (Ex.new hD)) h0, Nat.le_refl _, Ex.new hD, upd_same⟩ (fun i H' _ ⟨_, _, _, e, _⟩ => ex_l e hx) ?_ ?_
  · rintro i x H' hi ⟨acc, r, l, e, hd⟩
    have hi' : i < xs.length := (List.getElem?_eq_some_iff.mp hi).1
    refine ⟨hw x, x_yes ?_⟩
    rw [if_pos rfl]
    refine hs i x acc H' hi r e _ fun y H4 e4 r4 => ?_
    exact ⟨acc, e4 _ _ hd, Nat.lt_of_le_of_lt l (Nat.lt_of_lt_of_le hi' (Nat.le_trans (Nat.le_of_lt hz) (by decide))), acc ++ [y], mono _ _ _ _ (kt_upd (e4 _ _ hd)) r4, by simp; omega, ex_newU hD (e.trans e4), upd_same⟩
  · rintro H' ⟨acc, r, l, e, hd⟩
    exact k D acc H' hD e hd r
end
def rDictP (K : PySem.W.Frag) : List V → Hp → VK → Prop := fun xs H Q => ∃ (a : Addr) (ps : List Addr) (kvs : List (Key × V)), xs = [.ref a] ∧ SqL K H a (ps.map V.ref) ∧ Paired (fun p kv => SqT K H p [kV kv.1, kv.2]) ps kvs ∧
    ∀ p, H p = none → Q (.ref p) (upd H p (.dK (mergeK [] kvs)))
theorem call_dictP' {X : Cx} (hc : X.calm = true) : CallR X (.type "dict") (rDictP X.K) := call_dictP hc
def rLenD : List V → Hp → VK → Prop := fun xs H Q => ∃ a kvs, xs = [V.ref a] ∧ H a = some (.dK kvs) ∧ Q (.int kvs.length) H
theorem call_lenD' {X : Cx} : CallR X (.builtin "len") rLenD := call_lenD
theorem call_sorted' {X : Cx} : CallR X (.builtin "sorted") (rSorted X.K) := cr_sorted
/-- keys that rise up to c and stay: the dict has c of them -/
def kvsF (f : Nat → Int) (n : Nat) : List (Key × V) := (List.range n).map fun i => (Sum.inl (f i), V.int 1)
theorem merge_rise {f : Nat → Int} {c : Nat} (up : ∀ i, i + 1 < c → f i < f (i + 1)) (st : ∀ i, c ≤ i → f i = f (c - 1)) (c1 : 1 ≤ c) : ∀ n, mergeK [] (kvsF f n) = kvsF f (min n c) := by
  have lt : ∀ i k, i < k → k < c → f i < f k := fun i k hik hk => by
    induction k with
    | zero => omega
    | succ k ih =>
      by_cases e : i = k
      · rw [e]; exact up k hk
      · exact Int.lt_trans (ih (by omega) (by omega)) (up k hk)
  intro n
  induction n with
  | zero => rfl
  | succ n ih =>
    have e1 : kvsF f (n + 1) = kvsF f n ++ [(Sum.inl (f n), V.int 1)] := by
      unfold kvsF
      rw [List.range_succ, List.map_append]
      rfl
    have e2 : mergeK [] (kvsF f (n + 1)) = putK (mergeK [] (kvsF f n)) (Sum.inl (f n)) (V.int 1) := by
      rw [e1]
      unfold mergeK
      rw [List.foldl_append]
      rfl
    rw [e2, ih]
    by_cases h : n < c
    · rw [show min n c = n by omega, show min (n + 1) c = n + 1 by omega, e1]
      unfold putK
      rw [if_neg]
      intro z
      rw [List.any_eq_true] at z
      obtain ⟨kv, hkv, hd⟩ := z
      unfold kvsF at hkv
      obtain ⟨i, hi, rfl⟩ := List.mem_map.mp hkv
      rw [List.mem_range] at hi
      have e : f i = f n := by simpa using hd
      have := lt i n hi h
      omega
    · rw [show min n c = c by omega, show min (n + 1) c = c by omega]
      unfold putK
      rw [if_pos]
      · rw [List.map_congr_left (g := id)]
        · simp
        · intro kv hkv
          unfold kvsF at hkv
          obtain ⟨i, hi, rfl⟩ := List.mem_map.mp hkv
          simp only [id]
          split <;> rfl
      · rw [List.any_eq_true]
        refine ⟨(Sum.inl (f (c - 1)), V.int 1), ?_, by rw [st n (by omega)]; simp⟩
        unfold kvsF
        exact List.mem_map.mpr ⟨c - 1, by rw [List.mem_range]; omega, rfl⟩
theorem sorted_eq {ns ms : List Int} (p : ms.Perm ns) (s : ms.Pairwise (· ≤ ·)) (t : ns.Pairwise (· ≤ ·)) : ms = ns := List.Perm.eq_of_pairwise (fun _ _ _ _ a b => Int.le_antisymm a b) s t p
end L3

namespace L3
open PySem PySem.Spec PyProof.Rows L2 Evl TL
/-! functions that are called where no repr is under way -/
structure FnG (P : Program) (w : World) (K : PySem.W.Frag) (mg : Str → Option Value) (base : Heap) (k : Nat) (f : Addr) (fd : FuncData) (ps : List Str) (sp : Sp) : Prop where
  len : ∀ vs H Q E, sp vs H Q E → vs.length = ps.length
  run : ∀ (A : Around) (outer : List Env) (s : Shared) (H : Hp) (args : Args) (us : List Value) (vs : List V) (Q : VK) (E : XK), A.guards = some [] → Room k A → Env0 P w K mg base A outer s H →
    BindsTo s fd args (ps.zip us) → Vals vs us → sp vs H Q E → codeAny (model P w) A (.call (.ref f) args) (CR CX0 outer P w H s Q E) s
section
variable {P : Program} {w : World} {K : PySem.W.Frag} {mg : Str → Option Value} {base : Heap} {k : Nat}
theorem fnG_of {f : Addr} {x q : Str} {st : Stmt} {fd : FuncData} {N ps : List Str} {sp : Sp} (F : Fun K x q st f fd) (S : FnScope N ps (defScope st)) (len : ∀ vs H Q E, sp vs H Q E → vs.length = ps.length)
    (hbody : ∀ (cdv : Value) (A : Around) (outer : List Env) (s : Shared) (H : Hp) (vs : List V) (Q : VK) (E : XK), A.guards = some [] → Room k (A.deeper (envOfC q (defScope st) s.heap.objs.size f cdv)) → sp vs H Q E →
      ∃ t, PSs (cxOf CX0 P w K mg base N q (defScope st) f cdv A outer s H E).nox (defBody st) t ∧ t { nx := fun _ H' => Q .non H', rt := Q } (start N vs) H) : FnG P w K mg base (k + 1) f fd ps sp := by
  obtain ⟨oc, od, kV, doc, pm, an, cdv, ct, osl, rfl, lk, hcd⟩ := F.ex
  refine ⟨len, ?_⟩
  intro A outer s H args us vs Q E hg hr e0 hb r hsp
  have keep : ∀ b o, base.get? b = some o → s.heap.get? b = some o := fun b o e => (e0.bs b o e).1
  have KX : K.In s.heap := e0.mod.kin.keeps keep
  have par : ∀ y ∈ ps.zip us, (defScope st).names.lookup y.1 = some .local ∨ ((defScope st).names.lookup y.1 = some .cell ∧ ((cellsFrom (s.heap.objs.size + 1) (defScope st).names []).lookup y.1).isSome = true) := by
    rintro ⟨n, v⟩ hy
    cases S.par n (List.of_mem_zip hy).1 with
    | inl z => exact .inl z
    | inr z => exact .inr ⟨z, PySem.W.cellsFrom_some _ _ _ (.inl z)⟩
  refine codeAny_call_function hr.depth (KX _ _ lk) rfl S.co S.gen rfl (PySem.W.codeRec_of KX hcd) ?_
  refine hb _ _ _ _ ?_
  refine wpAny_newFunctionEnv_cells S.kind par ?_
  rintro env rfl s1 x
  refine ⟨(e0.mod.nolimit.keeps keep).keeps x.toInCall.keep, ?_⟩
  refine codeAny_func ?_
  obtain ⟨t, ht, hq⟩ := hbody cdv A outer s H vs Q E hg (hr.deeper _) hsp
  have I : Inv (cxOf CX0 P w K mg base N q (defScope st) f cdv A outer s H E) [] (start N vs) H s1 := inv_start S hr.hd e0 (len _ _ _ _ hsp) r x
  refine wpAny_mono (ht.nox.run [] s1 (start N vs) H _ I hq) ?_ (fun _ _ z => z)
  intro fl s' hs
  match fl, hs with
  | .ret u, ⟨v, σ', H', J, rv, z⟩ => exact ⟨v, H', J.os, J.bare, J.base, J.hok, rv, z⟩
  | .next, ⟨σ', H', J, z⟩ => exact ⟨.non, H', J.os, J.bare, J.base, J.hok, rfl, z⟩
  | .brk, ⟨_, _, _, z⟩ => exact z.elim
  | .cont, ⟨_, _, _, z⟩ => exact z.elim
end
section
variable {P : Program} {w : World} {K : PySem.W.Frag} {mg mb : Str → Option Value} {k : Nat} {fa a : Addr} {fd : FuncData} {x : Str} {sp : Sp} {s₁ : Shared} {vs : List Value} {ns : List Int}
/-- the call of a law from an abstract heap that knows of the script at most -/
theorem callG_core {H : Hp} (KX : K.In s₁.heap) (hns : s₁.heap.Ns mainGlobals mg) (hb : s₁.heap.Ns builtinsNs mb) (hbb : ∀ x : Str, x ≠ "__name__" → mb x = bootBuiltins x) (hlim : s₁.heap.NoLimit) (hg : s₁.gens = #[])
    (isL : s₁.heap.get? a = some { cls := .type "list", data := .seq vs.toArray }) (hr : Room k callerA)
    (F : ∀ base : Heap, K.In base → base.Ns mainGlobals mg → FnG P w K mg base k fa fd [x] sp) (hbind : ∀ (s : Shared) (u : Value), BindsTo s fd ⟨[u], []⟩ [(x, u)])
    (hsp : sp [.ref a] H (fun v _ => v = .bl true) fun _ _ _ => False) (hO : Only H) (hok : HOk P w H s₁.heap) (hA : ∀ b, H b ≠ none → b = a) (hK : H a ≠ none → K.lookup a = none) :
    codeAny (model P w) callerA (.call (.ref fa) ⟨[.ref a], []⟩) (fun r s' => r = .ok (.ret (.bool true)) ∧ OldK s₁.heap s'.heap ∧ s'.os = s₁.os ∧ AllBare s'.gens) s₁ := by
  have free : ∀ b, b ≠ a → H b = none := fun b hne => by
    cases z : H b with
    | none => rfl
    | some u => exact absurd (hA b (by rw [z]; simp)) hne
  have stays : ∀ {b : Addr} {m : Str → Option Value}, s₁.heap.Ns b m → (hidT s₁.heap H).Ns b m := by
    rintro b m ⟨o, es, ep, e, d, rest⟩
    refine ⟨o, es, ep, hidT_get e (free b fun z => ?_), d, rest⟩
    rw [z, isL] at e
    cases e
    exact Data.noConfusion d
  have inB : K.In (hidT s₁.heap H) := by
    intro b o e
    refine hidT_get (KX b o e) ?_
    cases z : H b with
    | none => rfl
    | some u =>
      have nz : H b ≠ none := by rw [z]; simp
      have ea := hA b nz
      rw [ea] at e nz
      rw [hK nz] at e
      cases e
  obtain ⟨mc, lim1, lim2⟩ := hlim
  have md : Mod K mg (hidT s₁.heap H) := ⟨inB, stays hns, ⟨mb, stays hb, hbb⟩, ⟨mc, stays lim1, lim2⟩⟩
  have env : Env0 P w K mg (hidT s₁.heap H) callerA [] s₁ H := by
    refine ⟨rfl, md, fun b o e => of_hidT e, Nat.le_of_eq (hidT_size _ _), trivial, ?_, hok, .of_eq hg⟩
    intro b hb
    exact nomatch (show b ∈ ([] : List Addr) from hb)
  have go := (F _ inB (stays hns)).run callerA [] s₁ H ⟨[.ref a], []⟩ [.ref a] [.ref a] _ _ rfl hr env (hbind s₁ (.ref a)) (.cons rfl .nil) hsp
  refine codeAny_mono go ?_
  intro r s' h
  match r, h with
  | .ok (.ret u), ⟨v, H', os, bare, un, hok', ru, (ev : v = .bl true)⟩ =>
    subst ev
    cases (show u = Value.bool true from ru)
    refine ⟨rfl, OldK.of_keep ?_, os, bare⟩
    intro b o e
    rcases hO b with z | ⟨ob, xs, z⟩
    · exact un.keep b o e z (fun w => nomatch (show b ∈ ([] : List Addr) from w)) (by simp)
    · have e1 := (hok b _ z).1
      have e2 := (hok' b _ (un.frzs b ob _ z)).1
      rw [e] at e1
      cases e1
      exact e2
theorem callG {n : Nat} (KX : K.In s₁.heap) (hns : s₁.heap.Ns mainGlobals mg) (hb : s₁.heap.Ns builtinsNs mb) (hbb : ∀ x : Str, x ≠ "__name__" → mb x = bootBuiltins x) (hlim : s₁.heap.NoLimit) (hg : s₁.gens = #[])
    (isL : s₁.heap.get? a = some { cls := .type "list", data := .seq vs.toArray }) (hi : IntsAre vs ns) (hl : ns.length ≤ sizeLine) (hr : Room k callerA)
    (F : ∀ base : Heap, K.In base → base.Ns mainGlobals mg → FnG P w K mg base k fa fd [x] sp) (hbind : ∀ (s : Shared) (u : Value), BindsTo s fd ⟨[u], []⟩ [(x, u)])
    (hsp : ∀ H : Hp, Only H → SqL K H a (ns.map V.int) → sp [.ref a] H (fun v _ => v = .bl true) fun _ _ _ => False) :
    codeAny (model P w) callerA (.call (.ref fa) ⟨[.ref a], []⟩) (fun r s' => r = .ok (.ret (.bool true)) ∧ OldK s₁.heap s'.heap ∧ s'.os = s₁.os ∧ AllBare s'.gens) s₁ := by
  have rv := vals_ints hi
  have lenV := hi.length
  cases own : K.lookup a with
  | some o =>
    have e := KX a o own
    rw [isL] at e
    cases e
    have hO : Only (fun _ => none) := fun _ => .inl rfl
    have hS : SqL K (fun _ => none) a (ns.map V.int) := .inr ⟨_, vs.toArray, _, own, rfl, rfl, rfl, by rw [List.size_toArray, lenV]; exact hl, by simpa using rv⟩
    exact callG_core KX hns hb hbb hlim hg isL hr F hbind (hsp _ hO hS) hO (fun b u z => by cases z) (fun b z => absurd rfl z) (fun z => absurd rfl z)
  | none =>
    let H0 : Hp := fun b => if b = a then some (.frz { cls := .type "list", data := .seq vs.toArray } (.lst (ns.map V.int))) else none
    have at_a : H0 a = some (.frz { cls := .type "list", data := .seq vs.toArray } (.lst (ns.map V.int))) := if_pos rfl
    have off : ∀ b, b ≠ a → H0 b = none := fun b z => if_neg z
    have hO : Only H0 := fun b => by
      by_cases z : b = a
      · rw [z]; exact .inr ⟨_, _, at_a⟩
      · exact .inl (off b z)
    have hS : SqL K H0 a (ns.map V.int) := .inl (.inr ⟨{ cls := .type "list", data := .seq vs.toArray }, at_a⟩)
    refine callG_core KX hns hb hbb hlim hg isL hr F hbind (hsp _ hO hS) hO ?_ ?_ (fun _ => own)
    · intro b u hu
      by_cases z : b = a
      · subst z
        rw [at_a] at hu
        cases hu
        exact ⟨isL, by rw [List.length_map]; exact hl, vs, _, rv, isL⟩
      · rw [off b z] at hu
        cases hu
    · intro b hne
      by_cases z : b = a
      · exact z
      · exact absurd (off b z) hne
end
theorem walkG {l : PySem.W.OpenLaw} {n k : Nat} {q : Program} {loose : List Str} {XP : (Str → Option Value) → Heap → Prop} {YP : World → Heap → Prop} {d : DefRec} {x : Str}
    (hn : l.most = some n) (hn2 : n ≤ sizeLine) (hdf : d.params.defaults = []) (hr : Room k callerA)
    (F : ∀ (w : World) (mg : Str → Option Value) (fa : Addr) (h : Heap), YP w h → h.Ns mainGlobals mg → mg d.name = some (.ref fa) →
      ∃ (K : PySem.W.Frag) (fd : FuncData) (sp : Sp), K.In h ∧ (∀ (s : Shared) (u : Value), BindsTo s fd ⟨[u], []⟩ [(x, u)]) ∧
        (∀ (H : Hp) (a : Addr) (ns : List Int), ns.length ≤ n → SqL K H a (ns.map V.int) → sp [.ref a] H (fun v _ => v = .bl true) fun _ _ _ => False) ∧
        ∀ base : Heap, K.In base → base.Ns mainGlobals mg → FnG l.prog w K mg base k fa fd [x] sp) :
    PySem.W.WalkO q loose XP YP l.row.toRowW d [] (fun f vs => PySem.call f vs) := by
  refine Att.attach_call hn hdf ?_
  intro w s₀ s₁ mg mb fa o pm cd doc a vs ns G Y ho hd hcd hmg hobj hints hlen hg
  obtain ⟨K, fd, sp, KX, hb, hsp, hF⟩ := F w mg fa _ Y G.T.g hmg
  exact callG (n := n) KX G.T.g G.T.b G.T.builtins G.T.nolimit hg hobj hints (Nat.le_trans hlen hn2) hr hF hb (fun H _ hS => hsp H a ns hlen hS)
end L3

/-! values as plain data, over the tracked heap -/
namespace L4
open PySem L2
inductive D where
  | non | bl (b : Bool) | int (i : Int) | str (x : Str) | tup (ds : List D) | lst (ds : List D) | scr (ds : List D) | dic (ks vs : List D) | obj (c : Str) (ns : List Str) (vs : List D) | ref (n : Nat) | glo (x : Str) | ty (n : String)
instance : Inhabited D := ⟨.non⟩
inductive O where
  | lst (ds : List D) | dic (ks vs : List D) | ins (c : Str) (ns : List Str) (vs : List D)
abbrev M := List O
structure G where
  P : Program
  w : World
  K : PySem.W.Frag
abbrev gx (X : Cx) : G := ⟨X.prog, X.w, X.K⟩
mutual
def nk : D → Option NestedKey
  | .non => some .none
  | .bl b => some (.num (if b then 1 else 0))
  | .int i => some (.num i)
  | .str x => some (.text x)
  | .tup ds => (nks ds).map .tup
  | .lst _ => none
  | .scr _ => none
  | .dic _ _ => none
  | .obj _ _ _ => none
  | .ref _ => none
  | .glo _ => none
  | .ty _ => none
def nks : List D → Option (List NestedKey)
  | [] => some []
  | d :: ds => match nk d, nks ds with
    | some k, some ks => some (k :: ks)
    | _, _ => none
end
/-- a tuple that is a key -/
def nkT : D → Option NestedKey
  | .tup ds => match nks ds with
    | some ks => if (NestedKey.tup ks).depth ≤ 8 then some (.tup ks) else none
    | none => none
  | _ => none
/-- a dict with nested keys, by its own object -/
def dnO (g : G) (a : Addr) (kvs : List (NestedKey × Addr × V)) : HO := .ext fun h => kvs.length ≤ sizeLine ∧ (a == sysModules) = false ∧ ∃ xs : List (NestedKey × Addr × Value),
  Paired (fun (p : NestedKey × Addr × V) (q : NestedKey × Addr × Value) => p.1 = q.1 ∧ p.2.1 = q.2.1 ∧ RelV p.2.2 q.2.2) kvs xs ∧
  ∃ o es ep, h.get? a = some o ∧ o.ExactDict ∧ o.data = .dict es ep ∧ es.toList = xs.map (entryOfKey (nestedKind g.P g.w)) ∧ (xs.map (·.1)).Nodup
/-- what is tracked, and what may not be held as plain data -/
structure Tk where
  μ : List Addr
  ν : List Addr
  sub : ∀ a ∈ μ, a ∈ ν
/-- a read list, tuple that is not tracked: in the heap, or of the top -/
def FL (T : Tk) (H : Hp) (a : Addr) (vs : List V) : Prop := a ∉ T.ν ∧ H a = some (.lst vs)
/-- the script -/
def FS (K : PySem.W.Frag) (T : Tk) (H : Hp) (a : Addr) (vs : List V) : Prop := (a ∉ T.ν ∧ ∃ o, H a = some (.frz o (.lst vs))) ∨ SqL K (fun _ => none) a vs
def FT (K : PySem.W.Frag) (T : Tk) (H : Hp) (a : Addr) (vs : List V) : Prop := (a ∉ T.ν ∧ H a = some (.tup vs)) ∨ SqT K (fun _ => none) a vs
mutual
inductive Rep (g : G) (T : Tk) (H : Hp) : D → V → Prop
  | non : Rep g T H .non .non
  | bl (b) : Rep g T H (.bl b) (.bl b)
  | int (i) : Rep g T H (.int i) (.int i)
  | str (x) : Rep g T H (.str x) (.str x)
  | tup {a vs ds} : FT g.K T H a vs → RepL g T H ds vs → Rep g T H (.tup ds) (.ref a)
  | lst {a vs ds} : FL T H a vs → RepL g T H ds vs → Rep g T H (.lst ds) (.ref a)
  | scr {a vs ds} : FS g.K T H a vs → RepL g T H ds vs → Rep g T H (.scr ds) (.ref a)
  | dicF {a kvs ks vs} : a ∉ T.ν → Rd H a (.dK kvs) → RepL g T H ks (kvs.map fun p => kV p.1) → RepL g T H vs (kvs.map Prod.snd) → Rep g T H (.dic ks vs) (.ref a)
  | dicN {a kvs ks vs} : a ∉ T.ν → Rd H a (dnO g a kvs) → (ks.map nkT = kvs.map (fun p => some p.1) ∧ kvs ≠ []) → RepL g T H ks (kvs.map fun p => .ref p.2.1) → RepL g T H vs (kvs.map fun p => p.2.2) → Rep g T H (.dic ks vs) (.ref a)
  | obj {a dx fs c ns vs} : a ∉ T.ν → H a = some (.ins (He.ga g.K c) dx fs) → fs.map Prod.fst = ns → RepL g T H vs (fs.map Prod.snd) → Rep g T H (.obj c ns vs) (.ref a)
  | ref {n a} : T.μ[n]? = some a → Rep g T H (.ref n) (.ref a)
  | glo (x) : Rep g T H (.glo x) (.ref (He.ga g.K x))
  | ty (n) : Rep g T H (.ty n) (.ty n)
inductive RepL (g : G) (T : Tk) (H : Hp) : List D → List V → Prop
  | nil : RepL g T H [] []
  | cons {d v ds vs} : Rep g T H d v → RepL g T H ds vs → RepL g T H (d :: ds) (v :: vs)
end
/-- what came later: what isn't tracked stays, what is newly tracked was new -/
structure Le (T : Tk) (H : Hp) (T' : Tk) (H' : Hp) : Prop where
  pre : T.μ <+: T'.μ
  keep : ∀ a u, H a = some u → a ∉ T.μ → H' a = some u
  new : ∀ a ∈ T'.ν, a ∉ T.ν → H a = none
  newμ : ∀ a ∈ T'.μ, a ∉ T.μ → H a = none
  up : ∀ a ∈ T.ν, a ∈ T'.ν
section
variable {g : G} {T T1 T2 : Tk} {H H1 H2 : Hp}
theorem Tk.out {a : Addr} (h : a ∉ T.ν) : a ∉ T.μ := fun z => h (T.sub a z)
theorem Le.refl : Le T H T H := ⟨List.prefix_rfl, fun _ _ h _ => h, fun _ h n => absurd h n, fun _ h n => absurd h n, fun _ h => h⟩
theorem Le.out (l : Le T H T1 H1) {a : Addr} {u : HO} (h : H a = some u) (n : a ∉ T.ν) : a ∉ T1.ν := fun z => by rw [l.new a z n] at h; cases h
theorem Le.outμ (l : Le T H T1 H1) {a : Addr} {u : HO} (h : H a = some u) (n : a ∉ T.ν) : a ∉ T1.μ := Tk.out (l.out h n)
theorem Le.rd (l : Le T H T1 H1) {a : Addr} {u : HO} (h : Rd H a u) (n : a ∉ T.ν) : Rd H1 a u ∧ a ∉ T1.ν := by
  rcases h with h | ⟨o, h⟩
  · exact ⟨.inl (l.keep _ _ h (Tk.out n)), l.out h n⟩
  · exact ⟨.inr ⟨o, l.keep _ _ h (Tk.out n)⟩, l.out h n⟩
theorem Le.get (l : Le T H T1 H1) {n : Nat} {a : Addr} (h : T.μ[n]? = some a) : T1.μ[n]? = some a := by
  obtain ⟨t, e⟩ := l.pre
  rw [← e, List.getElem?_append_left (List.getElem?_eq_some_iff.mp h).1]
  exact h
theorem FL.le {a : Addr} {vs : List V} (l : Le T H T1 H1) (h : FL T H a vs) : FL T1 H1 a vs := ⟨l.out h.2 h.1, l.keep _ _ h.2 (Tk.out h.1)⟩
theorem FS.le {K : PySem.W.Frag} {a : Addr} {vs : List V} (l : Le T H T1 H1) (h : FS K T H a vs) : FS K T1 H1 a vs := by
  rcases h with ⟨n, o, h⟩ | h
  · exact .inl ⟨l.out h n, o, l.keep _ _ h (Tk.out n)⟩
  · exact .inr h
theorem FT.le {K : PySem.W.Frag} {a : Addr} {vs : List V} (l : Le T H T1 H1) (h : FT K T H a vs) : FT K T1 H1 a vs := by
  rcases h with ⟨n, h⟩ | h
  · exact .inl ⟨l.out h n, l.keep _ _ h (Tk.out n)⟩
  · exact .inr h
theorem FL.sq {K : PySem.W.Frag} {a : Addr} {vs : List V} (h : FL T H a vs) : SqL K H a vs := .of h.2
theorem FS.sq {K : PySem.W.Frag} {a : Addr} {vs : List V} (h : FS K T H a vs) : SqL K H a vs := by
  rcases h with ⟨n, o, h⟩ | h | h
  · exact .inl (.inr ⟨o, h⟩)
  · rcases h with h | ⟨_, h⟩ <;> cases h
  · exact .inr h
theorem FT.sq {K : PySem.W.Frag} {a : Addr} {vs : List V} (h : FT K T H a vs) : SqT K H a vs := by
  rcases h with ⟨n, h⟩ | h | h
  · exact .of h
  · rcases h with h | ⟨_, h⟩ <;> cases h
  · exact .inr h
mutual
theorem Rep.le (l : Le T H T1 H1) : ∀ {d : D} {v : V}, Rep g T H d v → Rep g T1 H1 d v
  | _, _, .non => .non
  | _, _, .bl b => .bl b
  | _, _, .int i => .int i
  | _, _, .str x => .str x
  | _, _, .tup f r => .tup (f.le l) (RepL.le l r)
  | _, _, .lst f r => .lst (f.le l) (RepL.le l r)
  | _, _, .scr f r => .scr (f.le l) (RepL.le l r)
  | _, _, .dicF n h r q => .dicF (l.rd h n).2 (l.rd h n).1 (RepL.le l r) (RepL.le l q)
  | _, _, .dicN n h e r q => .dicN (l.rd h n).2 (l.rd h n).1 e (RepL.le l r) (RepL.le l q)
  | _, _, .obj n h e r => .obj (l.out h n) (l.keep _ _ h (Tk.out n)) e (RepL.le l r)
  | _, _, .ref h => .ref (l.get h)
  | _, _, .glo x => .glo x
  | _, _, .ty n => .ty n
theorem RepL.le (l : Le T H T1 H1) : ∀ {ds : List D} {vs : List V}, RepL g T H ds vs → RepL g T1 H1 ds vs
  | _, _, .nil => .nil
  | _, _, .cons r s => .cons (Rep.le l r) (RepL.le l s)
end
theorem RepL.length : ∀ {ds : List D} {vs : List V}, RepL g T H ds vs → ds.length = vs.length
  | _, _, .nil => rfl
  | _, _, .cons _ s => by simp [RepL.length s]
theorem RepL.get : ∀ {ds : List D} {vs : List V} {i : Nat} {d : D}, RepL g T H ds vs → ds[i]? = some d → ∃ v, vs[i]? = some v ∧ Rep g T H d v
  | _, _, 0, _, .cons r _, h => by cases h; exact ⟨_, rfl, r⟩
  | _, _, i + 1, _, .cons _ s, h => by obtain ⟨v, e, q⟩ := RepL.get (i := i) s (by simpa using h); exact ⟨v, by simpa using e, q⟩
  | _, _, 0, _, .nil, h => by cases h
  | _, _, i + 1, _, .nil, h => by cases h
theorem RepL.back : ∀ {ds : List D} {vs : List V} {i : Nat} {v : V}, RepL g T H ds vs → vs[i]? = some v → ∃ d, ds[i]? = some d ∧ Rep g T H d v
  | _, _, 0, _, .cons r _, h => by cases h; exact ⟨_, rfl, r⟩
  | _, _, i + 1, _, .cons _ s, h => by obtain ⟨v, e, q⟩ := RepL.back (i := i) s (by simpa using h); exact ⟨v, by simpa using e, q⟩
  | _, _, 0, _, .nil, h => by cases h
  | _, _, i + 1, _, .nil, h => by cases h
theorem RepL.append : ∀ {ds es : List D} {vs us : List V}, RepL g T H ds vs → RepL g T H es us → RepL g T H (ds ++ es) (vs ++ us)
  | _, _, _, _, .nil, h => h
  | _, _, _, _, .cons r s, h => .cons r (RepL.append s h)
theorem RepL.of {ds : List D} {vs : List V} (hl : ds.length = vs.length) (h : ∀ (i : Nat) d v, ds[i]? = some d → vs[i]? = some v → Rep g T H d v) : RepL g T H ds vs := by
  induction ds generalizing vs with
  | nil => cases vs with
    | nil => exact .nil
    | cons _ _ => cases hl
  | cons d ds ih => cases vs with
    | nil => cases hl
    | cons v vs => exact .cons (h 0 d v rfl rfl) (ih (by simpa using hl) fun i e u p q => h (i + 1) e u (by simpa using p) (by simpa using q))
/-- a tracked object -/
inductive RepO (g : G) (T : Tk) (H : Hp) (a : Addr) : O → Prop
  | lst {ds vs} : H a = some (.lst vs) → RepL g T H ds vs → RepO g T H a (.lst ds)
  | dicF {kvs ks vs} : H a = some (.dK kvs) → RepL g T H ks (kvs.map fun p => kV p.1) → RepL g T H vs (kvs.map Prod.snd) → RepO g T H a (.dic ks vs)
  | dicN {kvs ks vs} : H a = some (dnO g a kvs) → (ks.map nkT = kvs.map (fun p => some p.1) ∧ kvs ≠ []) → RepL g T H ks (kvs.map fun p => .ref p.2.1) → RepL g T H vs (kvs.map fun p => p.2.2) → RepO g T H a (.dic ks vs)
  | ins {dx fs c ns vs} : H a = some (.ins (He.ga g.K c) dx fs) → fs.map Prod.fst = ns → RepL g T H vs (fs.map Prod.snd) → RepO g T H a (.ins c ns vs)
/-- an object that may change -/
def Mu : HO → Prop
  | .lst _ => True
  | .dK _ => True
  | .ext _ => True
  | .ins _ _ _ => True
  | _ => False
structure RepH (g : G) (T : Tk) (H : Hp) (m : M) : Prop where
  len : T.μ.length = m.length
  nd : T.μ.Nodup
  has : ∀ a ∈ T.ν, ∃ u, H a = some u ∧ Mu u
  at_ : ∀ (n : Nat) a o, T.μ[n]? = some a → m[n]? = some o → RepO g T H a o
theorem RepO.le {a : Addr} {o : O} (l : Le T H T1 H1) (e : H1 a = H a) (r : RepO g T H a o) : RepO g T1 H1 a o := by
  cases r with
  | lst h r => exact .lst (e.trans h) (r.le l)
  | dicF h r q => exact .dicF (e.trans h) (r.le l) (q.le l)
  | dicN h k r q => exact .dicN (e.trans h) k (r.le l) (q.le l)
  | ins h k r => exact .ins (e.trans h) k (r.le l)
theorem RepO.has {a : Addr} {o : O} (r : RepO g T H a o) : ∃ u, H a = some u ∧ Mu u := by
  cases r with
  | lst h _ => exact ⟨_, h, trivial⟩
  | dicF h _ _ => exact ⟨_, h, trivial⟩
  | dicN h _ _ _ => exact ⟨_, h, trivial⟩
  | ins h _ _ => exact ⟨_, h, trivial⟩
variable {m : M}
theorem RepH.nope (r : RepH g T H m) {p : Addr} (h : H p = none) : p ∉ T.ν := fun z => by obtain ⟨u, e, _⟩ := r.has p z; rw [h] at e; cases e
/-- what isn't tracked may change as long as what there is stays -/
theorem RepH.grow (r : RepH g T H m) (k : ∀ a u, H a = some u → H1 a = some u) : Le T H T H1 ∧ RepH g T H1 m := by
  have l : Le T H T H1 := ⟨List.prefix_rfl, fun a u e _ => k a u e, fun a h n => absurd h n, fun a h n => absurd h n, fun _ h => h⟩
  refine ⟨l, r.len, r.nd, fun a h => ?_, fun n a o h1 h2 => (r.at_ n a o h1 h2).le l ?_⟩
  · obtain ⟨u, e, z⟩ := r.has a h
    exact ⟨u, k a u e, z⟩
  · obtain ⟨v, e, _⟩ := (r.at_ n a o h1 h2).has
    rw [e, k a v e]
/-- a new object that isn't tracked -/
theorem RepH.fresh (r : RepH g T H m) {p : Addr} {u : HO} (h : H p = none) : Le T H T (upd H p u) ∧ RepH g T (upd H p u) m :=
  r.grow fun a v e => by rw [upd_ne (ne_of_none e h)]; exact e
def Tk.push (T : Tk) (p : Addr) : Tk := ⟨T.μ ++ [p], T.ν ++ [p], fun a h => by
  rcases List.mem_append.mp h with z | z
  · exact List.mem_append_left _ (T.sub a z)
  · exact List.mem_append_right _ z⟩
/-- a new object that is tracked -/
theorem RepH.push (r : RepH g T H m) {p : Addr} {u : HO} {o : O} (h : H p = none) (q : Le T H (T.push p) (upd H p u) → RepO g (T.push p) (upd H p u) p o) : Le T H (T.push p) (upd H p u) ∧ RepH g (T.push p) (upd H p u) (m ++ [o]) := by
  have l : Le T H (T.push p) (upd H p u) := ⟨List.prefix_append _ _, fun a v e _ => by rw [upd_ne (ne_of_none e h)]; exact e, fun a ha n => by
    rcases List.mem_append.mp ha with z | z
    · exact absurd z n
    · rw [List.mem_singleton.mp z]; exact h, fun a ha n => by
    rcases List.mem_append.mp ha with z | z
    · exact absurd z n
    · rw [List.mem_singleton.mp z]; exact h, fun a ha => List.mem_append_left _ ha⟩
  have np : p ∉ T.μ := Tk.out (r.nope h)
  refine ⟨l, by simp [Tk.push, r.len], List.nodup_append.mpr ⟨r.nd, by simp, fun a ha b hb => by rw [List.mem_singleton.mp hb]; rintro rfl; exact np ha⟩, fun a ha => ?_, fun n a o' h1 h2 => ?_⟩
  · rcases List.mem_append.mp ha with z | z
    · obtain ⟨v, e, q⟩ := r.has a z
      exact ⟨v, by rw [upd_ne (ne_of_none e h)]; exact e, q⟩
    · rw [List.mem_singleton.mp z]
      exact (q l).has
  by_cases hn : n < T.μ.length
  · change (T.μ ++ [p])[n]? = _ at h1
    rw [List.getElem?_append_left hn] at h1
    rw [List.getElem?_append_left (by rw [← r.len]; exact hn)] at h2
    refine (r.at_ n a o' h1 h2).le l ?_
    obtain ⟨v, e, _⟩ := (r.at_ n a o' h1 h2).has
    rw [upd_ne (ne_of_none e h)]
  · change (T.μ ++ [p])[n]? = _ at h1
    rw [List.getElem?_append_right (by omega)] at h1
    rw [List.getElem?_append_right (by rw [← r.len]; omega), ← r.len] at h2
    generalize n - T.μ.length = k at h1 h2
    cases k with
    | zero => cases h1; cases h2; exact q l
    | succ k => cases h1
/-- a tracked object is changed -/
theorem RepH.put (r : RepH g T H m) {n : Nat} {a : Addr} {u : HO} {o : O} (h : T.μ[n]? = some a) (q : Le T H T (upd H a u) → RepO g T (upd H a u) a o) : Le T H T (upd H a u) ∧ RepH g T (upd H a u) (m.set n o) := by
  have ha : a ∈ T.μ := List.mem_of_getElem? h
  have l : Le T H T (upd H a u) := ⟨List.prefix_rfl, fun b v e nb => by rw [upd_ne (show b ≠ a by rintro rfl; exact nb ha)]; exact e, fun b h n => absurd h n, fun b h n => absurd h n, fun _ h => h⟩
  refine ⟨l, by simp [r.len], r.nd, fun b hb => ?_, fun k b o' h1 h2 => ?_⟩
  · by_cases z : b = a
    · rw [z]
      exact (q l).has
    · obtain ⟨v, e, w⟩ := r.has b hb
      exact ⟨v, by rw [upd_ne z]; exact e, w⟩
  by_cases hk : n = k
  · subst hk
    rw [h] at h1
    cases h1
    have hl : n < m.length := by rw [← r.len]; exact (List.getElem?_eq_some_iff.mp h).1
    rw [List.getElem?_set_self hl] at h2
    cases h2
    exact q l
  · rw [List.getElem?_set_ne hk] at h2
    refine (r.at_ k b o' h1 h2).le l ?_
    have : b ≠ a := by
      rintro rfl
      exact hk ((List.getElem?_inj (List.getElem?_eq_some_iff.mp h).1 r.nd).mp (h.trans h1.symm))
    rw [upd_ne this]
theorem Le.trans (l : Le T H T1 H1) (m : Le T1 H1 T2 H2) : Le T H T2 H2 := by
  have key : ∀ a u, H a = some u → a ∉ T.μ → a ∉ T1.μ := fun a u h n z => by rw [l.newμ a z n] at h; cases h
  refine ⟨l.pre.trans m.pre, fun a u h n => m.keep a u (l.keep a u h n) (key a u h n), fun a h n => ?_, fun a h n => ?_, fun a h => m.up a (l.up a h)⟩
  · cases e : H a with
    | none => rfl
    | some u =>
      have := m.new a h (l.out e n)
      rw [l.keep a u e (Tk.out n)] at this
      cases this
  · cases e : H a with
    | none => rfl
    | some u =>
      have := m.newμ a h (key a u e n)
      rw [l.keep a u e n] at this
      cases this
end
end L4

/-! readings as functions of plain data -/
namespace L4
open PySem L2
abbrev Ss := List (Option D)
abbrev EF := Ss → M → Option (D × M)
abbrev TF := Ss → M → Option (Bool × M)
abbrev AF := Ss → M → Option (List D × M)
abbrev GF := D → Ss → M → Option (Ss × M)
inductive Fl where
  | nx (ρ : Ss) | rt (d : D) | bk (ρ : Ss) | ct (ρ : Ss)
abbrev SF := Ss → M → Option (Fl × M)
structure RepS (g : G) (T : Tk) (H : Hp) (σ : L2.St) (ρ : Ss) : Prop where
  len : σ.length = ρ.length
  at_ : ∀ (i : Nat) d, ρ[i]? = some (some d) → ∃ v, σ[i]? = some (some v) ∧ Rep g T H d v
section
variable {g : G} {T T1 : Tk} {H H1 : Hp} {σ : L2.St} {ρ : Ss}
theorem RepS.le (l : Le T H T1 H1) (r : RepS g T H σ ρ) : RepS g T1 H1 σ ρ := ⟨r.len, fun i d h => by obtain ⟨v, e, q⟩ := r.at_ i d h; exact ⟨v, e, q.le l⟩⟩
theorem RepS.set {i : Nat} {d : D} {v : V} (r : RepS g T H σ ρ) (q : Rep g T H d v) : RepS g T H (σ.set i (some v)) (ρ.set i (some d)) := by
  refine ⟨by simp [r.len], fun j e h => ?_⟩
  by_cases hj : i = j
  · subst hj
    have hl : i < ρ.length := by
      have := (List.getElem?_eq_some_iff.mp h).1
      simpa using this
    rw [List.getElem?_set_self hl] at h
    cases h
    exact ⟨v, by rw [List.getElem?_set_self (by rw [r.len]; exact hl)], q⟩
  · rw [List.getElem?_set_ne hj] at h
    obtain ⟨u, e1, q1⟩ := r.at_ j e h
    exact ⟨u, by rw [List.getElem?_set_ne hj]; exact e1, q1⟩
end
/-- what follows a value -/
def KV (g : G) (T : Tk) (H : Hp) (m : M) (d : D) (Q : VK) : Prop := ∀ v T' H', Le T H T' H' → RepH g T' H' m → Rep g T' H' d v → Q v H'
def KB (g : G) (T : Tk) (H : Hp) (m : M) (b : Bool) (Q : Bool → Hp → Prop) : Prop := ∀ T' H', Le T H T' H' → RepH g T' H' m → Q b H'
def KA (g : G) (T : Tk) (H : Hp) (m : M) (ds : List D) (Q : List V → Hp → Prop) : Prop := ∀ vs T' H', Le T H T' H' → RepH g T' H' m → RepL g T' H' ds vs → Q vs H'
def KS (g : G) (T : Tk) (H : Hp) (m : M) (ρ : Ss) (Q : L2.St → Hp → Prop) : Prop := ∀ σ T' H', Le T H T' H' → RepH g T' H' m → RepS g T' H' σ ρ → Q σ H'
def KF (g : G) (T : Tk) (H : Hp) (m : M) (r : Fl) (D : Ends) : Prop := match r with
  | .nx ρ => KS g T H m ρ D.nx
  | .rt d => KV g T H m d D.rt
  | .bk ρ => KS g T H m ρ D.bk
  | .ct ρ => KS g T H m ρ D.ct
section
variable {g : G} {T T1 : Tk} {H H1 : Hp} {m : M}
theorem KV.le {d : D} {Q : VK} (l : Le T H T1 H1) (k : KV g T H m d Q) : KV g T1 H1 m d Q := fun v T' H' l' => k v T' H' (l.trans l')
theorem KB.le {d : Bool} {Q : Bool → Hp → Prop} (l : Le T H T1 H1) (k : KB g T H m d Q) : KB g T1 H1 m d Q := fun T' H' l' => k T' H' (l.trans l')
theorem KA.le {d : List D} {Q : List V → Hp → Prop} (l : Le T H T1 H1) (k : KA g T H m d Q) : KA g T1 H1 m d Q := fun v T' H' l' => k v T' H' (l.trans l')
theorem KS.le {ρ : Ss} {Q : L2.St → Hp → Prop} (l : Le T H T1 H1) (k : KS g T H m ρ Q) : KS g T1 H1 m ρ Q := fun v T' H' l' => k v T' H' (l.trans l')
theorem KF.le {r : Fl} {D : Ends} (l : Le T H T1 H1) (k : KF g T H m r D) : KF g T1 H1 m r D := by
  cases r with
  | nx ρ => exact KS.le l k
  | rt d => exact KV.le l k
  | bk ρ => exact KS.le l k
  | ct ρ => exact KS.le l k
end
def RfE (g : G) (t : TE) (f : EF) : Prop := ∀ T σ H ρ m d m', RepH g T H m → RepS g T H σ ρ → f ρ m = some (d, m') → ∀ Q : VK, KV g T H m' d Q → t σ H Q
def RfT (g : G) (t : TT) (f : TF) : Prop := ∀ T σ H ρ m b m', RepH g T H m → RepS g T H σ ρ → f ρ m = some (b, m') → ∀ Q, KB g T H m' b Q → t σ H Q
def RfA (g : G) (t : TA) (f : AF) : Prop := ∀ T σ H ρ m ds m', RepH g T H m → RepS g T H σ ρ → f ρ m = some (ds, m') → ∀ Q, KA g T H m' ds Q → t σ H Q
def RfG (g : G) (t : TG) (f : GF) : Prop := ∀ T σ H ρ m d v ρ' m', RepH g T H m → RepS g T H σ ρ → Rep g T H d v → f d ρ m = some (ρ', m') → ∀ Q, KS g T H m' ρ' Q → t v σ H Q
def RfS (g : G) (t : TS) (f : SF) : Prop := ∀ T σ H ρ m r m', RepH g T H m → RepS g T H σ ρ → f ρ m = some (r, m') → ∀ D : Ends, KF g T H m' r D → t D σ H
structure DE (X : Cx) (e : Expr) (f : EF) : Prop where
  ex : ∃ t, PE X e t ∧ RfE (gx X) t f
structure DT (X : Cx) (e : Expr) (f : TF) : Prop where
  ex : ∃ t, PT X e t ∧ RfT (gx X) t f
structure DW (X : Cx) (e : Expr) (f : TF) : Prop where
  ex : ∃ t, PW X e t ∧ RfT (gx X) t f
structure DA (X : Cx) (es : List Expr) (f : AF) : Prop where
  ex : ∃ t, PA X es t ∧ RfA (gx X) t f
structure DG (X : Cx) (e : Expr) (f : GF) : Prop where
  ex : ∃ t, PG X e t ∧ RfG (gx X) t f
structure DS (X : Cx) (s : Stmt) (f : SF) : Prop where
  ex : ∃ t, PS X s t ∧ RfS (gx X) t f
structure DSs (X : Cx) (s : List Stmt) (f : SF) : Prop where
  ex : ∃ t, PSs X s t ∧ RfS (gx X) t f
/-! the functions -/
def bd {α β : Type} (r : Option (α × M)) (k : α → M → Option (β × M)) : Option (β × M) := match r with
  | some (d, m) => k d m
  | none => none
theorem bd_some {α β : Type} {r : Option (α × M)} {k : α → M → Option (β × M)} {b : β} {m' : M} (h : bd r k = some (b, m')) : ∃ d m, r = some (d, m) ∧ k d m = some (b, m') := by
  cases r with
  | none => cases h
  | some p => exact ⟨p.1, p.2, rfl, h⟩
@[simp] theorem bd_go {α β : Type} {d : α} {m : M} {k : α → M → Option (β × M)} : bd (some (d, m)) k = k d m := rfl
@[simp] theorem bd_no {α β : Type} {k : α → M → Option (β × M)} : bd none k = none := rfl
/-- a value that needs no heap -/
def pu {α : Type} (r : Option α) (m : M) : Option (α × M) := r.map (·, m)
theorem pu_some {α : Type} {r : Option α} {a : α} {m m' : M} (h : pu r m = some (a, m')) : r = some a ∧ m' = m := by
  cases r with
  | none => cases h
  | some b => cases h; exact ⟨rfl, rfl⟩
@[simp] theorem pu_go {α : Type} {a : α} {m : M} : pu (some a) m = some (a, m) := rfl
@[simp] theorem pu_no {α : Type} {m : M} : pu (none : Option α) m = none := rfl
def eVar (i : Nat) : EF := fun ρ m => pu (ρ.getD i none) m
def eC (d : D) : EF := fun _ m => some (d, m)
def eOp (f : M → D → D → Option D) (a b : EF) : EF := fun ρ m => bd (a ρ m) fun x m1 => bd (b ρ m1) fun y m2 => pu (f m2 x y) m2
def eUn (f : M → D → Option D) (a : EF) : EF := fun ρ m => bd (a ρ m) fun x m1 => pu (f m1 x) m1
def eCall (f : M → List D → Option D) (a : AF) : EF := fun ρ m => bd (a ρ m) fun xs m1 => pu (f m1 xs) m1
def aNil : AF := fun _ m => some ([], m)
def aCons (a : EF) (r : AF) : AF := fun ρ m => bd (a ρ m) fun x m1 => bd (r ρ m1) fun xs m2 => some (x :: xs, m2)
def tVal (a : EF) : TF := fun ρ m => bd (a ρ m) fun x m1 => match x with
  | .bl b => some (b, m1)
  | _ => none
def tAnd (a b : TF) : TF := fun ρ m => bd (a ρ m) fun x m1 => if x then b ρ m1 else some (false, m1)
def tOr (a b : TF) : TF := fun ρ m => bd (a ρ m) fun x m1 => if x then some (true, m1) else b ρ m1
def tNot (a : TF) : TF := fun ρ m => bd (a ρ m) fun x m1 => some (!x, m1)
def eAnd (a b : EF) : EF := fun ρ m => bd (a ρ m) fun x m1 => match x with
  | .bl true => b ρ m1
  | .bl false => some (.bl false, m1)
  | _ => none
def eOr (a b : EF) : EF := fun ρ m => bd (a ρ m) fun x m1 => match x with
  | .bl true => some (.bl true, m1)
  | .bl false => b ρ m1
  | _ => none
def eIf (c : TF) (a b : EF) : EF := fun ρ m => bd (c ρ m) fun x m1 => if x then a ρ m1 else b ρ m1
def gNm (i : Nat) : GF := fun d ρ m => some (ρ.set i (some d), m)
def sAsg (a : EF) (g : GF) : SF := fun ρ m => bd (a ρ m) fun x m1 => bd (g x ρ m1) fun ρ1 m2 => some (.nx ρ1, m2)
def sDrop (a : EF) : SF := fun ρ m => bd (a ρ m) fun _ m1 => some (.nx ρ, m1)
def sRet (a : EF) : SF := fun ρ m => bd (a ρ m) fun x m1 => some (.rt x, m1)
def sRetN : SF := fun _ m => some (.rt .non, m)
def sNop : SF := fun ρ m => some (.nx ρ, m)
def sBrk : SF := fun ρ m => some (.bk ρ, m)
def sCont : SF := fun ρ m => some (.ct ρ, m)
def sIf (c : TF) (a b : SF) : SF := fun ρ m => bd (c ρ m) fun x m1 => if x then a ρ m1 else b ρ m1
def sSeq (a b : SF) : SF := fun ρ m => bd (a ρ m) fun x m1 => match x with
  | .nx ρ1 => b ρ1 m1
  | r => some (r, m1)
/-! their soundness -/
section
variable {X : Cx} {pos : Pos}
theorem de_var {i : Nat} {x : Str} (hN : X.N[i]? = some x) (hv : Vis X.env.scope x) (hd : (x == ("__debug__" : Str)) = false := by decide) (hcd : (x == ("__classdict__" : Str)) = false := by decide) : DE X (.Name x pos) (eVar i) := by
  refine ⟨_, pe_var hN hv hd hcd, fun T σ H ρ m d m' hm hs hf Q k => ?_⟩
  obtain ⟨e, rfl⟩ := pu_some hf
  obtain ⟨v, e1, r⟩ := hs.at_ i d (by
    rw [List.getD_eq_getElem?_getD] at e
    cases h : ρ[i]? with
    | none => rw [h] at e; cases e
    | some o => rw [h] at e; cases e; rfl)
  exact ⟨v, e1, k v T H .refl hm r⟩
theorem rf_c {g : G} {v : V} {d : D} (h : ∀ T H, Rep g T H d v) : RfE g (tC v) (eC d) := by
  intro T σ H ρ m d m' hm hs hf Q k
  cases hf
  exact k v T H .refl hm (h T H)
theorem de_int {i j} : DE X (.Constant (.int i) j pos) (eC (.int i)) := ⟨_, pe_int, rf_c fun _ _ => .int i⟩
theorem de_bl {i j} : DE X (.Constant (.bool i) j pos) (eC (.bl i)) := ⟨_, pe_bl, rf_c fun _ _ => .bl i⟩
theorem de_str {i j} : DE X (.Constant (.str i) j pos) (eC (.str i)) := ⟨_, pe_str, rf_c fun _ _ => .str i⟩
theorem de_non {j} : DE X (.Constant .none j pos) (eC .non) := ⟨_, pe_non, rf_c fun _ _ => .non⟩
/-- an operation of two values -/
def RfO (g : G) (r : R2) (f : M → D → D → Option D) : Prop := ∀ T H m x y v u d, RepH g T H m → Rep g T H x v → Rep g T H y u → f m x y = some d → ∀ Q : VK, KV g T H m d Q → r v u H Q
def RfU (g : G) (r : V → Hp → VK → Prop) (f : M → D → Option D) : Prop := ∀ T H m x v d, RepH g T H m → Rep g T H x v → f m x = some d → ∀ Q : VK, KV g T H m d Q → r v H Q
def RfC (g : G) (r : List V → Hp → VK → Prop) (f : M → List D → Option D) : Prop := ∀ T H m xs vs d, RepH g T H m → RepL g T H xs vs → f m xs = some d → ∀ Q : VK, KV g T H m d Q → r vs H Q
theorem rf_op {g : G} {r : R2} {f : M → D → D → Option D} {ta tb : TE} {a b : EF} (hr : RfO g r f) (ha : RfE g ta a) (hb : RfE g tb b) : RfE g (tOp r ta tb) (eOp f a b) := by
  intro T σ H ρ m d m' hm hs hf Q k
  obtain ⟨x, m1, e1, hf⟩ := bd_some hf
  obtain ⟨y, m2, e2, hf⟩ := bd_some hf
  obtain ⟨e3, rfl⟩ := pu_some hf
  refine ha T σ H ρ m x m1 hm hs e1 _ fun v T1 H1 l1 hm1 r1 => ?_
  refine hb T1 σ H1 ρ m1 y _ hm1 (hs.le l1) e2 _ fun u T2 H2 l2 hm2 r2 => ?_
  exact hr T2 H2 _ x y v u d hm2 (r1.le l2) r2 e3 Q (k.le (l1.trans l2))
theorem rf_un {g : G} {r : V → Hp → VK → Prop} {f : M → D → Option D} {ta : TE} {a : EF} (hr : RfU g r f) (ha : RfE g ta a) : RfE g (tUn r ta) (eUn f a) := by
  intro T σ H ρ m d m' hm hs hf Q k
  obtain ⟨x, m1, e1, hf⟩ := bd_some hf
  obtain ⟨e3, rfl⟩ := pu_some hf
  refine ha T σ H ρ m x _ hm hs e1 _ fun v T1 H1 l1 hm1 r1 => ?_
  exact hr T1 H1 _ x v d hm1 r1 e3 Q (k.le l1)
theorem rf_call {g : G} {r : List V → Hp → VK → Prop} {f : M → List D → Option D} {ta : TA} {a : AF} (hr : RfC g r f) (ha : RfA g ta a) : RfE g (tCB r ta) (eCall f a) := by
  intro T σ H ρ m d m' hm hs hf Q k
  obtain ⟨x, m1, e1, hf⟩ := bd_some hf
  obtain ⟨e3, rfl⟩ := pu_some hf
  refine ha T σ H ρ m x _ hm hs e1 _ fun v T1 H1 l1 hm1 r1 => ?_
  exact hr T1 H1 _ x v d hm1 r1 e3 Q (k.le l1)
/-- an operator that is known by a function on data -/
structure OpD (X : Cx) (F : Value → Value → Sem Value) (f : M → D → D → Option D) : Prop where
  ex : ∃ r, OpR X F r ∧ RfO (gx X) r f
structure CallD (X : Cx) (F : Value) (f : M → List D → Option D) : Prop where
  ex : ∃ r, CallR X F r ∧ RfC (gx X) r f
structure UnD (X : Cx) (F : Value → Sem Value) (f : M → D → Option D) : Prop where
  ex : ∃ r, UnR X F r ∧ RfU (gx X) r f
theorem de_op {a b : Expr} {fa fb : EF} {op : Operator} {f} (ho : OpD X (binaryOp op) f) (ha : DE X a fa) (hb : DE X b fb) : DE X (.BinOp a op b pos) (eOp f fa fb) := by
  obtain ⟨r, h, q⟩ := ho.ex; obtain ⟨ta, pa, ra⟩ := ha.ex; obtain ⟨tb, pb, rb⟩ := hb.ex
  exact ⟨_, pe_op h pa pb, rf_op q ra rb⟩
theorem de_un {a : Expr} {fa : EF} {op : UnaryOp} {f} (ho : UnD X (unaryOp op) f) (ha : DE X a fa) : DE X (.UnaryOp op a pos) (eUn f fa) := by
  obtain ⟨r, h, q⟩ := ho.ex; obtain ⟨ta, pa, ra⟩ := ha.ex
  exact ⟨_, pe_un h pa, rf_un q ra⟩
theorem de_cmp {a b : Expr} {fa fb : EF} {op : CmpOp} {f} (ho : OpD X (compareOp op) f) (ha : DE X a fa) (hb : DE X b fb) (hm : behindInMarks op b = false) : DE X (.Compare a [op] [b] pos) (eOp f fa fb) := by
  obtain ⟨r, h, q⟩ := ho.ex; obtain ⟨ta, pa, ra⟩ := ha.ex; obtain ⟨tb, pb, rb⟩ := hb.ex
  exact ⟨_, pe_cmpR h pa pb hm, rf_op q ra rb⟩
theorem rf_test {g : G} {t : TE} {f : EF} (h : RfE g t f) : RfT g (tTest t) (tVal f) := by
  intro T σ H ρ m b m' hm hs hf Q k
  obtain ⟨x, m1, e1, hf⟩ := bd_some hf
  cases x with
  | bl c =>
    cases hf
    refine h T σ H ρ m _ _ hm hs e1 _ fun v T1 H1 l1 hm1 r1 => ?_
    cases r1
    exact ⟨b, rfl, k T1 H1 l1 hm1⟩
  | _ => cases hf
theorem dt_cmp {a b : Expr} {fa fb : EF} {op : CmpOp} {f} (ho : OpD X (compareOp op) f) (ha : DE X a fa) (hb : DE X b fb) (hm : behindInMarks op b = false) : DT X (.Compare a [op] [b] pos) (tVal (eOp f fa fb)) := by
  obtain ⟨r, h, q⟩ := ho.ex; obtain ⟨ta, pa, ra⟩ := ha.ex; obtain ⟨tb, pb, rb⟩ := hb.ex
  exact ⟨_, pt_cmpR h pa pb hm, rf_test (rf_op q ra rb)⟩
theorem dt_val {a : Expr} {fa : EF} (ha : DE X a fa) (he : ∀ whole, isTrue a X.env whole = (do let v ← whole; standAt a.pos; holding [v] (truthy v)) := by intro _; rfl) : DT X a (tVal fa) := by
  obtain ⟨ta, pa, ra⟩ := ha.ex
  exact ⟨_, pt_val pa he, rf_test ra⟩
theorem da_nil : DA X [] aNil := ⟨_, pa_nil, fun T σ H ρ m ds m' hm hs hf Q k => by cases hf; exact k [] T H .refl hm .nil⟩
end
end L4

namespace L4
open PySem L2
section
variable {X : Cx} {pos : Pos} {g : G}
theorem rf_cons {te : TE} {ta : TA} {a : EF} {r : AF} (ha : RfE g te a) (hr : RfA g ta r) : RfA g (tCons te ta) (aCons a r) := by
  intro T σ H ρ m ds m' hm hs hf Q k
  obtain ⟨x, m1, e1, hf⟩ := bd_some hf
  obtain ⟨xs, m2, e2, hf⟩ := bd_some hf
  cases hf
  refine ha T σ H ρ m x m1 hm hs e1 _ fun v T1 H1 l1 hm1 r1 => ?_
  refine hr T1 σ H1 ρ m1 xs _ hm1 (hs.le l1) e2 _ fun vs T2 H2 l2 hm2 r2 => ?_
  exact k _ T2 H2 (l1.trans l2) hm2 (.cons (r1.le l2) r2)
theorem da_cons {e : Expr} {es : List Expr} {a : EF} {r : AF} (ha : DE X e a) (hr : DA X es r) (hs : starEach (e :: es) X.env = (false, eval e X.env) :: starEach es X.env := by rfl) : DA X (e :: es) (aCons a r) := by
  obtain ⟨ta, pa, ra⟩ := ha.ex; obtain ⟨tb, pb, rb⟩ := hr.ex
  exact ⟨_, pa_cons pa pb hs, rf_cons ra rb⟩
theorem rf_and {t u : TT} {a b : TF} (ha : RfT g t a) (hb : RfT g u b) : RfT g (L2.tAnd t u) (tAnd a b) := by
  intro T σ H ρ m d m' hm hs hf Q k
  obtain ⟨x, m1, e1, hf⟩ := bd_some hf
  refine ha T σ H ρ m x m1 hm hs e1 _ fun T1 H1 l1 hm1 => ?_
  cases x with
  | true => exact hb T1 σ H1 ρ m1 d m' hm1 (hs.le l1) hf Q (k.le l1)
  | false => cases hf; exact k T1 H1 l1 hm1
theorem rf_or {t u : TT} {a b : TF} (ha : RfT g t a) (hb : RfT g u b) : RfT g (L2.tOr t u) (tOr a b) := by
  intro T σ H ρ m d m' hm hs hf Q k
  obtain ⟨x, m1, e1, hf⟩ := bd_some hf
  refine ha T σ H ρ m x m1 hm hs e1 _ fun T1 H1 l1 hm1 => ?_
  cases x with
  | true => cases hf; exact k T1 H1 l1 hm1
  | false => exact hb T1 σ H1 ρ m1 d m' hm1 (hs.le l1) hf Q (k.le l1)
theorem rf_not {t : TT} {a : TF} (ha : RfT g t a) : RfT g (L2.tNot t) (tNot a) := by
  intro T σ H ρ m d m' hm hs hf Q k
  obtain ⟨x, m1, e1, hf⟩ := bd_some hf
  cases hf
  exact ha T σ H ρ m x _ hm hs e1 _ fun T1 H1 l1 hm1 => k T1 H1 l1 hm1
theorem dw_and {a b : Expr} {rest : List Expr} {f h : TF} (ha : DT X a f) (hb : DW X (.BoolOp .And (b :: rest) pos) h) : DW X (.BoolOp .And (a :: b :: rest) pos) (tAnd f h) := by
  obtain ⟨ta, pa, ra⟩ := ha.ex; obtain ⟨tb, pb, rb⟩ := hb.ex
  exact ⟨_, pw_and pa pb, rf_and ra rb⟩
theorem dw_and1 {a : Expr} {f : TF} (ha : DT X a f) : DW X (.BoolOp .And [a] pos) f := by
  obtain ⟨ta, pa, ra⟩ := ha.ex
  exact ⟨_, pw_and1 pa, ra⟩
theorem dw_or {a b : Expr} {rest : List Expr} {f h : TF} (ha : DT X a f) (hb : DW X (.BoolOp .Or (b :: rest) pos) h) : DW X (.BoolOp .Or (a :: b :: rest) pos) (tOr f h) := by
  obtain ⟨ta, pa, ra⟩ := ha.ex; obtain ⟨tb, pb, rb⟩ := hb.ex
  exact ⟨_, pw_or pa pb, rf_or ra rb⟩
theorem dw_or1 {a : Expr} {f : TF} (ha : DT X a f) : DW X (.BoolOp .Or [a] pos) f := by
  obtain ⟨ta, pa, ra⟩ := ha.ex
  exact ⟨_, pw_or1 pa, ra⟩
theorem dt_w {a : Expr} {f : TF} (ha : DW X a f) : DT X a f := by
  obtain ⟨ta, pa, ra⟩ := ha.ex
  exact ⟨_, pa.pt, ra⟩
theorem dt_not {a : Expr} {f : TF} (ha : DT X a f) : DT X (.UnaryOp .Not a pos) (tNot f) := by
  obtain ⟨ta, pa, ra⟩ := ha.ex
  exact ⟨_, pt_not pa, rf_not ra⟩
theorem de_one {a : Expr} {op} {f : EF} (ha : DE X a f) : DE X (.BoolOp op [a] pos) f := by
  obtain ⟨ta, pa, ra⟩ := ha.ex
  exact ⟨_, pe_one pa, ra⟩
theorem de_and {a b : Expr} {rest : List Expr} {f h : EF} (ha : DE X a f) (hb : DE X (.BoolOp .And (b :: rest) pos) h) : DE X (.BoolOp .And (a :: b :: rest) pos) (eAnd f h) := by
  obtain ⟨ta, pa, ra⟩ := ha.ex; obtain ⟨tb, pb, rb⟩ := hb.ex
  refine ⟨_, pe_and pa pb, fun T σ H ρ m d m' hm hs hf Q k => ?_⟩
  obtain ⟨x, m1, e1, hf⟩ := bd_some hf
  refine ra T σ H ρ m x m1 hm hs e1 _ fun v T1 H1 l1 hm1 r1 => ?_
  cases r1 with
  | bl c => cases c with
    | true => exact ⟨true, rfl, rb T1 σ H1 ρ m1 d m' hm1 (hs.le l1) hf Q (k.le l1)⟩
    | false => cases hf; exact ⟨false, rfl, k _ T1 H1 l1 hm1 (.bl _)⟩
  | _ => cases hf
theorem de_or {a b : Expr} {rest : List Expr} {f h : EF} (ha : DE X a f) (hb : DE X (.BoolOp .Or (b :: rest) pos) h) : DE X (.BoolOp .Or (a :: b :: rest) pos) (eOr f h) := by
  obtain ⟨ta, pa, ra⟩ := ha.ex; obtain ⟨tb, pb, rb⟩ := hb.ex
  refine ⟨_, pe_or pa pb, fun T σ H ρ m d m' hm hs hf Q k => ?_⟩
  obtain ⟨x, m1, e1, hf⟩ := bd_some hf
  refine ra T σ H ρ m x m1 hm hs e1 _ fun v T1 H1 l1 hm1 r1 => ?_
  cases r1 with
  | bl c => cases c with
    | false => exact ⟨false, rfl, rb T1 σ H1 ρ m1 d m' hm1 (hs.le l1) hf Q (k.le l1)⟩
    | true => cases hf; exact ⟨true, rfl, k _ T1 H1 l1 hm1 (.bl _)⟩
  | _ => cases hf
def eNot (a : EF) : EF := fun ρ m => bd (a ρ m) fun x m1 => match x with
  | .bl b => some (.bl (!b), m1)
  | _ => none
theorem de_not {a : Expr} {f : EF} (ha : DE X a f) : DE X (.UnaryOp .Not a pos) (eNot f) := by
  obtain ⟨ta, pa, ra⟩ := ha.ex
  refine ⟨_, pe_not pa, fun T σ H ρ m d m' hm hs hf Q k => ?_⟩
  obtain ⟨x, m1, e1, hf⟩ := bd_some hf
  refine ra T σ H ρ m x m1 hm hs e1 _ fun v T1 H1 l1 hm1 r1 => ?_
  cases r1 with
  | bl c => cases hf; exact ⟨c, rfl, k _ T1 H1 l1 hm1 (.bl _)⟩
  | _ => cases hf
def isNon : D → Bool
  | .non => true
  | _ => false
def eIsN (a : EF) : EF := fun ρ m => bd (a ρ m) fun x m1 => some (.bl (isNon x), m1)
def eNotN (a : EF) : EF := fun ρ m => bd (a ρ m) fun x m1 => some (.bl (!isNon x), m1)
theorem Rep.isN {T : Tk} {H : Hp} {d : D} {v : V} (r : Rep g T H d v) : decide (v = .non) = isNon d := by cases r <;> rfl
theorem rf_isN {t : TE} {f : EF} (ra : RfE g t f) : RfE g (tIsN t) (eIsN f) := by
  intro T σ H ρ m d m' hm hs hf Q k
  obtain ⟨x, m1, e1, hf⟩ := bd_some hf
  cases hf
  refine ra T σ H ρ m x _ hm hs e1 _ fun v T1 H1 l1 hm1 r1 => ?_
  rw [r1.isN]
  exact k _ T1 H1 l1 hm1 (.bl _)
theorem rf_notN {t : TE} {f : EF} (ra : RfE g t f) : RfE g (tNotN t) (eNotN f) := by
  intro T σ H ρ m d m' hm hs hf Q k
  obtain ⟨x, m1, e1, hf⟩ := bd_some hf
  cases hf
  refine ra T σ H ρ m x _ hm hs e1 _ fun v T1 H1 l1 hm1 r1 => ?_
  rw [r1.isN]
  exact k _ T1 H1 l1 hm1 (.bl _)
theorem rf_tB {t : TE} {f : EF} (h : RfE g t f) : RfT g (tB t) (tVal f) := rf_test h
theorem de_isN {a : Expr} {f : EF} {j pos'} (ha : DE X a f) : DE X (.Compare a [.Is] [.Constant .none j pos'] pos) (eIsN f) := by
  obtain ⟨ta, pa, ra⟩ := ha.ex
  exact ⟨_, pe_cmp (pc_isN pa), rf_isN ra⟩
theorem de_notN {a : Expr} {f : EF} {j pos'} (ha : DE X a f) : DE X (.Compare a [.IsNot] [.Constant .none j pos'] pos) (eNotN f) := by
  obtain ⟨ta, pa, ra⟩ := ha.ex
  exact ⟨_, pe_cmp (pc_notN pa), rf_notN ra⟩
theorem dt_isN {a : Expr} {f : EF} {j pos'} (ha : DE X a f) : DT X (.Compare a [.Is] [.Constant .none j pos'] pos) (tVal (eIsN f)) := by
  obtain ⟨ta, pa, ra⟩ := ha.ex
  exact ⟨_, pt_cmp (pc_isN pa), rf_tB (rf_isN ra)⟩
theorem dt_notN {a : Expr} {f : EF} {j pos'} (ha : DE X a f) : DT X (.Compare a [.IsNot] [.Constant .none j pos'] pos) (tVal (eNotN f)) := by
  obtain ⟨ta, pa, ra⟩ := ha.ex
  exact ⟨_, pt_cmp (pc_notN pa), rf_tB (rf_notN ra)⟩
theorem de_if {c a b : Expr} {fc : TF} {fa fb : EF} (hc : DT X c fc) (ha : DE X a fa) (hb : DE X b fb) : DE X (.IfExp c a b pos) (eIf fc fa fb) := by
  obtain ⟨tc, pc, rc⟩ := hc.ex; obtain ⟨ta, pa, ra⟩ := ha.ex; obtain ⟨tb, pb, rb⟩ := hb.ex
  refine ⟨_, pe_ifExp pc pa pb, fun T σ H ρ m d m' hm hs hf Q k => ?_⟩
  obtain ⟨x, m1, e1, hf⟩ := bd_some hf
  refine rc T σ H ρ m x m1 hm hs e1 _ fun T1 H1 l1 hm1 => ?_
  cases x with
  | true => exact ra T1 σ H1 ρ m1 d m' hm1 (hs.le l1) hf Q (k.le l1)
  | false => exact rb T1 σ H1 ρ m1 d m' hm1 (hs.le l1) hf Q (k.le l1)
/-! statements -/
theorem dg_name {i : Nat} {x : Str} (hN : X.N.Nodup) (hi : X.N[i]? = some x) (hx : Loc X.env.scope x) (hf : X.fn x = true ∨ X.env.scope.names.lookup x = some .local := by first | exact .inl rfl | exact .inr rfl | assumption) : DG X (.Name x pos) (gNm i) := by
  refine ⟨_, pg_name hN hi hx hf, fun T σ H ρ m d v ρ' m' hm hs r hf Q k => ?_⟩
  cases hf
  exact k _ T H .refl hm (hs.set r)
theorem rf_asg {te : TE} {tg : TG} {a : EF} {f : GF} (ha : RfE g te a) (hg : RfG g tg f) : RfS g (tAsg te tg) (sAsg a f) := by
  intro T σ H ρ m d m' hm hs hf D k
  obtain ⟨x, m1, e1, hf⟩ := bd_some hf
  obtain ⟨ρ1, m2, e2, hf⟩ := bd_some hf
  cases hf
  refine ha T σ H ρ m x m1 hm hs e1 _ fun v T1 H1 l1 hm1 r1 => ?_
  exact hg T1 σ H1 ρ m1 x v ρ1 _ hm1 (hs.le l1) r1 e2 _ (KS.le l1 k)
theorem ds_asg {tg e : Expr} {a : EF} {f : GF} (ha : DE X e a) (hg : DG X tg f) (hs : swapsWithSole [tg] e pos.line X.env = pure false := by rfl) (hw : swappedStores [tg] e X.env = pure none := by rfl)
    (h1 : (assignEach [tg] X.env).map (·.2) = [assign tg X.env] := by rfl) : DS X (.Assign [tg] e pos) (sAsg a f) := by
  obtain ⟨ta, pa, ra⟩ := ha.ex; obtain ⟨tb, pb, rb⟩ := hg.ex
  exact ⟨_, ps_asg pa pb hs hw h1, rf_asg ra rb⟩
theorem ds_set {i : Nat} {x : Str} {e : Expr} {a : EF} {pos' : Pos} (hN : X.N.Nodup) (hi : X.N[i]? = some x) (hx : Loc X.env.scope x) (he : DE X e a) (hs : swapsWith e (some (.Name x pos')) pos.line X.env = pure false := by rfl) (hf : X.fn x = true ∨ X.env.scope.names.lookup x = some .local := by first | exact .inl rfl | exact .inr rfl | assumption) :
    DS X (.Assign [.Name x pos'] e pos) (sAsg a (gNm i)) := by
  obtain ⟨ta, pa, ra⟩ := he.ex
  refine ⟨_, ps_set hN hi hx pa hs hf, rf_asg ra fun T σ H ρ m d v ρ' m' hm hs r hf Q k => ?_⟩
  cases hf
  exact k _ T H .refl hm (hs.set r)
theorem ds_expr {e : Expr} {a : EF} (he : DE X e a) (hs : swapsWith e none pos.line X.env = pure false := by rfl) : DS X (.Expr e pos) (sDrop a) := by
  obtain ⟨ta, pa, ra⟩ := he.ex
  refine ⟨_, ps_expr pa hs, fun T σ H ρ m d m' hm hs hf D k => ?_⟩
  obtain ⟨x, m1, e1, hf⟩ := bd_some hf
  cases hf
  exact ra T σ H ρ m x _ hm hs e1 _ fun v T1 H1 l1 hm1 r1 => k σ T1 H1 l1 hm1 (hs.le l1)
theorem ds_ret {e : Expr} {a : EF} (he : DE X e a) : DS X (.Return (some e) pos) (sRet a) := by
  obtain ⟨ta, pa, ra⟩ := he.ex
  refine ⟨_, ps_ret pa, fun T σ H ρ m d m' hm hs hf D k => ?_⟩
  obtain ⟨x, m1, e1, hf⟩ := bd_some hf
  cases hf
  exact ra T σ H ρ m x _ hm hs e1 _ k
theorem ds_retN : DS X (.Return none pos) sRetN := ⟨_, ps_retN, fun T σ H ρ m d m' hm hs hf D k => by cases hf; exact k _ T H .refl hm .non⟩
theorem ds_pass : DS X (.Pass pos) sNop := ⟨_, ps_pass, fun T σ H ρ m d m' hm hs hf D k => by cases hf; exact k _ T H .refl hm hs⟩
theorem ds_doc {x j pos pos'} : DS X (.Expr (.Constant (.str x) j pos) pos') sNop := ⟨_, ps_doc, fun T σ H ρ m d m' hm hs hf D k => by cases hf; exact k _ T H .refl hm hs⟩
theorem ds_break : DS X (.Break pos) sBrk := ⟨_, ps_break, fun T σ H ρ m d m' hm hs hf D k => by cases hf; exact k _ T H .refl hm hs⟩
theorem ds_cont : DS X (.Continue pos) sCont := ⟨_, ps_continue, fun T σ H ρ m d m' hm hs hf D k => by cases hf; exact k _ T H .refl hm hs⟩
theorem dss_nil : DSs X [] sNop := ⟨_, pss_nil, fun T σ H ρ m d m' hm hs hf D k => by cases hf; exact k _ T H .refl hm hs⟩
theorem dss_one {s : Stmt} {f : SF} (h : DS X s f) : DSs X [s] f := by
  obtain ⟨ta, pa, ra⟩ := h.ex
  exact ⟨_, pss_one pa, ra⟩
theorem dss_cons {s : Stmt} {r : List Stmt} {a b : SF} (h : DS X s a) (hr : DSs X r b) : DSs X (s :: r) (sSeq a b) := by
  obtain ⟨ta, pa, ra⟩ := h.ex; obtain ⟨tb, pb, rb⟩ := hr.ex
  refine ⟨_, pss_cons pa pb, fun T σ H ρ m d m' hm hs hf D k => ?_⟩
  obtain ⟨x, m1, e1, hf⟩ := bd_some hf
  refine ra T σ H ρ m x m1 hm hs e1 _ ?_
  cases x with
  | nx ρ1 => exact fun σ1 T1 H1 l1 hm1 hs1 => rb T1 σ1 H1 ρ1 m1 d m' hm1 hs1 hf D (KF.le l1 k)
  | rt d => cases hf; exact k
  | bk ρ => cases hf; exact k
  | ct ρ => cases hf; exact k
theorem ds_if {c : Expr} {a b : List Stmt} {fc : TF} {fa fb : SF} (hc : DT X c fc) (ha : DSs X a fa) (hb : DSs X b fb) : DS X (.If c a b pos) (sIf fc fa fb) := by
  obtain ⟨tc, pc, rc⟩ := hc.ex; obtain ⟨ta, pa, ra⟩ := ha.ex; obtain ⟨tb, pb, rb⟩ := hb.ex
  refine ⟨_, ps_if pc pa pb, fun T σ H ρ m d m' hm hs hf D k => ?_⟩
  obtain ⟨x, m1, e1, hf⟩ := bd_some hf
  refine rc T σ H ρ m x m1 hm hs e1 _ fun T1 H1 l1 hm1 => ?_
  cases x with
  | true => exact ra T1 σ H1 ρ m1 d m' hm1 (hs.le l1) hf D (KF.le l1 k)
  | false => exact rb T1 σ H1 ρ m1 d m' hm1 (hs.le l1) hf D (KF.le l1 k)
/-! while -/
def sWhile (n : Nat) (c : TF) (b : SF) : SF := match n with
  | 0 => fun _ _ => none
  | n + 1 => fun ρ m => bd (c ρ m) fun x m1 => if x then bd (b ρ m1) fun r m2 => match r with
      | .nx ρ2 => sWhile n c b ρ2 m2
      | .ct ρ2 => sWhile n c b ρ2 m2
      | .bk ρ2 => some (.nx ρ2, m2)
      | .rt d => some (.rt d, m2)
    else some (.nx ρ, m1)
theorem ds_while {c : Expr} {body : List Stmt} {fc : TF} {fb : SF} (n : Nat) (hp : PassesOwn (model X.prog X.w) X.A X.env X.xe) (hc : DT X c fc) (hb : DSs X body fb) : DS X (.While c body [] pos) (sWhile n fc fb) := by
  obtain ⟨tc, pc, rc⟩ := hc.ex; obtain ⟨tb, pb, rb⟩ := hb.ex
  refine ⟨_, ps_while hp pc pb, fun T σ H ρ m r m' hm hs hf D k => ?_⟩
  refine ⟨fun j σ1 H1 => ∃ T1 ρ1 m1, Le T H T1 H1 ∧ RepH (gx X) T1 H1 m1 ∧ RepS (gx X) T1 H1 σ1 ρ1 ∧ sWhile j fc fb ρ1 m1 = some (r, m'), ⟨n, T, ρ, m, .refl, hm, hs, hf⟩, ?_⟩
  rintro j σ1 H1 ⟨T1, ρ1, m1, l1, hm1, hs1, hf1⟩
  cases j with
  | zero => cases hf1
  | succ j =>
    obtain ⟨x, m2, e2, hf2⟩ := bd_some hf1
    refine rc T1 σ1 H1 ρ1 m1 x m2 hm1 hs1 e2 _ fun T2 H2 l2 hm2 => ?_
    cases x with
    | false => cases hf2; exact k σ1 T2 H2 (l1.trans l2) hm2 (hs1.le l2)
    | true =>
      obtain ⟨y, m3, e3, hf3⟩ := bd_some hf2
      refine ⟨_, fun _ _ q => q, rb T2 σ1 H2 ρ1 m2 y m3 hm2 (hs1.le l2) e3 _ ?_⟩
      cases y with
      | nx ρ3 => exact fun σ3 T3 H3 l3 hm3 hs3 => ⟨j, Nat.lt_succ_self _, T3, ρ3, m3, l1.trans (l2.trans l3), hm3, hs3, hf3⟩
      | ct ρ3 => exact fun σ3 T3 H3 l3 hm3 hs3 => ⟨j, Nat.lt_succ_self _, T3, ρ3, m3, l1.trans (l2.trans l3), hm3, hs3, hf3⟩
      | bk ρ3 => cases hf3; exact KS.le (l1.trans l2) k
      | rt d => cases hf3; exact KV.le (l1.trans l2) k
/-! for -/
def ItOk (g : G) (T : Tk) (H : Hp) (J : It) (ds : List D) : Prop := ∀ T1 H1, Le T H T1 H1 → ∀ m1, RepH g T1 H1 m1 → ∀ i : Nat,
  (∀ d, ds[i]? = some d → J.go i H1 ∧ ∀ x H2, J.yld i H1 x H2 → ∃ T2, Le T1 H1 T2 H2 ∧ RepH g T2 H2 m1 ∧ Rep g T2 H2 d x) ∧ (ds.length = i → J.stop i H1)
def RfI (g : G) (wi : TI) (f : AF) : Prop := ∀ T σ H ρ m ds m', RepH g T H m → RepS g T H σ ρ → f ρ m = some (ds, m') → ∀ R : It → Hp → Prop, (∀ J T' H', Le T H T' H' → RepH g T' H' m' → ItOk g T' H' J ds → R J H') → wi σ H R
structure DI (X : Cx) (tg iter : Expr) (f : AF) : Prop where
  ex : ∃ wi, PI X tg iter wi ∧ RfI (gx X) wi f
def forGo (f : GF) (b : SF) : List D → SF
  | [] => fun ρ m => some (.nx ρ, m)
  | x :: xs => fun ρ m => bd (f x ρ m) fun ρ1 m1 => bd (b ρ1 m1) fun r m2 => match r with
      | .nx ρ2 => forGo f b xs ρ2 m2
      | .ct ρ2 => forGo f b xs ρ2 m2
      | .bk ρ2 => some (.nx ρ2, m2)
      | .rt d => some (.rt d, m2)
def sFor (it : AF) (f : GF) (b : SF) : SF := fun ρ m => bd (it ρ m) fun xs m1 => forGo f b xs ρ m1
theorem ds_for {tg iter : Expr} {body : List Stmt} {fi : AF} {fg : GF} {fb : SF} (hp : PassesOwn (model X.prog X.w) X.A X.env X.xe) (hc : X.calm = true) (hi : DI X tg iter fi) (hg : DG X tg fg) (hb : DSs X body fb)
    (hs : ∀ x, foldedSetIterable iter X.env x = pure x := by intro _; rfl) : DS X (.For tg iter body [] pos) (sFor fi fg fb) := by
  obtain ⟨ti, pi, ri⟩ := hi.ex; obtain ⟨tg', pg, rg⟩ := hg.ex; obtain ⟨tb, pb, rb⟩ := hb.ex
  refine ⟨_, ps_for hp hc pi pg pb hs, fun T σ H ρ m r m' hm hs hf D k => ?_⟩
  obtain ⟨ds, m1, e1, hf⟩ := bd_some hf
  refine ri T σ H ρ m ds m1 hm hs e1 _ fun J T0 H0 l0 hm0 ok => ?_
  refine ⟨fun i j σ1 H1 => i + j = ds.length ∧ ∃ T1 ρ1 m1, Le T0 H0 T1 H1 ∧ RepH (gx X) T1 H1 m1 ∧ RepS (gx X) T1 H1 σ1 ρ1 ∧ forGo fg fb (ds.drop i) ρ1 m1 = some (r, m'), ⟨ds.length, by simp, T0, ρ, m1, .refl, hm0, hs.le l0, by simpa using hf⟩, ?_⟩
  rintro i j σ1 H1 ⟨hij, T1, ρ1, m1, l1, hm1, hs1, hf1⟩
  obtain ⟨okG, okS⟩ := ok T1 H1 l1 m1 hm1 i
  cases j with
  | zero =>
    left
    rw [List.drop_of_length_le (by omega)] at hf1
    cases hf1
    exact ⟨okS (by omega), k σ1 T1 H1 (l0.trans l1) hm1 hs1⟩
  | succ j =>
    right
    have hi : i < ds.length := by omega
    rw [List.drop_eq_getElem_cons hi] at hf1
    obtain ⟨go, yl⟩ := okG ds[i] (List.getElem?_eq_getElem hi)
    refine ⟨go, _, fun _ _ q => q, fun x H2 y2 => ?_⟩
    obtain ⟨T2, l2, hm2, r2⟩ := yl x H2 y2
    obtain ⟨ρ3, m3, e3, hf3⟩ := bd_some hf1
    refine rg T2 σ1 H2 ρ1 m1 ds[i] x ρ3 m3 hm2 (hs1.le l2) r2 e3 _ fun σ3 T3 H3 l3 hm3 hs3 => ?_
    obtain ⟨y, m4, e4, hf4⟩ := bd_some hf3
    refine rb T3 σ3 H3 ρ3 m3 y m4 hm3 hs3 e4 _ ?_
    have l13 := l1.trans (l2.trans l3)
    cases y with
    | nx ρ4 => exact fun σ4 T4 H4 l4 hm4 hs4 => ⟨j, Nat.lt_succ_self _, by omega, T4, ρ4, m4, l13.trans l4, hm4, hs4, hf4⟩
    | ct ρ4 => exact fun σ4 T4 H4 l4 hm4 hs4 => ⟨j, Nat.lt_succ_self _, by omega, T4, ρ4, m4, l13.trans l4, hm4, hs4, hf4⟩
    | bk ρ4 => cases hf4; exact KS.le (l0.trans l13) k
    | rt d => cases hf4; exact KV.le (l0.trans l13) k
end
end L4

namespace L4
open PySem L2
/-! data without tracked things -/
mutual
def pureD : D → Bool
  | .tup ds => pureL ds
  | .lst ds => pureL ds
  | .scr ds => pureL ds
  | .dic ks vs => pureL ks && pureL vs
  | .obj _ _ vs => pureL vs
  | .ref _ => false
  | .non => true
  | .bl _ => true
  | .int _ => true
  | .str _ => true
  | .glo _ => true
  | .ty _ => true
def pureL : List D → Bool
  | [] => true
  | d :: ds => pureD d && pureL ds
end
mutual
def groundD : D → Bool
  | .tup ds => groundL ds
  | .lst _ => false
  | .scr _ => false
  | .dic _ _ => false
  | .obj _ _ _ => false
  | .ref _ => false
  | .non => true
  | .bl _ => true
  | .int _ => true
  | .str _ => true
  | .glo _ => true
  | .ty _ => true
def groundL : List D → Bool
  | [] => true
  | d :: ds => groundD d && groundL ds
end
def T0 (ν : List Addr) : Tk := ⟨[], ν, fun _ h => nomatch h⟩
section
variable {g : G} {T : Tk} {H : Hp}
theorem and2 {a b : Bool} (h : (a && b) = true) : a = true ∧ b = true := by cases a <;> cases b <;> first | exact ⟨rfl, rfl⟩ | cases h
theorem FT.less {K : PySem.W.Frag} {ν : List Addr} {a : Addr} {vs : List V} (hν : ∀ a ∈ ν, a ∈ T.ν) (f : FT K T H a vs) : FT K (T0 ν) H a vs := by
  rcases f with ⟨n, f⟩ | f
  · exact .inl ⟨fun z => n (hν _ z), f⟩
  · exact .inr f
theorem FL.less {ν : List Addr} {a : Addr} {vs : List V} (hν : ∀ a ∈ ν, a ∈ T.ν) (f : FL T H a vs) : FL (T0 ν) H a vs := ⟨fun z => f.1 (hν _ z), f.2⟩
theorem FS.less {K : PySem.W.Frag} {ν : List Addr} {a : Addr} {vs : List V} (hν : ∀ a ∈ ν, a ∈ T.ν) (f : FS K T H a vs) : FS K (T0 ν) H a vs := by
  rcases f with ⟨n, f⟩ | f
  · exact .inl ⟨fun z => n (hν _ z), f⟩
  · exact .inr f
mutual
theorem Rep.pure {ν : List Addr} (hν : ∀ a ∈ ν, a ∈ T.ν) : ∀ (d : D) {v : V}, pureD d = true → Rep g T H d v → Rep g (T0 ν) H d v
  | .non, _, _, r => by cases r; exact .non
  | .bl _, _, _, r => by cases r; exact .bl _
  | .int _, _, _, r => by cases r; exact .int _
  | .str _, _, _, r => by cases r; exact .str _
  | .glo _, _, _, r => by cases r; exact .glo _
  | .ty _, _, _, r => by cases r; exact .ty _
  | .ref _, _, h, _ => by rw [pureD] at h; cases h
  | .tup ds, _, h, r => by
    rw [pureD] at h
    cases r with
    | tup f r => exact .tup (f.less hν) (RepL.pure hν ds h r)
  | .lst ds, _, h, r => by
    rw [pureD] at h
    cases r with
    | lst f r => exact .lst (f.less hν) (RepL.pure hν ds h r)
  | .scr ds, _, h, r => by
    rw [pureD] at h
    cases r with
    | scr f r => exact .scr (f.less hν) (RepL.pure hν ds h r)
  | .dic ks vs, _, h, r => by
    rw [pureD] at h
    cases r with
    | dicF n f r q => exact .dicF (fun z => n (hν _ z)) f (RepL.pure hν ks (and2 h).1 r) (RepL.pure hν vs (and2 h).2 q)
    | dicN n f e r q => exact .dicN (fun z => n (hν _ z)) f e (RepL.pure hν ks (and2 h).1 r) (RepL.pure hν vs (and2 h).2 q)
  | .obj c ns vs, _, h, r => by
    rw [pureD] at h
    cases r with
    | obj n f e r => exact .obj (fun z => n (hν _ z)) f e (RepL.pure hν vs h r)
theorem RepL.pure {ν : List Addr} (hν : ∀ a ∈ ν, a ∈ T.ν) : ∀ (ds : List D) {vs : List V}, pureL ds = true → RepL g T H ds vs → RepL g (T0 ν) H ds vs
  | [], _, _, r => by cases r; exact .nil
  | d :: ds, _, h, r => by
    rw [pureL] at h
    cases r with
    | cons r s => exact .cons (Rep.pure hν d (and2 h).1 r) (RepL.pure hν ds (and2 h).2 s)
end
mutual
theorem Rep.lift : ∀ (d : D) {v : V}, Rep g (T0 T.ν) H d v → Rep g T H d v
  | .non, _, r => by cases r; exact .non
  | .bl _, _, r => by cases r; exact .bl _
  | .int _, _, r => by cases r; exact .int _
  | .str _, _, r => by cases r; exact .str _
  | .glo _, _, r => by cases r; exact .glo _
  | .ty _, _, r => by cases r; exact .ty _
  | .ref _, _, r => by
    cases r with
    | ref h => exact absurd h (by simp [T0])
  | .tup ds, _, r => by
    cases r with
    | tup f r => exact .tup f (RepL.lift ds r)
  | .lst ds, _, r => by
    cases r with
    | lst f r => exact .lst f (RepL.lift ds r)
  | .scr ds, _, r => by
    cases r with
    | scr f r => exact .scr f (RepL.lift ds r)
  | .dic ks vs, _, r => by
    cases r with
    | dicF n f r q => exact .dicF n f (RepL.lift ks r) (RepL.lift vs q)
    | dicN n f e r q => exact .dicN n f e (RepL.lift ks r) (RepL.lift vs q)
  | .obj c ns vs, _, r => by
    cases r with
    | obj n f e r => exact .obj n f e (RepL.lift vs r)
theorem RepL.lift : ∀ (ds : List D) {vs : List V}, RepL g (T0 T.ν) H ds vs → RepL g T H ds vs
  | [], _, r => by cases r; exact .nil
  | d :: ds, _, r => by
    cases r with
    | cons r s => exact .cons (Rep.lift d r) (RepL.lift ds s)
end
theorem notup (hν : ∀ a ∈ T.ν, ∃ u, H a = some u ∧ Mu u) {a : Addr} {xs : List V} (h : H a = some (.tup xs)) : a ∉ T.ν := fun z => by
  obtain ⟨u, e, q⟩ := hν a z
  rw [h] at e
  cases e
  exact q
mutual
theorem Rep.ground {ν : List Addr} (hν : ∀ a ∈ T.ν, ∃ u, H a = some u ∧ Mu u) : ∀ (d : D) {v : V}, groundD d = true → Rep g (T0 ν) H d v → Rep g T H d v
  | .non, _, _, r => by cases r; exact .non
  | .bl _, _, _, r => by cases r; exact .bl _
  | .int _, _, _, r => by cases r; exact .int _
  | .str _, _, _, r => by cases r; exact .str _
  | .glo _, _, _, r => by cases r; exact .glo _
  | .ty _, _, _, r => by cases r; exact .ty _
  | .ref _, _, h, _ => by rw [groundD] at h; cases h
  | .lst _, _, h, _ => by rw [groundD] at h; cases h
  | .scr _, _, h, _ => by rw [groundD] at h; cases h
  | .dic _ _, _, h, _ => by rw [groundD] at h; cases h
  | .obj _ _ _, _, h, _ => by rw [groundD] at h; cases h
  | .tup ds, _, h, r => by
    rw [groundD] at h
    cases r with
    | tup f r =>
      refine .tup ?_ (RepL.ground hν ds h r)
      rcases f with ⟨_, f⟩ | f
      · exact .inl ⟨notup hν f, f⟩
      · exact .inr f
theorem RepL.ground {ν : List Addr} (hν : ∀ a ∈ T.ν, ∃ u, H a = some u ∧ Mu u) : ∀ (ds : List D) {vs : List V}, groundL ds = true → RepL g (T0 ν) H ds vs → RepL g T H ds vs
  | [], _, _, r => by cases r; exact .nil
  | d :: ds, _, h, r => by
    rw [groundL] at h
    cases r with
    | cons r s => exact .cons (Rep.ground hν d (and2 h).1 r) (RepL.ground hν ds (and2 h).2 s)
end
end
/-! tracked things told as data -/
def mapO (f : D → Option D) : List D → Option (List D)
  | [] => some []
  | d :: ds => match f d, mapO f ds with
    | some e, some es => some (e :: es)
    | _, _ => none
def frzGo (m : M) : Nat → D → Option D
  | 0, _ => none
  | n + 1, .tup ds => (mapO (frzGo m n) ds).map .tup
  | n + 1, .lst ds => (mapO (frzGo m n) ds).map .lst
  | n + 1, .scr ds => (mapO (frzGo m n) ds).map .scr
  | n + 1, .dic ks vs => match mapO (frzGo m n) ks, mapO (frzGo m n) vs with
    | some a, some b => if pureL ks then some (.dic ks b) else none
    | _, _ => none
  | n + 1, .obj c ns vs => (mapO (frzGo m n) vs).map (.obj c ns)
  | n + 1, .ref k => match m[k]? with
    | some (.lst ds) => (mapO (frzGo m n) ds).map .lst
    | some (.dic ks vs) => if pureL ks then (mapO (frzGo m n) vs).map (.dic ks) else none
    | some (.ins c ns vs) => (mapO (frzGo m n) vs).map (.obj c ns)
    | none => none
  | _ + 1, d => some d
def frz (m : M) (d : D) : Option D := if pureD d then some d else frzGo m 40 d
def frzL (m : M) (ds : List D) : Option (List D) := if pureL ds then some ds else mapO (frz m) ds
section
variable {g : G} {T : Tk} {H : Hp} {m : M}
theorem RepL.mapO {T' : Tk} {f : D → Option D} (hf : ∀ d e v, f d = some e → Rep g T H d v → Rep g T' H e v) : ∀ {ds es : List D} {vs : List V}, L4.mapO f ds = some es → RepL g T H ds vs → RepL g T' H es vs
  | [], _, _, h, .nil => by cases h; exact .nil
  | d :: ds, es, _, h, .cons r s => by
    unfold L4.mapO at h
    split at h
    · next e es' h1 h2 => cases h; exact .cons (hf _ _ _ h1 r) (RepL.mapO hf h2 s)
    · cases h
theorem frzGo_ok {ν : List Addr} (hm : RepH g T H m) (hν : ∀ a ∈ ν, a ∈ T.ν) (hμ : ∀ a ∈ T.μ, a ∉ ν) : ∀ (n : Nat) (d e : D) (v : V), frzGo m n d = some e → Rep g T H d v → Rep g (T0 ν) H e v
  | 0, _, _, _, h, _ => by cases h
  | n + 1, d, e, v, h, r => by
    have ih := frzGo_ok hm hν hμ n
    cases r with
    | non => cases h; exact .non
    | bl b => cases h; exact .bl b
    | int i => cases h; exact .int i
    | str x => cases h; exact .str x
    | glo x => cases h; exact .glo x
    | ty x => cases h; exact .ty x
    | tup f r =>
      obtain ⟨es, h1, rfl⟩ := Option.map_eq_some_iff.mp h
      exact .tup (f.less hν) (r.mapO ih h1)
    | lst f r =>
      obtain ⟨es, h1, rfl⟩ := Option.map_eq_some_iff.mp h
      exact .lst (f.less hν) (r.mapO ih h1)
    | scr f r =>
      obtain ⟨es, h1, rfl⟩ := Option.map_eq_some_iff.mp h
      exact .scr (f.less hν) (r.mapO ih h1)
    | dicF k f r q =>
      unfold frzGo at h
      split at h
      · next a b h1 h2 =>
        split at h
        · next hp => cases h; exact .dicF (fun z => k (hν _ z)) f (RepL.pure hν _ hp r) (q.mapO ih h2)
        · cases h
      · cases h
    | dicN k f e r q =>
      unfold frzGo at h
      split at h
      · next a b h1 h2 =>
        split at h
        · next hp => cases h; exact .dicN (fun z => k (hν _ z)) f e (RepL.pure hν _ hp r) (q.mapO ih h2)
        · cases h
      · cases h
    | obj k f e r =>
      obtain ⟨es, h1, rfl⟩ := Option.map_eq_some_iff.mp h
      exact .obj (fun z => k (hν _ z)) f e (r.mapO ih h1)
    | @ref k a hk =>
      have na : a ∉ ν := hμ a (List.mem_of_getElem? hk)
      unfold frzGo at h
      split at h
      · next ds h1 =>
        obtain ⟨es, h2, rfl⟩ := Option.map_eq_some_iff.mp h
        cases hm.at_ _ _ _ hk h1 with
        | lst f r => exact .lst ⟨na, f⟩ (r.mapO ih h2)
      · next ks vs h1 =>
        split at h
        · next hp =>
          obtain ⟨es, h2, rfl⟩ := Option.map_eq_some_iff.mp h
          cases hm.at_ _ _ _ hk h1 with
          | dicF f r q => exact .dicF na (.inl f) (RepL.pure hν _ hp r) (q.mapO ih h2)
          | dicN f e r q => exact .dicN na (.inl f) e (RepL.pure hν _ hp r) (q.mapO ih h2)
        · cases h
      · next c ns vs h1 =>
        obtain ⟨es, h2, rfl⟩ := Option.map_eq_some_iff.mp h
        cases hm.at_ _ _ _ hk h1 with
        | ins f e r => exact .obj na f e (r.mapO ih h2)
      · cases h
theorem frz_ok {ν : List Addr} (hm : RepH g T H m) (hν : ∀ a ∈ ν, a ∈ T.ν) (hμ : ∀ a ∈ T.μ, a ∉ ν) {d e : D} {v : V} (h : frz m d = some e) (r : Rep g T H d v) : Rep g (T0 ν) H e v := by
  unfold frz at h
  split at h
  · next hp => cases h; exact Rep.pure hν _ hp r
  · exact frzGo_ok hm hν hμ _ _ _ _ h r
theorem frzL_ok {ν : List Addr} (hm : RepH g T H m) (hν : ∀ a ∈ ν, a ∈ T.ν) (hμ : ∀ a ∈ T.μ, a ∉ ν) {d e : List D} {v : List V} (h : frzL m d = some e) (r : RepL g T H d v) : RepL g (T0 ν) H e v := by
  unfold frzL at h
  split at h
  · next hp => cases h; exact RepL.pure hν _ hp r
  · exact r.mapO (fun d e v h r => frz_ok hm hν hμ h r) h
end
/-! defs -/
structure FnG (P : Program) (w : World) (K : PySem.W.Frag) (mg : Str → Option Value) (base : Heap) (CX : CXT) (k : Nat) (f : Addr) (fd : FuncData) (ps : List Str) (sp : Sp) : Prop where
  len : ∀ vs H Q E, sp vs H Q E → vs.length = ps.length
  run : ∀ (A : Around) (outer : List Env) (s : Shared) (H : Hp) (args : Args) (us : List Value) (vs : List V) (Q : VK) (E : XK), A.guards = some [] → Room k A → Env0 P w K mg base A outer s H →
    BindsTo s fd args (ps.zip us) → Vals vs us → sp vs H Q E → codeAny (model P w) A (.call (.ref f) args) (CR CX outer P w H s Q E) s
theorem FnG.old {P : Program} {w : World} {K : PySem.W.Frag} {mg : Str → Option Value} {base : Heap} {k : Nat} {f : Addr} {fd : FuncData} {ps : List Str} {sp : Sp} (F : L3.FnG P w K mg base k f fd ps sp) : FnG P w K mg base CX0 k f fd ps sp := ⟨F.len, F.run⟩
/-- where a call may be made -/
structure Gd (k : Nat) (X : Cx) : Prop where
  g : X.A.guards = some []
  r : Room k X.A
theorem Gd.mono {j k : Nat} {X : Cx} (h : Gd k X) (l : j ≤ k) : Gd j X := ⟨h.g, h.r.mono l⟩
section
variable {X : Cx} {k : Nat} {f : Addr} {fd : FuncData} {ps : List Str} {sp : Sp} {ds : List Value} {dvs : List V}
theorem FnG.call (F : FnG X.prog X.w X.K X.mg X.base CX0 k f fd ps sp) (hr : Gd k X) (hb : Binds X.K fd ps ds) (hd : Vals dvs ds) : CallR X (.ref f) fun vs H Q => sp (vs ++ dvs) H Q E0 := by
  intro pins s σ H vs us Q I r h
  have r2 : Vals (vs ++ dvs) (us ++ ds) := r.append hd
  have hl : (us ++ ds).length = ps.length := by rw [← r2.length]; exact F.len _ _ _ _ h
  refine wpAny_call (codeAny_mono (F.run X.A X.stack s H ⟨us, []⟩ (us ++ ds) (vs ++ dvs) Q E0 hr.g hr.r I.env0 (hb s us I.kIn hl) r2 h) fun r s' hq => ?_)
  cases r with
  | error e => exact hq.elim
  | ok fl =>
    cases fl with
    | ret u => exact I.after hq
    | next => exact False.elim hq
    | brk => exact False.elim hq
    | cont => exact False.elim hq
variable {r : List V → Hp → VK → Prop} {x : Str} {p pos : Pos} {e : Expr} {es : List Expr} {t : TA}
theorem pe_callR (hc : CallR X (.ref f) r) (hg : Gl X x) (hm : X.mg x = some (.ref f)) (hk : PySem.W.keepIn X.K (.ref f) = true) (ha : PA X (e :: es) t) (hdb : (x == ("__debug__" : Str)) = false := by decide)
    (he : starEach (e :: es) X.env = (false, eval e X.env) :: starEach es X.env := by rfl) (hpl : (backTo pos (starEach es X.env)).any (·.1) = false := by rfl) : PE X (.Call (.Name x p) (e :: es) [] pos) (tCB r t) := by
  refine ⟨fun pins s σ H Q I h => ?_⟩
  refine wpAny_Call_Name_kw (ld_glob I hg hm ?_ hdb)
  refine PySem.W.callWith_K (h₀ := X.base) I.ok.mod.kin hk (thn (ha.run pos pins s σ H _ I h) fun us s1 ⟨vs, H1, I1, r, q⟩ => ⟨I1.kIn, ?_⟩) he hpl
  exact hc pins s1 σ H1 vs us Q I1 r q
theorem pe_callR0 (hc : CallR X (.ref f) r) (hg : Gl X x) (hm : X.mg x = some (.ref f)) (hk : PySem.W.keepIn X.K (.ref f) = true) (hdb : (x == ("__debug__" : Str)) = false := by decide) : PE X (.Call (.Name x p) [] [] pos) (tCB r tNil) := by
  refine ⟨fun pins s σ H Q I h => ?_⟩
  refine wpAny_Call_Name_kw (ld_glob I hg hm ?_ hdb)
  exact PySem.W.callWith_K0 I.kIn hk (hc pins s σ H [] [] Q I .nil h)
end
/-- what a def on plain data promises -/
def spP (g : G) (n : Nat) (F : List D → Option D) : Sp := fun vs H Q _ => vs.length = n ∧ ∃ (ν : List Addr) (ds : List D) (d : D), (∀ a ∈ ν, ∃ u, H a = some u ∧ Mu u) ∧ RepL g (T0 ν) H ds vs ∧ F ds = some d ∧
  ∀ v H', (∀ a u, H a = some u → H' a = some u) → Rep g (T0 ν) H' d v → Q v H'
/-- .. on tracked things too -/
def spM (g : G) (n : Nat) (F : List D → M → Option (D × M)) : Sp := fun vs H Q _ => vs.length = n ∧ ∃ (T : Tk) (m : M) (ds : List D) (d : D) (m' : M), RepH g T H m ∧ RepL g T H ds vs ∧ F ds m = some (d, m') ∧ KV g T H m' d Q
def startD (n : Nat) (ds : List D) : Ss := ds.map some ++ List.replicate (n - ds.length) none
theorem repS_start {g : G} {T : Tk} {H : Hp} {N : List Str} {ds : List D} {vs : List V} (r : RepL g T H ds vs) : RepS g T H (L2.start N vs) (startD N.length ds) := by
  refine ⟨by simp [L2.start, startD, r.length], fun i d h => ?_⟩
  unfold startD at h
  by_cases hi : i < ds.length
  · rw [List.getElem?_append_left (by simpa using hi), List.getElem?_map] at h
    obtain ⟨e, h1, h2⟩ := Option.map_eq_some_iff.mp h
    cases h2
    obtain ⟨v, h3, q⟩ := r.get h1
    exact ⟨v, by
      unfold L2.start
      rw [List.getElem?_append_left (by simpa [← r.length] using hi), List.getElem?_map, h3]
      rfl, q⟩
  · rw [List.getElem?_append_right (by simpa using hi)] at h
    have := List.mem_of_getElem? h
    simp at this
def endP : Option (Fl × M) → Option D
  | some (.rt d, m) => frz m d
  | some (.nx _, _) => some .non
  | _ => none
def endM : Option (Fl × M) → Option (D × M)
  | some (.rt d, m') => some (d, m')
  | some (.nx _, m') => some (.non, m')
  | _ => none
def runP (a n : Nat) (b : SF) (ds : List D) : Option D := if ds.length = a then endP (b (startD n ds) []) else none
def runM (a n : Nat) (b : SF) (ds : List D) (m : M) : Option (D × M) := if ds.length = a then endM (b (startD n ds) m) else none
theorem ite_some {α : Type} {c : Prop} [Decidable c] {a : Option α} {b : α} (h : (if c then a else none) = some b) : c ∧ a = some b := by
  split at h
  · next hc => exact ⟨hc, h⟩
  · cases h
theorem runP_len {a n : Nat} {b : SF} {ds : List D} {d : D} (h : runP a n b ds = some d) : ds.length = a := (ite_some h).1
theorem runM_len {a n : Nat} {b : SF} {ds : List D} {m : M} {r : D × M} (h : runM a n b ds m = some r) : ds.length = a := (ite_some h).1
theorem spP_run {g : G} {n a : Nat} {N : List Str} {t : TS} {b : SF} (ht : RfS g t b) {vs : List V} {H : Hp} {Q : VK} {E : XK} (h : spP g n (runP a N.length b) vs H Q E) : t { nx := fun _ H' => Q .non H', rt := Q } (L2.start N vs) H := by
  obtain ⟨_, ν, ds, d, hν, r, hf, k⟩ := h
  have hm : RepH g (T0 ν) H [] := ⟨rfl, List.nodup_nil, hν, fun n a o h _ => by cases h⟩
  replace hf := (ite_some hf).2
  unfold endP at hf
  split at hf
  · next d' m e =>
    refine ht (T0 ν) _ H _ [] _ _ hm (repS_start r) e _ fun v T' H' l hm' rv => ?_
    refine k v H' (fun a u h => l.keep a u h fun z => nomatch z) (frz_ok hm' (fun a h => l.up a h) (fun a h z => ?_) hf rv)
    have := l.newμ a h fun z => nomatch z
    obtain ⟨u, q, _⟩ := hν a z
    rw [this] at q
    cases q
  · next e =>
    cases hf
    exact ht (T0 ν) _ H _ [] _ _ hm (repS_start r) e _ fun σ T' H' l hm' rv => k _ H' (fun a u h => l.keep a u h fun z => nomatch z) .non
  · cases hf
theorem spM_run {g : G} {n a : Nat} {N : List Str} {t : TS} {b : SF} (ht : RfS g t b) {vs : List V} {H : Hp} {Q : VK} {E : XK} (h : spM g n (runM a N.length b) vs H Q E) : t { nx := fun _ H' => Q .non H', rt := Q } (L2.start N vs) H := by
  obtain ⟨_, T, m, ds, d, m', hm, r, hf, k⟩ := h
  replace hf := (ite_some hf).2
  unfold endM at hf
  split at hf
  · next d' m e =>
    cases hf
    exact ht T _ H _ m _ _ hm (repS_start r) e _ k
  · next e =>
    cases hf
    exact ht T _ H _ m _ _ hm (repS_start r) e _ fun σ T' H' l hm' rv => k _ T' H' l hm' .non
  · cases hf
/-- a call of a def on plain data: tracked things are lent where what comes back is plain -/
def callP (F : List D → Option D) (m : M) (ds : List D) : Option D := if pureL ds then F ds else match mapO (frz m) ds with
  | some es => match F es with
    | some d => if groundD d then some d else none
    | none => none
  | none => none
theorem rf_callP {g : G} {n : Nat} {F : List D → Option D} (hn : ∀ ds d, F ds = some d → ds.length = n) : RfC g (fun vs H Q => spP g n F vs H Q E0) (callP F) := by
  intro T H m xs vs d hm r hf Q k
  unfold callP at hf
  split at hf
  · next hp =>
    refine ⟨by rw [← r.length]; exact hn _ _ hf, T.ν, xs, d, hm.has, RepL.pure (fun _ h => h) _ hp r, hf, fun v H' up rv => ?_⟩
    obtain ⟨l, hm'⟩ := hm.grow up
    exact k v T H' l hm' (Rep.lift _ rv)
  · split at hf
    · next es h1 =>
      split at hf
      · next d' h2 =>
        split at hf
        · next hg =>
          cases hf
          have re : RepL g (T0 []) H es vs := r.mapO (fun d e v h q => frz_ok hm (fun a h => (List.not_mem_nil h).elim) (fun a _ h => (List.not_mem_nil h).elim) h q) h1
          refine ⟨by rw [← re.length]; exact hn _ _ h2, [], es, d, fun a h => (List.not_mem_nil h).elim, re, h2, fun v H' up rv => ?_⟩
          obtain ⟨l, hm'⟩ := hm.grow up
          exact k v T H' l hm' (Rep.ground hm'.has _ hg rv)
        · cases hf
      · cases hf
    · cases hf
/-- a call of a def on tracked things -/
def eCallM (F : List D → M → Option (D × M)) (a : AF) : EF := fun ρ m => bd (a ρ m) fun xs m1 => F xs m1
theorem rf_callM {g : G} {n : Nat} {F : List D → M → Option (D × M)} {t : TA} {a : AF} (hn : ∀ ds m r, F ds m = some r → ds.length = n) (ha : RfA g t a) : RfE g (tCB (fun vs H Q => spM g n F vs H Q E0) t) (eCallM F a) := by
  intro T σ H ρ m d m' hm hs hf Q k
  obtain ⟨x, m1, e1, hf⟩ := bd_some hf
  refine ha T σ H ρ m x _ hm hs e1 _ fun v T1 H1 l1 hm1 r1 => ?_
  exact ⟨by rw [← r1.length]; exact hn _ _ _ hf, T1, m1, x, d, m', hm1, r1, hf, k.le l1⟩
end L4

namespace L4
open PySem L2
/-! whole numbers -/
def addI : D → D → Option D
  | .int i, .int j => some (.int (i + j))
  | _, _ => none
def subD : M → D → D → Option D
  | _, .int i, .int j => some (.int (i - j))
  | _, _, _ => none
def fdivD : M → D → D → Option D
  | _, .int i, .int j => if 0 < j ∧ j < 1073741824 then some (.int (i / j)) else none
  | _, _, _ => none
def modD : M → D → D → Option D
  | _, .int i, .int j => if 0 < j then some (.int (i % j)) else none
  | _, _, _ => none
def powD : M → D → D → Option D
  | _, .int i, .int j => if 0 ≤ j ∧ j ≤ 1000000 ∧ i.natAbs < 2 ^ 64 then some (.int (i ^ j.toNat)) else none
  | _, _, _ => none
def negD : M → D → Option D
  | _, .int i => some (.int (-i))
  | _, _ => none
section
variable {X : Cx} {g : G} {T : Tk} {H : Hp} {m : M} {Q : VK}
theorem KV.now {d : D} {v : V} (k : KV g T H m d Q) (hm : RepH g T H m) (r : Rep g T H d v) : Q v H := k v T H .refl hm r
theorem op_sub' : OpD X (binaryOp .Sub) subD := ⟨_, op_sub, fun T H m x y v u d hm rx ry hf Q k => by
  cases rx <;> cases ry <;> first | (cases hf; exact ⟨_, _, rfl, rfl, k.now hm (.int _)⟩) | (cases hf; done)⟩
theorem op_fdiv' : OpD X (binaryOp .FloorDiv) fdivD := ⟨_, op_fdiv, fun T H m x y v u d hm rx ry hf Q k => by
  cases rx <;> cases ry <;> first | (cases hf; done) | (obtain ⟨h, hf⟩ := ite_some hf; cases hf; exact ⟨_, _, rfl, rfl, h, k.now hm (.int _)⟩)⟩
theorem op_mod' : OpD X (binaryOp .Mod) modD := ⟨_, op_mod, fun T H m x y v u d hm rx ry hf Q k => by
  cases rx <;> cases ry <;> first | (cases hf; done) | (obtain ⟨h, hf⟩ := ite_some hf; cases hf; exact ⟨_, _, rfl, rfl, h, k.now hm (.int _)⟩)⟩
theorem op_pow' : OpD X (binaryOp .Pow) powD := ⟨_, op_pow, fun T H m x y v u d hm rx ry hf Q k => by
  cases rx <;> cases ry <;> first | (cases hf; done) | (obtain ⟨h, hf⟩ := ite_some hf; cases hf; exact ⟨_, _, rfl, rfl, h, k.now hm (.int _)⟩)⟩
theorem un_neg' : UnD X (unaryOp .USub) negD := ⟨_, un_neg, fun T H m x v d hm rx hf Q k => by
  cases rx <;> first | (cases hf; exact ⟨_, rfl, k.now hm (.int _)⟩) | (cases hf; done)⟩
/-! comparisons of whole numbers and texts -/
def cmpI (p : Int → Int → Bool) (q : List Nat → List Nat → Bool) : M → D → D → Option D
  | _, .int i, .int j => some (.bl (p i j))
  | _, .str i, .str j => some (.bl (q i.cps.toList j.cps.toList))
  | _, _, _ => none
def ltD := cmpI (fun i j => decide (i < j)) (fun i j => decide (i < j))
def leD : M → D → D → Option D
  | _, .int i, .int j => some (.bl (decide (i ≤ j)))
  | _, _, _ => none
def gtD : M → D → D → Option D
  | _, .int i, .int j => some (.bl (decide (j < i)))
  | _, _, _ => none
def geD : M → D → D → Option D
  | _, .int i, .int j => some (.bl (decide (j ≤ i)))
  | _, _, _ => none
theorem orR {F : Value → Value → Sem Value} {r q : R2} (h1 : OpR X F r) (h2 : OpR X F q) : OpR X F (fun x y H Q => r x y H Q ∨ q x y H Q) := by
  intro pins s σ H x y v u Q I rx ry h
  rcases h with h | h
  · exact h1 pins s σ H x y v u Q I rx ry h
  · exact h2 pins s σ H x y v u Q I rx ry h
theorem op_lt' : OpD X (compareOp .Lt) ltD := ⟨_, orR op_lt op_lt_str, fun T H m x y v u d hm rx ry hf Q k => by
  cases rx <;> cases ry <;> first | (cases hf; exact .inl ⟨_, _, rfl, rfl, k.now hm (.bl _)⟩) | (cases hf; exact .inr ⟨_, _, rfl, rfl, k.now hm (.bl _)⟩) | (cases hf; done)⟩
theorem op_le' : OpD X (compareOp .LtE) leD := ⟨_, op_le, fun T H m x y v u d hm rx ry hf Q k => by
  cases rx <;> cases ry <;> first | (cases hf; exact ⟨_, _, rfl, rfl, k.now hm (.bl _)⟩) | (cases hf; done)⟩
theorem op_gt' : OpD X (compareOp .Gt) gtD := ⟨_, op_gt, fun T H m x y v u d hm rx ry hf Q k => by
  cases rx <;> cases ry <;> first | (cases hf; exact ⟨_, _, rfl, rfl, k.now hm (.bl _)⟩) | (cases hf; done)⟩
theorem op_ge' : OpD X (compareOp .GtE) geD := ⟨_, op_ge, fun T H m x y v u d hm rx ry hf Q k => by
  cases rx <;> cases ry <;> first | (cases hf; exact ⟨_, _, rfl, rfl, k.now hm (.bl _)⟩) | (cases hf; done)⟩
/-! lists and tuples that are read -/
def lstO : O → Option (List D)
  | .lst ds => some ds
  | _ => none
def lstOf (m : M) : D → Option (List D)
  | .lst ds => some ds
  | .ref n => (m[n]?).bind lstO
  | _ => none
theorem lst_rep {x : D} {v : V} {ds : List D} (hm : RepH g T H m) (r : Rep g T H x v) (h : lstOf m x = some ds) : ∃ a vs, v = .ref a ∧ H a = some (.lst vs) ∧ RepL g T H ds vs := by
  cases r with
  | lst f r => cases h; exact ⟨_, _, rfl, f.2, r⟩
  | ref e =>
    obtain ⟨o, h1, h2⟩ := Option.bind_eq_some_iff.mp h
    cases hm.at_ _ _ _ e h1 with
    | lst f r => cases h2; exact ⟨_, _, rfl, f, r⟩
    | _ => cases h2
  | _ => cases h
/-- a list that is read, the script too -/
def lstR (m : M) : D → Option (List D)
  | .scr ds => some ds
  | d => lstOf m d
theorem lstR_rep {x : D} {v : V} {ds : List D} (hm : RepH g T H m) (r : Rep g T H x v) (h : lstR m x = some ds) : ∃ a vs, v = .ref a ∧ SqL g.K H a vs ∧ RepL g T H ds vs := by
  unfold lstR at h
  split at h
  · cases h
    cases r with
    | scr f r => exact ⟨_, _, rfl, f.sq, r⟩
  · obtain ⟨a, vs, e, q, r⟩ := lst_rep hm r h
    exact ⟨a, vs, e, .of q, r⟩
theorem tup_rep {v : V} {ds : List D} (r : Rep g T H (.tup ds) v) : ∃ a vs, v = .ref a ∧ SqT g.K H a vs ∧ RepL g T H ds vs := by
  cases r with
  | tup f r => exact ⟨_, _, rfl, f.sq, r⟩
/-- a new tuple -/
theorem KV.tup {ds : List D} {vs : List V} (k : KV g T H m (.tup ds) Q) (hm : RepH g T H m) (r : RepL g T H ds vs) (p : Addr) (hp : H p = none) : Q (.ref p) (upd H p (.tup vs)) := by
  obtain ⟨l, hm'⟩ := hm.fresh (u := .tup vs) hp
  exact k _ T _ l hm' (.tup (.inl ⟨fun z => hm.nope hp z, upd_same⟩) (r.le l))
/-- a new list that stays as it is -/
theorem KV.lst {ds : List D} {vs : List V} (k : KV g T H m (.lst ds) Q) (hm : RepH g T H m) (r : RepL g T H ds vs) (p : Addr) (hp : H p = none) : Q (.ref p) (upd H p (.lst vs)) := by
  obtain ⟨l, hm'⟩ := hm.fresh (u := .lst vs) hp
  exact k _ T _ l hm' (.lst ⟨fun z => hm.nope hp z, upd_same⟩ (r.le l))
/-- a new list that is tracked -/
theorem KV.newL {ds : List D} {vs : List V} (k : KV g T H (m ++ [.lst ds]) (.ref m.length) Q) (hm : RepH g T H m) (r : RepL g T H ds vs) (p : Addr) (hp : H p = none) : Q (.ref p) (upd H p (.lst vs)) := by
  obtain ⟨l, hm'⟩ := hm.push (u := .lst vs) (o := .lst ds) hp fun l => .lst upd_same (r.le l)
  refine k _ (T.push p) _ l hm' (.ref ?_)
  show (T.μ ++ [p])[m.length]? = some p
  rw [← hm.len, List.getElem?_append_right (Nat.le_refl _)]
  simp
def eTup (a : AF) : EF := fun ρ m => bd (a ρ m) fun xs m1 => if xs.length ≤ sizeLine then some (.tup xs, m1) else none
def eLst (a : AF) : EF := fun ρ m => bd (a ρ m) fun xs m1 => if xs.length ≤ sizeLine then some (.lst xs, m1) else none
def eNewL (a : AF) : EF := fun ρ m => bd (a ρ m) fun xs m1 => if xs.length ≤ sizeLine then some (.ref m1.length, m1 ++ [.lst xs]) else none
variable {pos : Pos}
theorem de_tup {es : List Expr} {f : AF} {k} (ha : DA X es f) : DE X (.Tuple es k pos) (eTup f) := by
  obtain ⟨ta, pa, ra⟩ := ha.ex
  refine ⟨_, pe_tup pa, fun T σ H ρ m d m' hm hs hf Q k => ?_⟩
  obtain ⟨x, m1, e1, hf⟩ := bd_some hf
  obtain ⟨hz, hf⟩ := ite_some hf
  cases hf
  refine ra T σ H ρ m x _ hm hs e1 _ fun vs T1 H1 l1 hm1 r1 => ⟨by rw [← r1.length]; exact hz, fun p hp => ?_⟩
  exact (k.le l1).tup hm1 r1 p hp
theorem de_lst {es : List Expr} {f : AF} (ha : DA X es f) : DE X (.List es pos) (eLst f) := by
  obtain ⟨ta, pa, ra⟩ := ha.ex
  refine ⟨_, pe_lst pa, fun T σ H ρ m d m' hm hs hf Q k => ?_⟩
  obtain ⟨x, m1, e1, hf⟩ := bd_some hf
  obtain ⟨hz, hf⟩ := ite_some hf
  cases hf
  refine ra T σ H ρ m x _ hm hs e1 _ fun vs T1 H1 l1 hm1 r1 => ⟨by rw [← r1.length]; exact hz, fun p hp => ?_⟩
  exact (k.le l1).lst hm1 r1 p hp
theorem de_newL {es : List Expr} {f : AF} (ha : DA X es f) : DE X (.List es pos) (eNewL f) := by
  obtain ⟨ta, pa, ra⟩ := ha.ex
  refine ⟨_, pe_lst pa, fun T σ H ρ m d m' hm hs hf Q k => ?_⟩
  obtain ⟨x, m1, e1, hf⟩ := bd_some hf
  obtain ⟨hz, hf⟩ := ite_some hf
  cases hf
  refine ra T σ H ρ m x _ hm hs e1 _ fun vs T1 H1 l1 hm1 r1 => ⟨by rw [← r1.length]; exact hz, fun p hp => ?_⟩
  exact (k.le l1).newL hm1 r1 p hp
/-- two texts, one behind the other -/
def catS (i j : Str) : Str := ⟨(i.cps.toList ++ j.cps.toList).toArray⟩
theorem catS_eq (i j : Str) : i ++ j = catS i j := by
  cases i with
  | mk a => cases j with
    | mk b =>
      show (⟨a ++ b⟩ : Str) = ⟨(a.toList ++ b.toList).toArray⟩
      congr 1
      exact Array.ext' (by simp)
/-! + and * -/
def addD (m : M) (x y : D) : Option D := match x, y with
  | .int i, .int j => some (.int (i + j))
  | .str i, .str j => if i.length + j.length ≤ sizeLine then some (.str (catS i j)) else none
  | .tup a, .tup b => if a.length + b.length ≤ sizeLine then some (.tup (a ++ b)) else none
  | x, y => match lstOf m x, lstOf m y with
    | some a, some b => if a.length + b.length ≤ sizeLine then some (.lst (a ++ b)) else none
    | _, _ => none
theorem addD_lst {m : M} {x y d : D} (h : addD m x y = some d) : (∃ i j, x = .int i ∧ y = .int j ∧ d = .int (i + j)) ∨ (∃ i j, x = .str i ∧ y = .str j ∧ i.length + j.length ≤ sizeLine ∧ d = .str (catS i j)) ∨
    (∃ a b, x = .tup a ∧ y = .tup b ∧ a.length + b.length ≤ sizeLine ∧ d = .tup (a ++ b)) ∨ (∃ a b, lstOf m x = some a ∧ lstOf m y = some b ∧ a.length + b.length ≤ sizeLine ∧ d = .lst (a ++ b)) := by
  unfold addD at h
  split at h
  · cases h; exact .inl ⟨_, _, rfl, rfl, rfl⟩
  · obtain ⟨hz, h⟩ := ite_some h; cases h; exact .inr (.inl ⟨_, _, rfl, rfl, hz, rfl⟩)
  · obtain ⟨hz, h⟩ := ite_some h; cases h; exact .inr (.inr (.inl ⟨_, _, rfl, rfl, hz, rfl⟩))
  · split at h
    · next h1 h2 => obtain ⟨hz, h⟩ := ite_some h; cases h; exact .inr (.inr (.inr ⟨_, _, h1, h2, hz, rfl⟩))
    · cases h
theorem op_add' : OpD X (binaryOp .Add) addD := ⟨_, orR op_add (orR op_add_str (orR op_catA op_cat)), fun T H m x y v u d hm rx ry hf Q k => by
  rcases addD_lst hf with ⟨i, j, rfl, rfl, rfl⟩ | ⟨i, j, rfl, rfl, hz, rfl⟩ | ⟨a, b, rfl, rfl, hz, rfl⟩ | ⟨a, b, h1, h2, hz, rfl⟩
  · cases rx; cases ry; exact .inl ⟨_, _, rfl, rfl, k.now hm (.int _)⟩
  · cases rx; cases ry; exact .inr (.inl ⟨_, _, rfl, rfl, hz, by rw [catS_eq]; exact k.now hm (.str _)⟩)
  · obtain ⟨p, xs, rfl, hx, r1⟩ := tup_rep rx
    obtain ⟨q, ys, rfl, hy, r2⟩ := tup_rep ry
    refine .inr (.inr (.inl ⟨p, q, xs, ys, rfl, rfl, hx, hy, by rw [← r1.length, ← r2.length]; exact hz, fun e => ?_, fun _ e => ?_, fun _ _ z hz => k.tup hm (r1.append r2) z hz⟩))
    · subst e; cases r1; exact k.now hm ry
    · subst e; cases r2; rw [List.append_nil] at k; exact k.now hm rx
  · obtain ⟨p, xs, rfl, hx, r1⟩ := lst_rep hm rx h1
    obtain ⟨q, ys, rfl, hy, r2⟩ := lst_rep hm ry h2
    exact .inr (.inr (.inr ⟨p, q, xs, ys, rfl, rfl, hx, hy, by rw [← r1.length, ← r2.length]; exact hz, fun z hz => k.lst hm (r1.append r2) z hz⟩))⟩
def mulD (m : M) (x y : D) : Option D := match x, y with
  | .int i, .int j => if (-(2 ^ 64) < i ∧ i < 2 ^ 64) ∨ (-(2 ^ 64) < j ∧ j < 2 ^ 64) then some (.int (i * j)) else none
  | .tup a, .int k => if a ≠ [] ∧ a.length ≤ 1000 ∧ 0 ≤ k ∧ k ≤ 1000 then some (.tup (List.replicate k.toNat a).flatten) else none
  | .lst a, .int k => if a.length ≤ 1000 ∧ 0 ≤ k ∧ k ≤ 1000 then some (.lst (List.replicate k.toNat a).flatten) else none
  | _, _ => none
theorem tuple_mul1 (l : Addr) (items : Array Value) (n : Nat) (dd : Option Addr) (sl : Array (Option Value)) (u : Tok) :
    Meets (Builtin.«tuple.__mul__» ⟨[.ref l, .int 1 u], []⟩) (fun _ R s => s.heap.get? l = some { cls := .type "tuple", dict := dd, data := .seq items n, slots := sl } ∧ R (.ok (.ret (Value.ref l))) s) :=
  .of_wp fun prog w A R s h => by
    obtain ⟨hp, g, d, tk, os⟩ := s
    obtain ⟨hl, h⟩ := h
    have f1 := AutoSeq1.idx_int
    wp_walk using wpAny_loadPart' hl
    exact ⟨_, rfl, h⟩
theorem tuple_mul0 (l : Addr) (items : Array Value) (n : Nat) (dd : Option Addr) (sl : Array (Option Value)) (u : Tok) (hi : items.isEmpty = false) :
    Meets (Builtin.«tuple.__mul__» ⟨[.ref l, .int 0 u], []⟩) (fun _ R s => s.heap.get? l = some { cls := .type "tuple", dict := dd, data := .seq items n, slots := sl } ∧ R (.ok (.ret (Value.ref s.heap.objs.size))) { s with heap := s.heap.push { cls := Value.type "tuple", data := Data.seq #[] } }) :=
  .of_wp fun prog w A R s h => by
    obtain ⟨hp, g, d, tk, os⟩ := s
    obtain ⟨hl, h⟩ := h
    have f1 := AutoSeq1.idx_int
    have c1 : (items.isEmpty || (0 : Int) == 1) = false := by rw [hi]; rfl
    wp_walk using wpAny_loadPart' hl
    repeat (first
      | (refine wpAny_ite_false (decide_eq_false (by rw [c1]; exact Bool.false_ne_true)) ?_; wp_walk using wpAny_loadPart' hl))
    exact ⟨_, rfl, h⟩
theorem repT_core {l : Addr} {k : Int} {t : Tok} {xs : List V} {pins : List (Addr × Obj)} {s : Shared} {σ : L2.St} {H : Hp} {Q : VK} (I : Inv X pins σ H s) (hT : SqT X.K H l xs) (h1 : k = 1 → Q (.ref l) H) (h0 : k = 0 → xs ≠ [] ∧ ∀ p, H p = none → Q (.ref p) (upd H p (.tup []))) (hk : k = 0 ∨ k = 1) :
    wpAny (model X.prog X.w) X.A (binaryOp .Mult (.ref l) (.int k t)) (EP X pins σ Q) X.xe s := by
  obtain ⟨its, r, ⟨⟨cls, dd, data, sl⟩, ho, hc, n, hd⟩, hs⟩ := I.tuple hT
  simp only at hc hd
  subst hc hd
  refine wpAny_binaryOp_repeat_ref (T := "tuple") (U := "int") (by decide) ⟨_, ho, rfl⟩ (fun s' => typeIs_int s' k t) noFill_tuple_mul F.fills_int_mul F.slot_int_rmul repeat_tuple F.slot_int_index.lookup
    (call_meets F.slot_int_rmul (typeIs_int s k t) F.entry_int_rmul (F.args_int_rmul_2 _ _) (int_rmul_tuple k t l its.toArray n dd sl)
      ⟨ho, rfl, ⟨_, ho, rfl⟩, ?_⟩)
  rcases hk with rfl | rfl
  · obtain ⟨hne, q⟩ := h0 rfl
    refine call_meets F.slot_tuple_mul ⟨_, ho, rfl⟩ F.entry_tuple_mul (F.args_tuple_mul_2 _ _) (tuple_mul0 l its.toArray n dd sl t ?_) ⟨ho, ?_⟩
    · cases its with
      | nil => cases r; exact absurd rfl hne
      | cons _ _ => rfl
    · exact ⟨.ref s.heap.objs.size, _, I.laid (t' := s.toks) (o := .tup []) (fun b ob q => Heap.get?_push_of_some _ q) (Nat.le_refl _) ⟨Nat.zero_le _, _, .nil, PyProof.Rows.IsTup.new _ _⟩, rfl, q _ (I.hok.fresh (Nat.le_refl _))⟩
  · refine call_meets F.slot_tuple_mul ⟨_, ho, rfl⟩ F.entry_tuple_mul (F.args_tuple_mul_2 _ _) (tuple_mul1 l its.toArray n dd sl t) ⟨ho, ?_⟩
    exact ⟨.ref l, H, I, rfl, h1 rfl⟩
def rRepS (K : PySem.W.Frag) : R2 := fun x y H Q => ∃ l k xs, x = .ref l ∧ y = .int k ∧ SqT K H l xs ∧ (k = 1 → Q (.ref l) H) ∧ (k = 0 → xs ≠ [] ∧ ∀ p, H p = none → Q (.ref p) (upd H p (.tup []))) ∧ (k = 0 ∨ k = 1)
theorem op_repS : OpR X (binaryOp .Mult) (rRepS X.K) := by
  intro pins s σ H x y v u Q I rx ry h
  obtain ⟨l, k, xs, rfl, rfl, hT, h1, h0, hk⟩ := h
  cases rx
  obtain ⟨t, rfl⟩ := ry
  exact repT_core I hT h1 h0 hk
theorem rep_nil {α : Type} (xs : List α) : (List.replicate 1 xs).flatten = xs := by simp
theorem RepL.rep {xs : List D} {vs : List V} (r : RepL g T H xs vs) : ∀ n : Nat, RepL g T H (List.replicate n xs).flatten (List.replicate n vs).flatten
  | 0 => .nil
  | n + 1 => by
    rw [List.replicate_succ, List.replicate_succ, List.flatten_cons, List.flatten_cons]
    exact r.append (RepL.rep r n)
theorem mulD_some {m : M} {x y d : D} (h : mulD m x y = some d) : (∃ i j, x = .int i ∧ y = .int j ∧ CMul i j ∧ d = .int (i * j)) ∨
    (∃ a k, x = .tup a ∧ y = .int k ∧ (a ≠ [] ∧ a.length ≤ 1000 ∧ 0 ≤ k ∧ k ≤ 1000) ∧ d = .tup (List.replicate k.toNat a).flatten) ∨ (∃ a k, x = .lst a ∧ y = .int k ∧ (a.length ≤ 1000 ∧ 0 ≤ k ∧ k ≤ 1000) ∧ d = .lst (List.replicate k.toNat a).flatten) := by
  unfold mulD at h
  split at h
  · obtain ⟨hz, h⟩ := ite_some h; cases h; exact .inl ⟨_, _, rfl, rfl, hz, rfl⟩
  · obtain ⟨hz, h⟩ := ite_some h; cases h; exact .inr (.inl ⟨_, _, rfl, rfl, hz, rfl⟩)
  · obtain ⟨hz, h⟩ := ite_some h; cases h; exact .inr (.inr ⟨_, _, rfl, rfl, hz, rfl⟩)
  · cases h
theorem op_mul' : OpD X (binaryOp .Mult) mulD := ⟨_, orR op_mul (orR op_repS (orR op_repT op_rep)), fun T H m x y v u d hm rx ry hf Q k => by
  rcases mulD_some hf with ⟨i, j, rfl, rfl, hc, rfl⟩ | ⟨a, n, rfl, rfl, ⟨h1, h2, h3, h4⟩, rfl⟩ | ⟨a, n, rfl, rfl, ⟨h2, h3, h4⟩, rfl⟩
  · cases rx; cases ry; exact .inl ⟨_, _, rfl, rfl, hc, k.now hm (.int _)⟩
  · obtain ⟨p, xs, rfl, hx, r1⟩ := tup_rep rx
    cases ry
    have hne : xs ≠ [] := fun e => by subst e; cases r1; exact h1 rfl
    by_cases hn : n = 0 ∨ n = 1
    · refine .inr (.inl ⟨p, n, xs, rfl, rfl, hx, fun e => ?_, fun e => ⟨hne, fun z hz => ?_⟩, hn⟩)
      · subst e; rw [show (List.replicate (1 : Int).toNat a).flatten = a from rep_nil a] at k; exact k.now hm rx
      · subst e; exact k.tup hm .nil z hz
    · refine .inr (.inr (.inl ⟨p, n, xs, rfl, rfl, hx, hne, by omega, h4, by rw [← r1.length]; exact h2, fun z hz => k.tup hm (r1.rep _) z hz⟩))
  · cases rx with
    | lst f r1 =>
      cases ry
      refine .inr (.inr (.inr ⟨_, n, _, rfl, rfl, f.2, by omega, by omega, ?_, fun z hz => k.lst hm (r1.rep _) z hz⟩))
      rw [← r1.length, sizeLine_eq]
      have : a.length * n.toNat ≤ 1000 * 1000 := Nat.mul_le_mul h2 (by omega)
      omega⟩
/-- [e] * n as a tracked list -/
def eRepNew (a n : EF) : EF := fun ρ m => bd (a ρ m) fun x m1 => bd (n ρ m1) fun y m2 => match x, y with
  | .lst a, .int k => if a.length ≤ 1000 ∧ 0 ≤ k ∧ k ≤ 1000 then some (.ref m2.length, m2 ++ [.lst (List.replicate k.toNat a).flatten]) else none
  | _, _ => none
theorem de_repNew {a b : Expr} {fa fb : EF} (ha : DE X a fa) (hb : DE X b fb) : DE X (.BinOp a .Mult b pos) (eRepNew fa fb) := by
  obtain ⟨ta, pa, ra⟩ := ha.ex; obtain ⟨tb, pb, rb⟩ := hb.ex
  refine ⟨_, pe_op op_rep pa pb, fun T σ H ρ m d m' hm hs hf Q k => ?_⟩
  obtain ⟨x, m1, e1, hf⟩ := bd_some hf
  obtain ⟨y, m2, e2, hf⟩ := bd_some hf
  refine ra T σ H ρ m x m1 hm hs e1 _ fun v T1 H1 l1 hm1 r1 => ?_
  refine rb T1 σ H1 ρ m1 y _ hm1 (hs.le l1) e2 _ fun u T2 H2 l2 hm2 r2 => ?_
  cases r1.le l2 with
  | @lst p vs a f q1 => cases r2 with
    | int n =>
      obtain ⟨⟨h2, h3, h4⟩, hf⟩ := ite_some hf
      cases hf
      refine ⟨_, n, _, rfl, rfl, f.2, by omega, by omega, ?_, fun z hz => (k.le (l1.trans l2)).newL hm2 (q1.rep _) z hz⟩
      rw [← q1.length, sizeLine_eq]
      have : a.length * n.toNat ≤ 1000 * 1000 := Nat.mul_le_mul h2 (by omega)
      omega
    | _ => cases hf
  | _ => cases hf
end
end L4

namespace L4
open PySem L2
section
variable {X : Cx} {g : G} {T : Tk} {H : Hp} {m : M} {Q : VK} {pos : Pos}
/-! subscripts -/
theorem RepL.atI {ds : List D} {vs : List V} {i : Int} {d : D} (r : RepL g T H ds vs) (h : L2.atI ds i = some d) : ∃ v, L2.atI vs i = some v ∧ Rep g T H d v := by
  unfold L2.atI at h ⊢
  obtain ⟨j, h1, h2⟩ := Option.bind_eq_some_iff.mp h
  obtain ⟨v, h3, q⟩ := r.get h2
  rw [← r.length, h1]
  exact ⟨v, h3, q⟩
def ixD (m : M) (x y : D) : Option D := match x, y with
  | .tup ds, .int i => L2.atI ds i
  | .str z, .int i => if z.length ≤ sizeLine then (L2.atI z.cps.toList i).map fun c => .str ⟨#[c]⟩ else none
  | x, .int i => (lstR m x).bind fun ds => L2.atI ds i
  | _, _ => none
theorem ixD_some {m : M} {x y d : D} (h : ixD m x y = some d) : (∃ ds i, x = .tup ds ∧ y = .int i ∧ L2.atI ds i = some d) ∨ (∃ z i c, x = .str z ∧ y = .int i ∧ z.length ≤ sizeLine ∧ L2.atI z.cps.toList i = some c ∧ d = .str ⟨#[c]⟩) ∨ (∃ ds i, lstR m x = some ds ∧ y = .int i ∧ L2.atI ds i = some d) := by
  unfold ixD at h
  split at h
  · exact .inl ⟨_, _, rfl, rfl, h⟩
  · obtain ⟨hz, h⟩ := ite_some h
    obtain ⟨c, h1, h2⟩ := Option.map_eq_some_iff.mp h
    exact .inr (.inl ⟨_, _, c, rfl, rfl, hz, h1, h2.symm⟩)
  · obtain ⟨ds, h1, h2⟩ := Option.bind_eq_some_iff.mp h
    exact .inr (.inr ⟨ds, _, h1, rfl, h2⟩)
  · cases h
theorem ixR_or {r q : R2} (h1 : IxR X r) (h2 : IxR X q) : IxR X (fun x y H Q => r x y H Q ∨ q x y H Q) := by
  intro value slice pins s σ H x y v u Q I rx ry h hs
  rcases h with h | h
  · exact h1 value slice pins s σ H x y v u Q I rx ry h hs
  · exact h2 value slice pins s σ H x y v u Q I rx ry h hs
theorem de_ix {a b : Expr} {fa fb : EF} (ha : DE X a fa) (hb : DE X b fb) (hs : PlainIx b := by exact fun _ _ => rfl) : DE X (.Subscript a b pos) (eOp ixD fa fb) := by
  obtain ⟨ta, pa, ra⟩ := ha.ex; obtain ⟨tb, pb, rb⟩ := hb.ex
  refine ⟨_, pe_ix (ixR_or ix_tup (ixR_or ix_str ix_list)) pa pb hs, rf_op (fun T H m x y v u d hm rx ry hf Q k => ?_) ra rb⟩
  rcases ixD_some hf with ⟨ds, i, rfl, rfl, h⟩ | ⟨z, i, c, rfl, rfl, hz, h, rfl⟩ | ⟨ds, i, h1, rfl, h⟩
  · obtain ⟨p, vs, rfl, hx, r1⟩ := tup_rep rx
    cases ry
    obtain ⟨w, e, q⟩ := r1.atI h
    exact .inl ⟨p, vs, i, w, rfl, rfl, hx, e, k.now hm q⟩
  · cases rx; cases ry
    exact .inr (.inl ⟨z, i, c, rfl, rfl, hz, h, k.now hm (.str _)⟩)
  · obtain ⟨p, vs, rfl, hx, r1⟩ := lstR_rep hm rx h1
    cases ry
    obtain ⟨w, e, q⟩ := r1.atI h
    exact .inr (.inr ⟨p, vs, i, w, rfl, rfl, hx, e, k.now hm q⟩)
/-! slices -/
abbrev OF := Ss → M → Option (Option Int × M)
def RfP (g : G) (t : TO) (f : OF) : Prop := ∀ T σ H ρ m d m', RepH g T H m → RepS g T H σ ρ → f ρ m = some (d, m') → ∀ Q : Option Int → Hp → Prop, (∀ T' H', Le T H T' H' → RepH g T' H' m' → Q d H') → t σ H Q
structure DP (X : Cx) (e : Option Expr) (f : OF) : Prop where
  ex : ∃ t, PO X e t ∧ RfP (gx X) t f
def oNo : OF := fun _ m => some (none, m)
def oYes (a : EF) : OF := fun ρ m => bd (a ρ m) fun x m1 => match x with
  | .int i => some (some i, m1)
  | _ => none
theorem dp_no : DP X none oNo := ⟨_, po_none, fun T σ H ρ m d m' hm hs hf Q k => by cases hf; exact k T H .refl hm⟩
theorem dp_yes {e : Expr} {f : EF} (h : DE X e f) : DP X (some e) (oYes f) := by
  obtain ⟨t, p, r⟩ := h.ex
  refine ⟨_, po_some p, fun T σ H ρ m d m' hm hs hf Q k => ?_⟩
  obtain ⟨x, m1, e1, hf⟩ := bd_some hf
  refine r T σ H ρ m x m1 hm hs e1 _ fun v T1 H1 l1 hm1 r1 => ?_
  cases r1 with
  | int i => cases hf; exact ⟨i, rfl, k T1 H1 l1 hm1⟩
  | _ => cases hf
def cutD {α : Type} (xs : List α) (lo hi : Option Int) : List α := (xs.drop (HT.sIx xs.length 0 lo)).take (HT.sIx xs.length xs.length hi - HT.sIx xs.length 0 lo)
theorem RepL.drop {ds : List D} {vs : List V} (n : Nat) (r : RepL g T H ds vs) : RepL g T H (ds.drop n) (vs.drop n) := by
  induction n generalizing ds vs with
  | zero => exact r
  | succ n ih => cases r with
    | nil => exact .nil
    | cons _ s => exact ih s
theorem RepL.take {ds : List D} {vs : List V} (n : Nat) (r : RepL g T H ds vs) : RepL g T H (ds.take n) (vs.take n) := by
  induction n generalizing ds vs with
  | zero => exact .nil
  | succ n ih => cases r with
    | nil => exact .nil
    | cons q s => exact .cons q (ih s)
theorem RepL.cut {ds : List D} {vs : List V} (r : RepL g T H ds vs) (lo hi : Option Int) : RepL g T H (cutD ds lo hi) (L2.cutV vs lo hi) := by
  unfold cutD L2.cutV
  rw [r.length]
  exact (r.drop _).take _
def slD (m : M) (x : D) (lo hi : Option Int) : Option D := match x with
  | .tup ds => some (.tup (cutD ds lo hi))
  | .str z => if z.length ≤ sizeLine then some (.str (L2.cutS z lo hi)) else none
  | x => (lstR m x).map fun ds => .lst (cutD ds lo hi)
theorem slD_some {m : M} {x d : D} {lo hi : Option Int} (h : slD m x lo hi = some d) : (∃ ds, x = .tup ds ∧ d = .tup (cutD ds lo hi)) ∨ (∃ z, x = .str z ∧ z.length ≤ sizeLine ∧ d = .str (L2.cutS z lo hi)) ∨ (∃ ds, lstR m x = some ds ∧ d = .lst (cutD ds lo hi)) := by
  unfold slD at h
  split at h
  · cases h; exact .inl ⟨_, rfl, rfl⟩
  · obtain ⟨hz, h⟩ := ite_some h; cases h; exact .inr (.inl ⟨_, rfl, hz, rfl⟩)
  · obtain ⟨ds, h1, h2⟩ := Option.map_eq_some_iff.mp h
    exact .inr (.inr ⟨ds, h1, h2.symm⟩)
theorem slR_or {r q : V → Option Int → Option Int → Hp → VK → Prop} (h1 : SlR X r) (h2 : SlR X q) : SlR X (fun x lo hi H Q => r x lo hi H Q ∨ q x lo hi H Q) := by
  intro pins s σ H x v vl vu lo hi sl Q I rx hs pl pu h
  rcases h with h | h
  · exact h1 pins s σ H x v vl vu lo hi sl Q I rx hs pl pu h
  · exact h2 pins s σ H x v vl vu lo hi sl Q I rx hs pl pu h
def eSl (a : EF) (lo hi : OF) : EF := fun ρ m => bd (a ρ m) fun x m1 => bd (lo ρ m1) fun l m2 => bd (hi ρ m2) fun u m3 => pu (slD m3 x l u) m3
theorem whole_cut {α : Type} {xs : List α} {lo hi : Option Int} (h : HT.sIx xs.length 0 lo = 0 ∧ HT.sIx xs.length xs.length hi = xs.length) : cutD xs lo hi = xs := by
  unfold cutD
  rw [h.1, h.2]
  simp
theorem de_sl {e : Expr} {lo hi : Option Expr} {f : EF} {fl fh : OF} {p2 : Pos} (he : DE X e f) (hl : DP X lo fl) (hh : DP X hi fh) : DE X (.Subscript e (.Slice lo hi none p2) pos) (eSl f fl fh) := by
  obtain ⟨t, p, r⟩ := he.ex; obtain ⟨tl, pl, rl⟩ := hl.ex; obtain ⟨th, ph, rh⟩ := hh.ex
  refine ⟨_, pe_slice (slR_or sl_tupA (slR_or sl_str sl_list)) p pl ph, fun T σ H ρ m d m' hm hs hf Q k => ?_⟩
  obtain ⟨x, m1, e1, hf⟩ := bd_some hf
  obtain ⟨a, m2, e2, hf⟩ := bd_some hf
  obtain ⟨b, m3, e3, hf⟩ := bd_some hf
  obtain ⟨e4, rfl⟩ := pu_some hf
  refine r T σ H ρ m x m1 hm hs e1 _ fun v T1 H1 l1 hm1 r1 => ?_
  refine rl T1 σ H1 ρ m1 a m2 hm1 (hs.le l1) e2 _ fun T2 H2 l2 hm2 => ?_
  refine rh T2 σ H2 ρ m2 b _ hm2 (hs.le (l1.trans l2)) e3 _ fun T3 H3 l3 hm3 => ?_
  have k3 := k.le (l1.trans (l2.trans l3))
  have r3 := r1.le (l2.trans l3)
  rcases slD_some e4 with ⟨ds, rfl, rfl⟩ | ⟨z, rfl, hz, rfl⟩ | ⟨ds, h1, rfl⟩
  · obtain ⟨q, vs, rfl, hx, rr⟩ := tup_rep r3
    refine .inl ⟨q, vs, rfl, hx, fun hw => ?_, fun _ z hz => k3.tup hm3 (rr.cut _ _) z hz⟩
    rw [← rr.length] at hw
    rw [whole_cut hw] at k3
    exact k3.now hm3 r3
  · cases r3
    exact .inr (.inl ⟨z, rfl, hz, k3.now hm3 (.str _)⟩)
  · obtain ⟨q, vs, rfl, hx, rr⟩ := lstR_rep hm3 r3 h1
    exact .inr (.inr ⟨q, vs, rfl, hx, fun z hz => k3.lst hm3 (rr.cut _ _) z hz⟩)
/-! equality and in -/
mutual
def pd : D → Option PyData
  | .non => some .none
  | .bl b => some (.bool b)
  | .int i => some (.int i)
  | .str x => some (.str x)
  | .tup ds => (pdL ds).map .tuple
  | .lst ds => (pdL ds).map .list
  | .scr ds => (pdL ds).map .list
  | .dic _ _ => none
  | .obj _ _ _ => none
  | .ref _ => none
  | .glo _ => none
  | .ty _ => none
def pdL : List D → Option (List PyData)
  | [] => some []
  | d :: ds => match pd d, pdL ds with
    | some a, some b => some (a :: b)
    | _, _ => none
end
mutual
theorem pd_rep : ∀ (d : D) {v : V} {a : PyData}, pd d = some a → Rep g T H d v → Dp g.K H v a
  | .non, _, _, h, r => by rw [pd] at h; cases h; cases r; exact .non
  | .bl _, _, _, h, r => by rw [pd] at h; cases h; cases r; exact .bl _
  | .int _, _, _, h, r => by rw [pd] at h; cases h; cases r; exact .int _
  | .str _, _, _, h, r => by rw [pd] at h; cases h; cases r; exact .str _
  | .tup ds, _, _, h, r => by
    rw [pd] at h
    obtain ⟨as, h1, rfl⟩ := Option.map_eq_some_iff.mp h
    cases r with
    | tup f r => exact .tup f.sq (pdL_rep ds h1 r)
  | .lst ds, _, _, h, r => by
    rw [pd] at h
    obtain ⟨as, h1, rfl⟩ := Option.map_eq_some_iff.mp h
    cases r with
    | lst f r => exact .lst f.sq (pdL_rep ds h1 r)
  | .scr ds, _, _, h, r => by
    rw [pd] at h
    obtain ⟨as, h1, rfl⟩ := Option.map_eq_some_iff.mp h
    cases r with
    | scr f r => exact .lst f.sq (pdL_rep ds h1 r)
  | .dic _ _, _, _, h, _ => by rw [pd] at h; cases h
  | .obj _ _ _, _, _, h, _ => by rw [pd] at h; cases h
  | .ref _, _, _, h, _ => by rw [pd] at h; cases h
  | .glo _, _, _, h, _ => by rw [pd] at h; cases h
  | .ty _, _, _, h, _ => by rw [pd] at h; cases h
theorem pdL_rep : ∀ (ds : List D) {vs : List V} {as : List PyData}, pdL ds = some as → RepL g T H ds vs → DpAll g.K H vs as
  | [], _, _, h, r => by rw [pdL] at h; cases h; cases r; exact .nil
  | d :: ds, _, _, h, r => by
    rw [pdL] at h
    cases h1 : pd d with
    | none => rw [h1] at h; cases h
    | some a => cases h2 : pdL ds with
      | none => rw [h1, h2] at h; cases h
      | some b =>
        rw [h1, h2] at h
        cases h
        cases r with
        | cons r s => exact .cons (pd_rep d h1 r) (pdL_rep ds h2 s)
end
/-- the plain data of a value, of a tracked list too -/
def pdM (m : M) (d : D) : Option PyData := match (frz m d).bind pd with
  | some a => if SeqAt.shaped a then some a else none
  | none => none
theorem pdM_rep {d : D} {v : V} {a : PyData} (hm : RepH g T H m) (h : pdM m d = some a) (r : Rep g T H d v) : Dp g.K H v a ∧ SeqAt.shaped a = true := by
  unfold pdM at h
  split at h
  · next h1 =>
    obtain ⟨hz, h⟩ := ite_some h
    cases h
    obtain ⟨e, h2, h3⟩ := Option.bind_eq_some_iff.mp h1
    exact ⟨pd_rep e h3 (frz_ok hm (fun a h => (List.not_mem_nil h).elim) (fun a _ h => (List.not_mem_nil h).elim) h2 r), hz⟩
  · cases h
def eqD (m : M) (x y : D) : Option D := match pdM m x, pdM m y with
  | some a, some b => some (.bl (PyData.eqv a b))
  | _, _ => none
def neD (m : M) (x y : D) : Option D := match pdM m x, pdM m y with
  | some a, some b => some (.bl (!PyData.eqv a b))
  | _, _ => none
theorem Gd.u64 {k : Nat} (h : Gd k X) : X.A.units + 65 < cLine := by have := h.r.un; omega
theorem op_eq' {k : Nat} (gd : Gd k X) : OpD X (compareOp .Eq) eqD := ⟨_, op_eqD (by have := gd.u64; omega), fun T H m x y v u d hm rx ry hf Q k => by
  unfold eqD at hf
  split at hf
  · next h1 h2 => cases hf; obtain ⟨d1, s1⟩ := pdM_rep hm h1 rx; obtain ⟨d2, s2⟩ := pdM_rep hm h2 ry; exact ⟨_, _, d1, d2, s1, s2, k.now hm (.bl _)⟩
  · cases hf⟩
theorem op_ne' {k : Nat} (gd : Gd k X) : OpD X (compareOp .NotEq) neD := ⟨_, op_neD (by have := gd.u64; omega), fun T H m x y v u d hm rx ry hf Q k => by
  unfold neD at hf
  split at hf
  · next h1 h2 => cases hf; obtain ⟨d1, s1⟩ := pdM_rep hm h1 rx; obtain ⟨d2, s2⟩ := pdM_rep hm h2 ry; exact ⟨_, _, d1, d2, s1, s2, k.now hm (.bl _)⟩
  · cases hf⟩
def rInT (K : PySem.W.Frag) (b : Bool) : R2 := fun x y H Q => ∃ d ds, Dp K H x d ∧ Dp K H y (.tuple ds) ∧ SeqAt.shaped d = true ∧ SeqAt.shaped (.tuple ds) = true ∧ Q (.bl ((ds.any fun z => PyData.eqv z d) != b)) H
theorem room_t {A : Around} {d : PyData} {ds : List PyData} (sd : SeqAt.shaped d = true) (hu : A.units + 65 < cLine) : A.units + 1 + min (PyData.depthAll ds) d.depth < cLine := by
  have := SeqAt.depth_of_shaped sd
  have h2 : min (PyData.depthAll ds) d.depth ≤ d.depth := Nat.min_le_right _ _
  omega
theorem op_inT (hu : X.A.units + 65 < cLine) : OpR X (compareOp .In) (rInT X.K false) := by
  intro pins s σ H x y v u Q I rx ry h
  obtain ⟨d, ds, hd, he, sd, se, q⟩ := h
  obtain ⟨as, r1⟩ := Dp.reads I d x v hd rx
  obtain ⟨bs, r2⟩ := Dp.reads I (.tuple ds) y u he ry
  rw [Bool.bne_false] at q
  exact SeqAt.in_tuple_reads r2 r1 (SeqAt.canLay_of_shaped se) (SeqAt.canLay_of_shaped sd) (room_t sd hu) ⟨.bl _, H, I, rfl, q⟩
theorem op_ninT (hu : X.A.units + 65 < cLine) : OpR X (compareOp .NotIn) (rInT X.K true) := by
  intro pins s σ H x y v u Q I rx ry h
  obtain ⟨d, ds, hd, he, sd, se, q⟩ := h
  obtain ⟨as, r1⟩ := Dp.reads I d x v hd rx
  obtain ⟨bs, r2⟩ := Dp.reads I (.tuple ds) y u he ry
  rw [Bool.bne_true] at q
  exact SeqAt.notIn_tuple_reads r2 r1 (SeqAt.canLay_of_shaped se) (SeqAt.canLay_of_shaped sd) (room_t sd hu) ⟨.bl _, H, I, rfl, q⟩
/-- x in a text: one sign is looked up by itself -/
def inStr (i j : Str) : Bool := match i.cps.toList with
  | [c] => j.cps.toList.contains c
  | _ => !(Builtin.Str.occurrences j i 0 j.length 1).isEmpty
theorem sign_of {i : Str} {c : Nat} (h : i.cps.toList = [c]) : i = ⟨#[c]⟩ := by
  cases i with
  | mk a => congr 1; exact Array.ext' h
/-- x in a tuple, a list, a text -/
def inB (m : M) (x y : D) : Option Bool := match x, y with
  | .str i, .str j => some (inStr i j)
  | x, y => match pdM m x, pdM m y with
    | some a, some (.tuple ds) => some (ds.any fun z => PyData.eqv z a)
    | some a, some (.list ds) => some (ds.any fun z => PyData.eqv z a)
    | _, _ => none
theorem inB_some {m : M} {x y : D} {b : Bool} (h : inB m x y = some b) : (∃ i j, x = .str i ∧ y = .str j ∧ b = inStr i j) ∨
    (∃ a ds, pdM m x = some a ∧ pdM m y = some (.tuple ds) ∧ b = ds.any fun z => PyData.eqv z a) ∨ (∃ a ds, pdM m x = some a ∧ pdM m y = some (.list ds) ∧ b = ds.any fun z => PyData.eqv z a) := by
  unfold inB at h
  split at h
  · cases h; exact .inl ⟨_, _, rfl, rfl, rfl⟩
  · split at h
    · next h1 h2 => cases h; exact .inr (.inl ⟨_, _, h1, h2, rfl⟩)
    · next h1 h2 => cases h; exact .inr (.inr ⟨_, _, h1, h2, rfl⟩)
    · cases h
def inD (m : M) (x y : D) : Option D := (inB m x y).map .bl
def ninD (m : M) (x y : D) : Option D := (inB m x y).map fun b => .bl (!b)
theorem op_in' {k : Nat} (gd : Gd k X) : OpD X (compareOp .In) inD := ⟨_, orR op_in_sign (orR op_in_str (orR (op_inT gd.u64) (op_inD gd.u64))), fun T H m x y v u d hm rx ry hf Q k => by
  obtain ⟨b, hb, rfl⟩ := Option.map_eq_some_iff.mp hf
  rcases inB_some hb with ⟨i, j, rfl, rfl, rfl⟩ | ⟨a, ds, h1, h2, rfl⟩ | ⟨a, ds, h1, h2, rfl⟩
  · cases rx; cases ry
    unfold inStr at k
    split at k
    · next c hc =>
      refine .inl ⟨c, j, by rw [sign_of hc], rfl, ?_⟩
      have e : decide (c ∈ j.cps.toList) = j.cps.toList.contains c := by simp
      rw [e]
      exact k.now hm (.bl _)
    · exact .inr (.inl ⟨i, j, rfl, rfl, k.now hm (.bl _)⟩)
  · obtain ⟨d1, s1⟩ := pdM_rep hm h1 rx; obtain ⟨d2, s2⟩ := pdM_rep hm h2 ry
    exact .inr (.inr (.inl ⟨a, ds, d1, d2, s1, s2, by rw [Bool.bne_false]; exact k.now hm (.bl _)⟩))
  · obtain ⟨d1, s1⟩ := pdM_rep hm h1 rx; obtain ⟨d2, s2⟩ := pdM_rep hm h2 ry
    exact .inr (.inr (.inr ⟨a, ds, d1, d2, s1, s2, k.now hm (.bl _)⟩))⟩
theorem op_nin' {k : Nat} (gd : Gd k X) : OpD X (compareOp .NotIn) ninD := ⟨_, orR op_notIn_sign (orR op_notin_str (orR (op_ninT gd.u64) (op_notInD gd.u64))), fun T H m x y v u d hm rx ry hf Q k => by
  obtain ⟨b, hb, rfl⟩ := Option.map_eq_some_iff.mp hf
  rcases inB_some hb with ⟨i, j, rfl, rfl, rfl⟩ | ⟨a, ds, h1, h2, rfl⟩ | ⟨a, ds, h1, h2, rfl⟩
  · cases rx; cases ry
    unfold inStr at k
    split at k
    · next c hc =>
      refine .inl ⟨c, j, by rw [sign_of hc], rfl, ?_⟩
      have e : decide (c ∈ j.cps.toList) = j.cps.toList.contains c := by simp
      rw [e]
      exact k.now hm (.bl _)
    · exact .inr (.inl ⟨i, j, rfl, rfl, k.now hm (.bl _)⟩)
  · obtain ⟨d1, s1⟩ := pdM_rep hm h1 rx; obtain ⟨d2, s2⟩ := pdM_rep hm h2 ry
    exact .inr (.inr (.inl ⟨a, ds, d1, d2, s1, s2, by rw [Bool.bne_true]; exact k.now hm (.bl _)⟩))
  · obtain ⟨d1, s1⟩ := pdM_rep hm h1 rx; obtain ⟨d2, s2⟩ := pdM_rep hm h2 ry
    exact .inr (.inr (.inr ⟨a, ds, d1, d2, s1, s2, k.now hm (.bl _)⟩))⟩
end
end L4

namespace L4
open PySem L2
section
variable {X : Cx} {g : G} {T T' : Tk} {H : Hp} {m : M} {Q : VK} {pos : Pos}
/-! less is forbidden -/
mutual
theorem Rep.wk (hμ : T'.μ = T.μ) (hν : ∀ a ∈ T'.ν, a ∈ T.ν) : ∀ (d : D) {v : V}, Rep g T H d v → Rep g T' H d v
  | .non, _, r => by cases r; exact .non
  | .bl _, _, r => by cases r; exact .bl _
  | .int _, _, r => by cases r; exact .int _
  | .str _, _, r => by cases r; exact .str _
  | .glo _, _, r => by cases r; exact .glo _
  | .ty _, _, r => by cases r; exact .ty _
  | .ref _, _, r => by
    cases r with
    | ref h => exact .ref (by rw [hμ]; exact h)
  | .tup ds, _, r => by
    cases r with
    | tup f r =>
      refine .tup ?_ (RepL.wk hμ hν ds r)
      rcases f with ⟨n, f⟩ | f
      · exact .inl ⟨fun z => n (hν _ z), f⟩
      · exact .inr f
  | .lst ds, _, r => by
    cases r with
    | lst f r => exact .lst ⟨fun z => f.1 (hν _ z), f.2⟩ (RepL.wk hμ hν ds r)
  | .scr ds, _, r => by
    cases r with
    | scr f r =>
      refine .scr ?_ (RepL.wk hμ hν ds r)
      rcases f with ⟨n, f⟩ | f
      · exact .inl ⟨fun z => n (hν _ z), f⟩
      · exact .inr f
  | .dic ks vs, _, r => by
    cases r with
    | dicF n f r q => exact .dicF (fun z => n (hν _ z)) f (RepL.wk hμ hν ks r) (RepL.wk hμ hν vs q)
    | dicN n f e r q => exact .dicN (fun z => n (hν _ z)) f e (RepL.wk hμ hν ks r) (RepL.wk hμ hν vs q)
  | .obj c ns vs, _, r => by
    cases r with
    | obj n f e r => exact .obj (fun z => n (hν _ z)) f e (RepL.wk hμ hν vs r)
theorem RepL.wk (hμ : T'.μ = T.μ) (hν : ∀ a ∈ T'.ν, a ∈ T.ν) : ∀ (ds : List D) {vs : List V}, RepL g T H ds vs → RepL g T' H ds vs
  | [], _, r => by cases r; exact .nil
  | d :: ds, _, r => by
    cases r with
    | cons r s => exact .cons (Rep.wk hμ hν d r) (RepL.wk hμ hν ds s)
end
/-- a forbidden object changes -/
theorem rd_upd {a p : Addr} {u w : HO} (n : a ∉ T.ν) (hp : p ∈ T.ν) (h : Rd H a u) : Rd (upd H p w) a u := by
  have : a ≠ p := by rintro rfl; exact n hp
  unfold Rd
  rw [upd_ne this]
  exact h
mutual
theorem Rep.upF {p : Addr} {w : HO} (hp : p ∈ T.ν) : ∀ (d : D) {v : V}, Rep g T H d v → Rep g T (upd H p w) d v
  | .non, _, r => by cases r; exact .non
  | .bl _, _, r => by cases r; exact .bl _
  | .int _, _, r => by cases r; exact .int _
  | .str _, _, r => by cases r; exact .str _
  | .glo _, _, r => by cases r; exact .glo _
  | .ty _, _, r => by cases r; exact .ty _
  | .ref _, _, r => by
    cases r with
    | ref h => exact .ref h
  | .tup ds, _, r => by
    cases r with
    | tup f r =>
      refine .tup ?_ (RepL.upF hp ds r)
      rcases f with ⟨n, f⟩ | f
      · exact .inl ⟨n, by rw [upd_ne (show _ ≠ p by rintro rfl; exact n hp)]; exact f⟩
      · exact .inr f
  | .lst ds, _, r => by
    cases r with
    | lst f r => exact .lst ⟨f.1, by rw [upd_ne (show _ ≠ p by rintro rfl; exact f.1 hp)]; exact f.2⟩ (RepL.upF hp ds r)
  | .scr ds, _, r => by
    cases r with
    | scr f r =>
      refine .scr ?_ (RepL.upF hp ds r)
      rcases f with ⟨n, o, f⟩ | f
      · exact .inl ⟨n, o, by rw [upd_ne (show _ ≠ p by rintro rfl; exact n hp)]; exact f⟩
      · exact .inr f
  | .dic ks vs, _, r => by
    cases r with
    | dicF n f r q => exact .dicF n (rd_upd n hp f) (RepL.upF hp ks r) (RepL.upF hp vs q)
    | dicN n f e r q => exact .dicN n (rd_upd n hp f) e (RepL.upF hp ks r) (RepL.upF hp vs q)
  | .obj c ns vs, _, r => by
    cases r with
    | obj n f e r => exact .obj n (by rw [upd_ne (show _ ≠ p by rintro rfl; exact n hp)]; exact f) e (RepL.upF hp vs r)
theorem RepL.upF {p : Addr} {w : HO} (hp : p ∈ T.ν) : ∀ (ds : List D) {vs : List V}, RepL g T H ds vs → RepL g T (upd H p w) ds vs
  | [], _, r => by cases r; exact .nil
  | d :: ds, _, r => by
    cases r with
    | cons r s => exact .cons (Rep.upF hp d r) (RepL.upF hp ds s)
end
theorem RepO.wk (hμ : T'.μ = T.μ) (hν : ∀ a ∈ T'.ν, a ∈ T.ν) {a : Addr} {o : O} (r : RepO g T H a o) : RepO g T' H a o := by
  cases r with
  | lst h r => exact .lst h (RepL.wk hμ hν _ r)
  | dicF h r q => exact .dicF h (RepL.wk hμ hν _ r) (RepL.wk hμ hν _ q)
  | dicN h k r q => exact .dicN h k (RepL.wk hμ hν _ r) (RepL.wk hμ hν _ q)
  | ins h k r => exact .ins h k (RepL.wk hμ hν _ r)
theorem RepO.upF {p : Addr} {w : HO} (hp : p ∈ T.ν) {a : Addr} {o : O} (ha : a ≠ p) (r : RepO g T H a o) : RepO g T (upd H p w) a o := by
  cases r with
  | lst h r => exact .lst (by rw [upd_ne ha]; exact h) (RepL.upF hp _ r)
  | dicF h r q => exact .dicF (by rw [upd_ne ha]; exact h) (RepL.upF hp _ r) (RepL.upF hp _ q)
  | dicN h k r q => exact .dicN (by rw [upd_ne ha]; exact h) k (RepL.upF hp _ r) (RepL.upF hp _ q)
  | ins h k r => exact .ins (by rw [upd_ne ha]; exact h) k (RepL.upF hp _ r)
/-! the list that a comprehension makes: forbidden, not tracked, until it is done -/
def Tk.forb (T : Tk) (p : Addr) : Tk := ⟨T.μ, p :: T.ν, fun a h => List.mem_cons_of_mem _ (T.sub a h)⟩
structure Made (g : G) (T : Tk) (H : Hp) (m : M) (p : Addr) (ds : List D) : Prop where
  np : p ∉ T.ν
  hm : RepH g (T.forb p) H m
  at_ : ∃ vs, H p = some (.lst vs) ∧ RepL g (T.forb p) H ds vs
theorem Made.new {p : Addr} (hm : RepH g T H m) (hp : H p = none) : Made g T (upd H p (.lst [])) m p [] ∧ Le T H (T.forb p) (upd H p (.lst [])) := by
  have np : p ∉ T.ν := hm.nope hp
  have l : Le T H (T.forb p) (upd H p (.lst [])) := ⟨List.prefix_rfl, fun a u e _ => by rw [upd_ne (ne_of_none e hp)]; exact e, fun a ha n => by
    rcases List.mem_cons.mp ha with rfl | z
    · exact hp
    · exact absurd z n, fun a ha n => absurd ha n, fun a h => List.mem_cons_of_mem _ h⟩
  refine ⟨⟨np, ⟨hm.len, hm.nd, fun a ha => ?_, fun n a o h1 h2 => (hm.at_ n a o h1 h2).le l ?_⟩, [], upd_same, .nil⟩, l⟩
  · rcases List.mem_cons.mp ha with rfl | z
    · exact ⟨_, upd_same, trivial⟩
    · obtain ⟨u, e, q⟩ := hm.has a z
      exact ⟨u, by rw [upd_ne (ne_of_none e hp)]; exact e, q⟩
  · obtain ⟨v, e, _⟩ := (hm.at_ n a o h1 h2).has
    rw [upd_ne (ne_of_none e hp)]
/-- what came of an evaluation while the list was being made -/
theorem Le.unforb {p : Addr} {T0 T1 : Tk} {H0 H1 : Hp} (l0 : Le T0 H0 T H) (hp0 : H0 p = none) (np : p ∉ T.ν) (hH : ∃ u, H p = some u) (l : Le (T.forb p) H T1 H1) : ∃ T2 : Tk, T2.μ = T1.μ ∧ p ∉ T2.ν ∧ (∀ a, a ∈ (T2.forb p).ν ↔ a ∈ T1.ν) ∧ Le T0 H0 T2 H1 := by
  obtain ⟨u, hu⟩ := hH
  have npμ : p ∉ T1.μ := fun z => by
    have := l.newμ p z (fun y => np (T.sub p y))
    rw [hu] at this
    cases this
  refine ⟨⟨T1.μ, T1.ν.filter (· ≠ p), fun a h => List.mem_filter.mpr ⟨T1.sub a h, by simp; rintro rfl; exact npμ h⟩⟩, rfl, by simp, fun a => ?_, ?_⟩
  · show a ∈ p :: T1.ν.filter (· ≠ p) ↔ _
    by_cases ha : a = p
    · subst ha
      simp
      exact l.up _ (List.mem_cons_self ..)
    · simp [ha]
  · refine ⟨l0.pre.trans l.pre, fun a v h n => ?_, fun a ha n => ?_, fun a ha n => ?_, fun a h => ?_⟩
    · have h1 : a ∉ T.μ := fun z => by rw [l0.newμ a z n] at h; cases h
      exact l.keep a v (l0.keep a v h n) h1
    · obtain ⟨ha, hne⟩ := List.mem_filter.mp ha
      cases e : H0 a with
      | none => rfl
      | some v =>
        have n1 : a ∉ T.ν := l0.out e n
        have := l.new a ha (fun z => by rcases List.mem_cons.mp z with z | z; simp [z] at hne; exact n1 z)
        rw [l0.keep a v e (Tk.out n)] at this
        cases this
    · cases e : H0 a with
      | none => rfl
      | some v =>
        have h1 : a ∉ T.μ := fun z => by rw [l0.newμ a z n] at e; cases e
        have := l.newμ a ha h1
        rw [l0.keep a v e n] at this
        cases this
    · refine List.mem_filter.mpr ⟨l.up a (List.mem_cons_of_mem _ (l0.up a h)), ?_⟩
      have : a ≠ p := by rintro rfl; exact np (l0.up _ h)
      simpa using this
/-- one element more -/
theorem Made.app {p : Addr} {T0 : Tk} {H0 : Hp} {ds : List D} {d : D} {v : V} (l0 : Le T0 H0 T H) (hp0 : H0 p = none) (k : Made g T H m p ds) (r : Rep g (T.forb p) H d v) {vs : List V} (hv : H p = some (.lst vs)) :
    Made g T (upd H p (.lst (vs ++ [v]))) m p (ds ++ [d]) ∧ Le T0 H0 T (upd H p (.lst (vs ++ [v]))) := by
  obtain ⟨np, hm, ws, hw, rl⟩ := k
  rw [hv] at hw
  cases hw
  have hp : p ∈ (T.forb p).ν := List.mem_cons_self ..
  refine ⟨⟨np, ⟨hm.len, hm.nd, fun a ha => ?_, fun n a o h1 h2 => (hm.at_ n a o h1 h2).upF hp ?_⟩, _, upd_same, (RepL.upF hp _ rl).append (.cons (Rep.upF hp _ r) .nil)⟩, ⟨l0.pre, fun a u h n => ?_, l0.new, l0.newμ, l0.up⟩⟩
  · by_cases z : a = p
    · rw [z]; exact ⟨_, upd_same, trivial⟩
    · obtain ⟨u, e, q⟩ := hm.has a ha
      exact ⟨u, by rw [upd_ne z]; exact e, q⟩
  · rintro rfl
    exact np (T.sub _ (List.mem_of_getElem? h1))
  · rw [upd_ne (ne_of_none h hp0)]
    exact l0.keep a u h n
/-- the list is done -/
theorem Made.done {p : Addr} {T0 : Tk} {H0 : Hp} {ds : List D} (l0 : Le T0 H0 T H) (k : Made g T H m p ds) : RepH g T H m ∧ Rep g T H (.lst ds) (.ref p) := by
  obtain ⟨np, hm, ws, hw, rl⟩ := k
  have sub : ∀ a ∈ T.ν, a ∈ (T.forb p).ν := fun a h => List.mem_cons_of_mem _ h
  exact ⟨⟨hm.len, hm.nd, fun a h => hm.has a (sub a h), fun n a o h1 h2 => RepO.wk (T := T.forb p) (T' := T) rfl sub (hm.at_ n a o h1 h2)⟩, .lst ⟨np, hw⟩ (RepL.wk (T := T.forb p) (T' := T) rfl sub _ rl)⟩
theorem Made.step {p : Addr} {T0 T1 : Tk} {H0 H1 : Hp} {ds : List D} {m1 : M} (l0 : Le T0 H0 T H) (hp0 : H0 p = none) (k : Made g T H m p ds) (l : Le (T.forb p) H T1 H1) (hm : RepH g T1 H1 m1) :
    ∃ T2 : Tk, Le T0 H0 T2 H1 ∧ Made g T2 H1 m1 p ds ∧ T2.μ = T1.μ ∧ ∀ a, a ∈ (T2.forb p).ν ↔ a ∈ T1.ν := by
  obtain ⟨np, _, ws, hw, rl⟩ := k
  obtain ⟨T2, e1, e2, e3, l2⟩ := l0.unforb hp0 np ⟨_, hw⟩ l
  refine ⟨T2, l2, ⟨e2, ⟨by rw [← hm.len]; exact congrArg List.length e1, by show T2.μ.Nodup; rw [e1]; exact hm.nd, fun a h => hm.has a ((e3 a).mp h), fun n a o h1 h2 => ?_⟩, ws, l.keep _ _ hw (fun y => np (T.sub p y)), ?_⟩, e1, e3⟩
  · exact RepO.wk (T := T1) (T' := T2.forb p) e1 (fun a h => (e3 a).mp h) (hm.at_ n a o (by rw [← e1]; exact h1) h2)
  · exact RepL.wk (T := T1) (T' := T2.forb p) e1 (fun a h => (e3 a).mp h) _ (rl.le l)
/-! slots -/
def setMany {α : Type} (σ : List (Option α)) : List Nat → List α → List (Option α)
  | i :: is, v :: vs => setMany (σ.set i (some v)) is vs
  | _, _ => σ
theorem wipe_set {i : Nat} {x : Option V} : ∀ {vs : List Nat} {σ : L2.St}, i ∈ vs → wipe (σ.set i x) vs = wipe σ vs := by
  intro vs
  induction vs with
  | nil => intro σ h; cases h
  | cons v vs ih =>
    intro σ h
    unfold wipe
    by_cases hi : i ∈ vs
    · rw [ih hi]
    · have e : i = v := by rcases List.mem_cons.mp h with z | z; exact z; exact absurd z hi
      subst e
      have key : ∀ (us : List Nat) (τ : L2.St), i ∉ us → wipe (τ.set i x) us = (wipe τ us).set i x := by
        intro us
        induction us with
        | nil => intro τ _; rfl
        | cons u us ih2 =>
          intro τ hu
          unfold wipe
          rw [ih2 τ (fun z => hu (List.mem_cons_of_mem _ z)), List.set_comm _ _ (fun z => hu (by rw [z]; exact List.mem_cons_self ..))]
      rw [key vs σ hi, List.set_set]
theorem wipe_wipe {vs : List Nat} {σ : L2.St} : ∀ us : List Nat, (∀ u ∈ us, u ∈ vs) → wipe (wipe σ us) vs = wipe σ vs
  | [], _ => rfl
  | u :: us, h => by
    show wipe ((wipe σ us).set u none) vs = _
    rw [wipe_set (h u (List.mem_cons_self ..)), wipe_wipe us fun w hw => h w (List.mem_cons_of_mem _ hw)]
theorem wipe_many {vs : List Nat} : ∀ (is : List Nat) (ws : List V) (σ : L2.St), (∀ u ∈ is, u ∈ vs) → wipe (setMany σ is ws) vs = wipe σ vs
  | [], _, _, _ => rfl
  | i :: is, [], _, _ => rfl
  | i :: is, w :: ws, σ, h => by
    show wipe (setMany (σ.set i (some w)) is ws) vs = _
    rw [wipe_many is ws _ fun u hu => h u (List.mem_cons_of_mem _ hu), wipe_set (h i (List.mem_cons_self ..))]
theorem many_len {α : Type} : ∀ (is : List Nat) (ws : List α) (σ : List (Option α)), (setMany σ is ws).length = σ.length
  | [], _, _ => rfl
  | i :: is, [], _ => rfl
  | i :: is, w :: ws, σ => by
    show (setMany (σ.set i (some w)) is ws).length = _
    rw [many_len]
    simp
theorem wipe_other {i : Nat} : ∀ {vs : List Nat} {σ : L2.St}, i ∉ vs → (wipe σ vs)[i]? = σ[i]?
  | [], _, _ => rfl
  | v :: vs, σ, h => by
    show ((wipe σ vs).set v none)[i]? = _
    rw [List.getElem?_set_ne (fun z => h (by rw [z]; exact List.mem_cons_self ..)), wipe_other fun z => h (List.mem_cons_of_mem _ z)]
theorem many_other {α : Type} {i : Nat} : ∀ {is : List Nat} {ws : List α} {σ : List (Option α)}, i ∉ is → (setMany σ is ws)[i]? = σ[i]?
  | [], _, _, _ => rfl
  | j :: is, [], _, _ => rfl
  | j :: is, w :: ws, σ, h => by
    show (setMany (σ.set j (some w)) is ws)[i]? = _
    rw [many_other fun z => h (List.mem_cons_of_mem _ z), List.getElem?_set_ne (fun z => h (by rw [z]; exact List.mem_cons_self ..))]
theorem RepS.many {σ : L2.St} {ρ : Ss} : ∀ {is : List Nat} {ds : List D} {vs : List V}, RepS g T H σ ρ → RepL g T H ds vs → RepS g T H (setMany σ is vs) (setMany ρ is ds)
  | [], _, _, h, _ => h
  | i :: is, _, _, h, .nil => h
  | i :: is, _, _, h, .cons r s => RepS.many (is := is) (RepS.set (i := i) h r) s
/-- the slots that are set are the ones that were wiped -/
theorem many_wiped {is : List Nat} {ds : List D} {vs : List V} {σ : L2.St} {ρ : Ss} (h : RepS g T H σ ρ) (r : RepL g T H ds vs) (hl : is.length = ds.length) : RepS g T H (setMany (wipe σ is) is vs) (setMany ρ is ds) := by
  have h0 : RepS g T H (setMany σ is vs) (setMany ρ is ds) := h.many r
  refine ⟨by rw [many_len, many_len, wipe_length]; exact h.len, fun i d e => ?_⟩
  obtain ⟨v, e1, q⟩ := h0.at_ i d e
  refine ⟨v, ?_, q⟩
  by_cases hi : i ∈ is
  · have key : ∀ (is : List Nat) (vs : List V) (σ τ : L2.St), σ.length = τ.length → is.length = vs.length → i ∈ is → (setMany σ is vs)[i]? = (setMany τ is vs)[i]? := by
      intro is
      induction is with
      | nil => intro vs σ τ _ _ hi; cases hi
      | cons j is ih =>
        intro vs σ τ hl hs hi
        cases vs with
        | nil => cases hs
        | cons w vs =>
          show (setMany (σ.set j (some w)) is vs)[i]? = (setMany (τ.set j (some w)) is vs)[i]?
          by_cases hj : i ∈ is
          · exact ih vs _ _ (by simpa using hl) (by simpa using hs) hj
          · rw [many_other hj, many_other hj]
            rcases List.mem_cons.mp hi with rfl | z
            · by_cases hb : i < σ.length
              · rw [List.getElem?_set_self hb, List.getElem?_set_self (by omega)]
              · rw [List.getElem?_eq_none (by simp; omega), List.getElem?_eq_none (by simp; omega)]
            · exact absurd z hj
    rw [key is vs (wipe σ is) σ (wipe_length _ _) (by rw [hl, r.length]) hi]
    exact e1
  · rw [many_other hi, wipe_other hi]
    rw [many_other hi] at e1
    exact e1
/-! targets of comprehensions -/
def unpk (n : Nat) (d : D) : Option (List D) := match d with
  | .tup ds => if ds.length = n then some ds else none
  | _ => none
inductive Tgt where
  | one (i : Nat) | many (is : List Nat)
def Tgt.is : Tgt → List Nat
  | .one i => [i]
  | .many is => is
def Tgt.un : Tgt → D → Option (List D)
  | .one _, d => some [d]
  | .many is, d => unpk is.length d
structure DGn (X : Cx) (e : Expr) (t : Tgt) : Prop where
  ex : ∃ tg, PG X e tg ∧ ∀ T σ H d v ds, Rep (gx X) T H d v → t.un d = some ds → ∀ Q, (∀ vs, RepL (gx X) T H ds vs → Q (setMany σ t.is vs) H) → tg v σ H Q
theorem dgn_name {i : Nat} {x : Str} (hN : X.N.Nodup) (hi : X.N[i]? = some x) (hx : Loc X.env.scope x) (hf : X.fn x = true ∨ X.env.scope.names.lookup x = some .local := by first | exact .inl rfl | exact .inr rfl | assumption) : DGn X (.Name x pos) (.one i) :=
  ⟨_, pg_name hN hi hx hf, fun T σ H d v ds r h Q k => by cases h; exact k [v] (.cons r .nil)⟩
structure DGns (X : Cx) (es : List Expr) (is : List Nat) : Prop where
  ex : ∃ tg, PGs X es tg ∧ ∀ vs σ H, vs.length = is.length → ∀ Q, Q (setMany σ is vs) H → tg vs σ H Q
theorem dgns_nil : DGns X [] [] := ⟨_, pgs_nil, fun vs σ H h Q k => ⟨List.eq_nil_of_length_eq_zero h, by cases vs; exact k; cases h⟩⟩
theorem dgns_cons {i : Nat} {x : Str} {es : List Expr} {is : List Nat} (hN : X.N.Nodup) (hi : X.N[i]? = some x) (hx : Loc X.env.scope x) (h2 : DGns X es is) (hf : X.fn x = true ∨ X.env.scope.names.lookup x = some .local := by first | exact .inl rfl | exact .inr rfl | assumption)
    (hs : (assignEach (.Name x pos :: es) X.env).map (·.2) = assign (.Name x pos) X.env :: (assignEach es X.env).map (·.2) := by rfl) : DGns X (.Name x pos :: es) (i :: is) := by
  obtain ⟨tg, pg, rg⟩ := h2.ex
  refine ⟨_, pgs_cons (pg_name hN hi hx hf) pg hs, fun vs σ H h Q k => ?_⟩
  cases vs with
  | nil => cases h
  | cons v vs => exact ⟨v, vs, rfl, rg vs _ H (by simpa using h) Q k⟩
theorem dgn_tup {es : List Expr} {k : Nat} {is : List Nat} (hc : X.calm = true) (h : DGns X es is)
    (hn : (assignEach es X.env).length = is.length := by rfl) (hst : (assignEach es X.env).findIdx? (·.1) = none := by rfl) : DGn X (.Tuple es k pos) (.many is) := by
  obtain ⟨tg, pg, rg⟩ := h.ex
  refine ⟨_, pg_tup hc pg hn hst, fun T σ H d v ds r h Q k => ?_⟩
  change unpk is.length d = some ds at h
  unfold unpk at h
  split at h
  · obtain ⟨hl, h⟩ := ite_some h
    cases h
    obtain ⟨a, vs, rfl, hx, rl⟩ := tup_rep r
    exact ⟨a, vs, rfl, hx, by rw [← rl.length]; exact hl, rg vs σ H (by rw [← rl.length]; exact hl) Q (k vs rl)⟩
  · cases h
/-- as the target of an assignment or a loop -/
def gTgt (t : Tgt) : GF := fun d ρ m => match t.un d with
  | some ds => some (setMany ρ t.is ds, m)
  | none => none
theorem dg_of {e : Expr} {t : Tgt} (h : DGn X e t) : DG X e (gTgt t) := by
  obtain ⟨tg, pg, rg⟩ := h.ex
  refine ⟨_, pg, fun T σ H ρ m d v ρ' m' hm hs r hf Q k => ?_⟩
  unfold gTgt at hf
  split at hf
  · next ds h1 =>
    cases hf
    exact rg T σ H d v ds r h1 Q fun vs rl => k _ T H .refl hm (hs.many rl)
  · cases hf
/-! comprehensions -/
def compGo (t : Tgt) (c : TF) (e : EF) (ρ : Ss) : List D → M → Option (List D × M)
  | [], m => some ([], m)
  | x :: xs, m => match t.un x with
    | some ds => bd (c (setMany ρ t.is ds) m) fun b m1 => if b then bd (e (setMany ρ t.is ds) m1) fun y m2 => bd (compGo t c e ρ xs m2) fun ys m3 => some (y :: ys, m3) else compGo t c e ρ xs m1
    | none => none
def eLc (it : AF) (t : Tgt) (c : TF) (e : EF) : EF := fun ρ m => bd (it ρ m) fun xs m1 => if xs.length ≤ 1000000 then bd (compGo t c e ρ xs m1) fun ys m2 => some (.lst ys, m2) else none
theorem Tgt.un_len {t : Tgt} {d : D} {ds : List D} (h : t.un d = some ds) : t.is.length = ds.length := by
  cases t with
  | one i => cases h; rfl
  | many is =>
    change unpk is.length d = some ds at h
    unfold unpk at h
    split at h
    · obtain ⟨hl, h⟩ := ite_some h; cases h; exact hl.symm
    · cases h
theorem rf_lc {wi : TI} {it : AF} {t : Tgt} {tg : TG} {tt : TT} {te : TE} {c : TF} {e : EF} (hi : RfI g wi it) (hg : ∀ T σ H d v ds, Rep g T H d v → t.un d = some ds → ∀ Q, (∀ vs, RepL g T H ds vs → Q (setMany σ t.is vs) H) → tg v σ H Q)
    (hc : RfT g tt c) (he : RfE g te e) {is : List Nat} (his : is = t.is) : RfE g (tLc wi tg tt te is) (eLc it t c e) := by
  subst his
  intro T σ H ρ m d m' hm hs hf Q k
  obtain ⟨xs, m1, e1, hf⟩ := bd_some hf
  obtain ⟨hz, hf⟩ := ite_some hf
  obtain ⟨ys, m2, e2, hf⟩ := bd_some hf
  cases hf
  refine hi T σ H ρ m xs m1 hm hs e1 _ fun J T0 H0 l0 hm0 ok p hp => ?_
  have hs0 := hs.le l0
  obtain ⟨md, lf⟩ := Made.new hm0 hp
  have start : Le T0 H0 T0 (upd H0 p (.lst [])) := ⟨List.prefix_rfl, fun a u e _ => by rw [upd_ne (ne_of_none e hp)]; exact e, fun a h n => absurd h n, fun a h n => absurd h n, fun a h => h⟩
  refine ⟨fun i j H1 => i + j = xs.length ∧ ∃ T1 m1 ds rest, Le T0 H0 T1 H1 ∧ Made g T1 H1 m1 p ds ∧ ds.length ≤ i ∧ RepS g (T1.forb p) H1 σ ρ ∧ compGo t c e ρ (xs.drop i) m1 = some (rest, m') ∧ ys = ds ++ rest, ⟨xs.length, by simp, T0, m1, [], ys, start, md, Nat.le_refl _, hs0.le lf, by simpa using e2, rfl⟩, ?_⟩
  rintro i j H1 ⟨hij, T1, m1', ds, rest, l1, md1, hdl, hs1, hf1, hy⟩
  obtain ⟨vs1, hv1, rl1⟩ := md1.at_
  have okT : ItOk g (T1.forb p) H1 J xs := fun T2 H2 l2 mm hmm => ok (⟨T2.μ, T2.ν, T2.sub⟩) H2 (by
    refine ⟨l1.pre.trans l2.pre, fun a u h n => l2.keep a u (l1.keep a u h n) fun z => ?_, fun a ha n => ?_, fun a ha n => ?_, fun a h => l2.up a (List.mem_cons_of_mem _ (l1.up a h))⟩
    · rw [l1.newμ a z n] at h; cases h
    · cases e : H0 a with
      | none => rfl
      | some u =>
        have n1 : a ∉ (T1.forb p).ν := fun z => by
          rcases List.mem_cons.mp z with rfl | z
          · rw [hp] at e; cases e
          · exact l1.out e n z
        have := l2.new a ha n1
        rw [l1.keep a u e (Tk.out n)] at this
        cases this
    · cases e : H0 a with
      | none => rfl
      | some u =>
        have n1 : a ∉ T1.μ := fun z => by rw [l1.newμ a z n] at e; cases e
        have := l2.newμ a ha n1
        rw [l1.keep a u e n] at this
        cases this) mm hmm
  obtain ⟨okG, okS⟩ := okT (T1.forb p) H1 .refl m1' md1.hm i
  cases j with
  | zero =>
    left
    rw [List.drop_of_length_le (by omega)] at hf1
    cases hf1
    obtain ⟨hmd, rd⟩ := md1.done l1
    rw [List.append_nil] at hy
    subst hy
    exact ⟨okS (by omega), k _ T1 H1 (l0.trans l1) hmd rd⟩
  | succ j =>
    right
    have hi' : i < xs.length := by omega
    rw [List.drop_eq_getElem_cons hi'] at hf1
    obtain ⟨go, yl⟩ := okG xs[i] (List.getElem?_eq_getElem hi')
    refine ⟨go, _, fun _ q => q, fun x H2 y2 => ?_⟩
    obtain ⟨T2, l2, hm2, r2⟩ := yl x H2 y2
    unfold compGo at hf1
    split at hf1
    · next es hes =>
      obtain ⟨b, m3, e3, hf3⟩ := bd_some hf1
      refine hg T2 (wipe σ t.is) H2 xs[i] x es r2 hes _ fun vs rv => ⟨?_, ?_⟩
      · rw [wipe_many t.is vs _ fun u hu => hu, wipe_wipe t.is fun u hu => hu]
      · have hs2 : RepS g T2 H2 (setMany (wipe σ t.is) t.is vs) (setMany ρ t.is es) := many_wiped (hs1.le l2) rv (Tgt.un_len hes)
        refine hc T2 _ H2 _ m1' b m3 hm2 hs2 e3 _ fun T3 H3 l3 hm3 => ?_
        cases b with
        | false =>
          obtain ⟨T4, l4, md4, e4, e5⟩ := md1.step l1 hp (l2.trans l3) hm3
          exact ⟨j, Nat.lt_succ_self _, by omega, T4, m3, ds, rest, l4, md4, by omega, ⟨hs1.len, fun q d hq => by
            obtain ⟨v, h1, h2⟩ := (hs1.le (l2.trans l3)).at_ q d hq
            exact ⟨v, h1, Rep.wk (T' := T4.forb p) e4 (fun a h => (e5 a).mp h) _ h2⟩⟩, hf3, hy⟩
        | true =>
          obtain ⟨y, m4, e6, hf4⟩ := bd_some hf3
          obtain ⟨ys', m5, e7, hf5⟩ := bd_some hf4
          cases hf5
          refine he T3 _ H3 _ m3 y m4 hm3 (hs2.le l3) e6 _ fun v T4 H4 l4 hm4 r4 => ?_
          obtain ⟨T5, l5, md5, e8, e9⟩ := md1.step l1 hp (l2.trans (l3.trans l4)) hm4
          obtain ⟨vs5, hv5, _⟩ := md5.at_
          have r5 : Rep g (T5.forb p) H4 y v := Rep.wk (T' := T5.forb p) e8 (fun a h => (e9 a).mp h) _ r4
          obtain ⟨md6, l6⟩ := md5.app l5 hp r5 hv5
          have hl5 : vs5.length = ds.length := by
            obtain ⟨w, hw, q⟩ := md5.at_
            rw [hv5] at hw
            cases hw
            exact q.length.symm
          refine ⟨vs5, hv5, ?_, j, Nat.lt_succ_self _, by omega, T5, m4, ds ++ [y], ys', l6, md6, by simp; omega, ⟨hs1.len, fun q d hq => ?_⟩, e7, by rw [hy]; simp⟩
          · rw [hl5, sizeLine_eq]; omega
          · obtain ⟨w, h1, h2⟩ := (hs1.le (l2.trans (l3.trans l4))).at_ q d hq
            exact ⟨w, h1, Rep.upF (List.mem_cons_self ..) _ (Rep.wk (T' := T5.forb p) e8 (fun a h => (e9 a).mp h) _ h2)⟩
    · cases hf1
end
end L4

namespace L4
open PySem L2
section
variable {X : Cx} {g : G} {T T' : Tk} {H : Hp} {m : M} {Q : VK} {pos : Pos}
/-! comprehensions -/
structure DTs (X : Cx) (ifs : List Expr) (f : TF) : Prop where
  ex : ∃ t, PTs X ifs t ∧ RfT (gx X) t f
def tTrue : TF := fun _ m => some (true, m)
theorem dts_nil : DTs X [] tTrue := ⟨_, pts_nil, fun T σ H ρ m b m' hm hs hf Q k => by cases hf; exact k T H .refl hm⟩
theorem dts_one {c : Expr} {f : TF} (h : DT X c f) : DTs X [c] f := by
  obtain ⟨t, p, r⟩ := h.ex
  exact ⟨_, pts_one p, r⟩
/-- the readings of a block's parts hang on nothing of the block -/
structure DB {α : Type} (X : Cx) (scope : Scope) (P : Cx → α → Prop) (t : α) : Prop where
  all : ∀ (s : Shared) (H : Hp) (C : Addr) (cl : List (Str × Addr)) (fp : List Addr), P (X.blk s H scope (compEnvC scope cl C X.env) fp) t
theorem wpE {X : Cx} {e : Expr} {f : EF} (h : DE X e f) : PE X e (fun σ H Q => ∃ t, PE X e t ∧ t σ H Q) := ⟨fun pins s σ H Q I ⟨t, p, q⟩ => p.run pins s σ H Q I q⟩
theorem de_lc {elt tg iter : Expr} {ifs : List Expr} {scope : Scope} {own : List (Str × Nat)} {fi : AF} {t : Tgt} {fc : TF} {fe : EF} (hc : X.calm = true) (hN : X.N.Nodup) (hi : DI X tg iter fi) (ok : BlkOk X.N X.env.scope scope own)
    (hg : ∀ (s : Shared) (H : Hp) (C : Addr) (cl : List (Str × Addr)) (fp : List Addr), DGn (X.blk s H scope (compEnvC scope cl C X.env) fp) tg t) (ht : ∀ (s : Shared) (H : Hp) (C : Addr) (cl : List (Str × Addr)) (fp : List Addr), DTs (X.blk s H scope (compEnvC scope cl C X.env) fp) ifs fc)
    (he : ∀ (s : Shared) (H : Hp) (C : Addr) (cl : List (Str × Addr)) (fp : List Addr), DE (X.blk s H scope (compEnvC scope cl C X.env) fp) elt fe) (hq : own.map (·.2) = t.is := by rfl) (hs : ∀ x, foldedSetIterable iter X.env x = pure x := by intro _; rfl) :
    DE X (.ListComp elt [⟨tg, iter, ifs, 0⟩] scope pos) (eLc fi t fc fe) := by
  obtain ⟨ti, pi, ri⟩ := hi.ex
  refine ⟨_, pe_lc (g := fun v σ H Q => ∀ s H' C cl fp, ∃ t, PG (X.blk s H' scope (compEnvC scope cl C X.env) fp) tg t ∧ t v σ H Q) (tt := fun σ H Q => ∀ s H' C cl fp, ∃ t, PTs (X.blk s H' scope (compEnvC scope cl C X.env) fp) ifs t ∧ t σ H Q)
    (te := fun σ H Q => ∀ s H' C cl fp, ∃ t, PE (X.blk s H' scope (compEnvC scope cl C X.env) fp) elt t ∧ t σ H Q) hc hN pi ok (fun s H C cl fp => ⟨fun pins s1 σ H1 v u Q I r h => ?_⟩) (fun s H C cl fp => ⟨fun pins s1 σ H1 Q I h => ?_⟩) (fun s H C cl fp => ⟨fun pins s1 σ H1 Q I h => ?_⟩) hs, ?_⟩
  · obtain ⟨t, p, q⟩ := h s H C cl fp
    exact p.run pins s1 σ H1 v u Q I r q
  · obtain ⟨t, p, q⟩ := h s H C cl fp
    exact p.run pins s1 σ H1 Q I q
  · obtain ⟨t, p, q⟩ := h s H C cl fp
    exact p.run pins s1 σ H1 Q I q
  · refine rf_lc ri ?_ ?_ ?_ hq
    · intro T σ H d v ds r hu Q k s H' C cl fp
      obtain ⟨t, p, q⟩ := (hg s H' C cl fp).ex
      exact ⟨t, p, q T σ H d v ds r hu Q k⟩
    · intro T σ H ρ m b m' hm hs hf Q k s H' C cl fp
      obtain ⟨t, p, q⟩ := (ht s H' C cl fp).ex
      exact ⟨t, p, q T σ H ρ m b m' hm hs hf Q k⟩
    · intro T σ H ρ m b m' hm hs hf Q k s H' C cl fp
      obtain ⟨t, p, q⟩ := (he s H' C cl fp).ex
      exact ⟨t, p, q T σ H ρ m b m' hm hs hf Q k⟩
theorem ds_setLc {i : Nat} {y : Str} {py : Pos} {elt tg iter : Expr} {ifs : List Expr} {scope : Scope} {own : List (Str × Nat)} {spos : Pos} {fi : AF} {t : Tgt} {fc : TF} {fe : EF} (hc : X.calm = true) (hN : X.N.Nodup) (hy : X.N[i]? = some y) (hyl : X.env.scope.names.lookup y = some .local)
    (hsw : swapsWith (.ListComp elt [⟨tg, iter, ifs, 0⟩] scope pos) (some (.Name y py)) spos.line X.env = pure true) (hi : DI X tg iter fi) (ok : BlkOk X.N X.env.scope scope own)
    (hg : ∀ (s : Shared) (H : Hp) (C : Addr) (cl : List (Str × Addr)) (fp : List Addr), DGn (X.blk s H scope (compEnvC scope cl C X.env) fp) tg t) (ht : ∀ (s : Shared) (H : Hp) (C : Addr) (cl : List (Str × Addr)) (fp : List Addr), DTs (X.blk s H scope (compEnvC scope cl C X.env) fp) ifs fc)
    (he : ∀ (s : Shared) (H : Hp) (C : Addr) (cl : List (Str × Addr)) (fp : List Addr), DE (X.blk s H scope (compEnvC scope cl C X.env) fp) elt fe) (hq : own.map (·.2) = t.is := by rfl) (hs : ∀ x, foldedSetIterable iter X.env x = pure x := by intro _; rfl) :
    DS X (.Assign [.Name y py] (.ListComp elt [⟨tg, iter, ifs, 0⟩] scope pos) spos) (sAsg (eLc fi t fc fe) (gNm i)) := by
  obtain ⟨ti, pi, ri⟩ := hi.ex
  refine ⟨_, ps_setLc (g := fun v σ H Q => ∀ s H' C cl fp, ∃ t, PG (X.blk s H' scope (compEnvC scope cl C X.env) fp) tg t ∧ t v σ H Q) (tt := fun σ H Q => ∀ s H' C cl fp, ∃ t, PTs (X.blk s H' scope (compEnvC scope cl C X.env) fp) ifs t ∧ t σ H Q)
    (te := fun σ H Q => ∀ s H' C cl fp, ∃ t, PE (X.blk s H' scope (compEnvC scope cl C X.env) fp) elt t ∧ t σ H Q) hc hN hy hyl hsw pi ok (fun s H C cl fp => ⟨fun pins s1 σ H1 v u Q I r h => ?_⟩) (fun s H C cl fp => ⟨fun pins s1 σ H1 Q I h => ?_⟩) (fun s H C cl fp => ⟨fun pins s1 σ H1 Q I h => ?_⟩) hs, rf_asg ?_ ?_⟩
  · obtain ⟨t, p, q⟩ := h s H C cl fp
    exact p.run pins s1 σ H1 v u Q I r q
  · obtain ⟨t, p, q⟩ := h s H C cl fp
    exact p.run pins s1 σ H1 Q I q
  · obtain ⟨t, p, q⟩ := h s H C cl fp
    exact p.run pins s1 σ H1 Q I q
  · refine rf_lc ri ?_ ?_ ?_ hq
    · intro T σ H d v ds r hu Q k s H' C cl fp
      obtain ⟨t, p, q⟩ := (hg s H' C cl fp).ex
      exact ⟨t, p, q T σ H d v ds r hu Q k⟩
    · intro T σ H ρ m b m' hm hs hf Q k s H' C cl fp
      obtain ⟨t, p, q⟩ := (ht s H' C cl fp).ex
      exact ⟨t, p, q T σ H ρ m b m' hm hs hf Q k⟩
    · intro T σ H ρ m b m' hm hs hf Q k s H' C cl fp
      obtain ⟨t, p, q⟩ := (he s H' C cl fp).ex
      exact ⟨t, p, q T σ H ρ m b m' hm hs hf Q k⟩
  · exact fun T σ H ρ m d v ρ' m' hm hs r hf Q k => by cases hf; exact k _ T H .refl hm (hs.set r)
/-! what is walked -/
def iAny (K : PySem.W.Frag) (te : TE) : TI := fun σ H R => te σ H fun v H1 => (∃ a, v = .ref a ∧ (∃ xs, SqL K H1 a xs) ∧ R (Itl K a) H1) ∨ (∃ a, v = .ref a ∧ (∃ xs, SqT K H1 a xs) ∧ R (Itt K a) H1) ∨ ∃ x, v = .str x ∧ R (Its x) H1
theorem pi_any {tg e : Expr} {te : TE} (he : PE X e te) : PI X tg e (iAny X.K te) := by
  refine ⟨fun pins s σ H R I h => ?_⟩
  refine thn (he.run pins s σ H _ I h) fun v s1 ⟨y, H1, I1, r1, hq⟩ => ?_
  rcases hq with ⟨a, rfl, ⟨xs, hx⟩, q⟩ | ⟨a, rfl, ⟨xs, hx⟩, q⟩ | ⟨x, rfl, q⟩
  · cases r1
    obtain ⟨its, rv, p, hz⟩ := I1.list hx
    exact wpAny_pyIter_list p.isList (pi_one (tk := s1.toks) I1 _ (turn_list a _) ⟨_, Heap.get?_push_size _ rfl, rfl, rfl⟩ q)
  · cases r1
    obtain ⟨its, rv, p, hz⟩ := I1.tuple hx
    exact wpAny_pyIter_tuple (show s1.heap.IsTuple a its.toArray from p) (pi_one (tk := s1.toks) I1 _ (turn_tuple a _) ⟨_, Heap.get?_push_size _ rfl, rfl, rfl⟩ q)
  · obtain ⟨t, rfl⟩ := r1
    cases ha : x.cps.all (· < 128)
    · exact wpAny_pyIter_wide ha (pi_one (tk := s1.toks) I1 _ (turn_str _ x t "str_iterator" (.inr rfl)) ⟨_, Heap.get?_push_size _ rfl, rfl, rfl⟩ q)
    · exact wpAny_pyIter_ascii ha (pi_one (tk := s1.toks) I1 _ (turn_str _ x t "str_ascii_iterator" (.inl rfl)) ⟨_, Heap.get?_push_size _ rfl, rfl, rfl⟩ q)
theorem RepL.none {ds : List D} {vs : List V} {i : Nat} (r : RepL g T H ds vs) (h : ds.length ≤ i) : vs.length ≤ i := by rw [← r.length]; exact h
theorem itok_L {a : Addr} {ds : List D} (h : ∀ T1 H1, Le T H T1 H1 → ∃ vs, SqL g.K H1 a vs ∧ RepL g T1 H1 ds vs) : ItOk g T H (Itl g.K a) ds := by
  intro T1 H1 l m1 hm1 i
  obtain ⟨vs, hx, r⟩ := h T1 H1 l
  refine ⟨fun d hd => ?_, fun hl => ⟨vs, hx, r.none (Nat.le_of_eq hl)⟩⟩
  obtain ⟨v, hv, q⟩ := r.get hd
  refine ⟨⟨vs, v, hx, hv⟩, fun x H2 ⟨e, hy⟩ => ?_⟩
  subst e
  have := hy vs hx
  rw [hv] at this
  cases this
  exact ⟨T1, .refl, hm1, q⟩
theorem itok_T {a : Addr} {ds : List D} (h : ∀ T1 H1, Le T H T1 H1 → ∃ vs, SqT g.K H1 a vs ∧ RepL g T1 H1 ds vs) : ItOk g T H (Itt g.K a) ds := by
  intro T1 H1 l m1 hm1 i
  obtain ⟨vs, hx, r⟩ := h T1 H1 l
  refine ⟨fun d hd => ?_, fun hl => ⟨vs, hx, r.none (Nat.le_of_eq hl)⟩⟩
  obtain ⟨v, hv, q⟩ := r.get hd
  refine ⟨⟨vs, v, hx, hv⟩, fun x H2 ⟨e, hy⟩ => ?_⟩
  subst e
  have := hy vs hx
  rw [hv] at this
  cases this
  exact ⟨T1, .refl, hm1, q⟩
theorem itok_S {x : Str} : ItOk g T H (Its x) (x.cps.toList.map fun c => .str ⟨#[c]⟩) := by
  intro T1 H1 l m1 hm1 i
  refine ⟨fun d hd => ?_, fun hl => by show x.cps.size ≤ i; have := Nat.le_of_eq hl; simpa using this⟩
  rw [List.getElem?_map] at hd
  obtain ⟨c, hc, rfl⟩ := Option.map_eq_some_iff.mp hd
  have hc' : x.cps[i]? = some c := by simpa using hc
  refine ⟨(Array.getElem?_eq_some_iff.mp hc').1, fun y H2 ⟨e, c', h1, h2⟩ => ?_⟩
  subst e h2
  rw [hc'] at h1
  cases h1
  exact ⟨T1, .refl, hm1, .str _⟩
theorem itok_R {lo : Int} {n : Nat} : ItOk g T H (Itr lo n) ((List.range n).map fun (i : Nat) => .int (lo + i)) := by
  intro T1 H1 l m1 hm1 i
  refine ⟨fun d hd => ?_, fun hl => by show n ≤ i; have := Nat.le_of_eq hl; simpa using this⟩
  rw [List.getElem?_map] at hd
  obtain ⟨c, hc, rfl⟩ := Option.map_eq_some_iff.mp hd
  obtain ⟨h1, h2⟩ := List.getElem?_eq_some_iff.mp hc
  simp at h1 h2
  subst h2
  refine ⟨h1, fun y H2 ⟨e, h2⟩ => ?_⟩
  subst e h2
  exact ⟨T1, .refl, hm1, .int _⟩
/-- the items of what is walked: nothing that is tracked -/
def items : D → Option (List D)
  | .tup ds => some ds
  | .lst ds => some ds
  | .scr ds => some ds
  | .str x => some (x.cps.toList.map fun c => .str ⟨#[c]⟩)
  | _ => none
def iIt (a : EF) : AF := fun ρ m => bd (a ρ m) fun x m1 => pu (items x) m1
theorem di_any {tg e : Expr} {f : EF} (h : DE X e f) : DI X tg e (iIt f) := by
  obtain ⟨t, p, r⟩ := h.ex
  refine ⟨_, pi_any p, fun T σ H ρ m ds m' hm hs hf R k => ?_⟩
  obtain ⟨x, m1, e1, hf⟩ := bd_some hf
  obtain ⟨e2, rfl⟩ := pu_some hf
  refine r T σ H ρ m x _ hm hs e1 _ fun v T1 H1 l1 hm1 r1 => ?_
  cases r1 with
  | tup f q => cases e2; exact .inr (.inl ⟨_, rfl, ⟨_, f.sq⟩, k _ T1 H1 l1 hm1 (itok_T fun T2 H2 l => ⟨_, (f.le l).sq, q.le l⟩)⟩)
  | lst f q => cases e2; exact .inl ⟨_, rfl, ⟨_, f.sq⟩, k _ T1 H1 l1 hm1 (itok_L fun T2 H2 l => ⟨_, (f.le l).sq, q.le l⟩)⟩
  | scr f q => cases e2; exact .inl ⟨_, rfl, ⟨_, f.sq⟩, k _ T1 H1 l1 hm1 (itok_L fun T2 H2 l => ⟨_, (f.le l).sq, q.le l⟩)⟩
  | str x => cases e2; exact .inr (.inr ⟨_, rfl, k _ T1 H1 l1 hm1 itok_S⟩)
  | _ => cases e2
def rngD (lo : Int) (n : Nat) : List D := (List.range n).map fun (i : Nat) => .int (lo + i)
def iR1 (a : AF) : AF := fun ρ m => bd (a ρ m) fun xs m1 => match xs with
  | [.int j] => if -(2 ^ 62) ≤ j ∧ j < 2 ^ 62 then some (rngD 0 j.toNat, m1) else none
  | _ => none
def iR2 (a : AF) : AF := fun ρ m => bd (a ρ m) fun xs m1 => match xs with
  | [.int i, .int j] => if -(2 ^ 62) ≤ i ∧ i < 2 ^ 62 ∧ -(2 ^ 62) ≤ j ∧ j < 2 ^ 62 then some (rngD i (j - i).toNat, m1) else none
  | _ => none
theorem di_range1 {tg a : Expr} {f : AF} {p : Pos} (hg : Gl X "range") (hm : X.mg "range" = none) (ha : DA X [a] f) (hs : starEach [a] X.env = [(false, eval a X.env)] := by rfl) : DI X tg (.Call (.Name "range" p) [a] [] pos) (iR1 f) := by
  obtain ⟨t, pa, r⟩ := ha.ex
  refine ⟨_, pi_range1 hg hm pa hs, fun T σ H ρ m ds m' hm hs hf R k => ?_⟩
  obtain ⟨x, m1, e1, hf⟩ := bd_some hf
  refine r T σ H ρ m x _ hm hs e1 _ fun v T1 H1 l1 hm1 r1 => ?_
  split at hf
  · obtain ⟨⟨h1, h2⟩, hf⟩ := ite_some hf
    cases hf
    cases r1 with
    | cons a b => cases a; cases b; exact ⟨_, rfl, h1, h2, k _ T1 H1 l1 hm1 itok_R⟩
  · cases hf
theorem di_range2 {tg a b : Expr} {f : AF} {p : Pos} (hg : Gl X "range") (hm : X.mg "range" = none) (ha : DA X [a, b] f) (hs : starEach [a, b] X.env = [(false, eval a X.env), (false, eval b X.env)] := by rfl) (hs2 : starEach [b] X.env = [(false, eval b X.env)] := by rfl) : DI X tg (.Call (.Name "range" p) [a, b] [] pos) (iR2 f) := by
  obtain ⟨t, pa, r⟩ := ha.ex
  refine ⟨_, pi_range2 hg hm pa hs hs2, fun T σ H ρ m ds m' hm hs hf R k => ?_⟩
  obtain ⟨x, m1, e1, hf⟩ := bd_some hf
  refine r T σ H ρ m x _ hm hs e1 _ fun v T1 H1 l1 hm1 r1 => ?_
  split at hf
  · obtain ⟨⟨h1, h2, h3, h4⟩, hf⟩ := ite_some hf
    cases hf
    cases r1 with
    | cons a b => cases a; cases b with
      | cons a b => cases a; cases b; exact ⟨_, _, rfl, ⟨h1, h2, h3, h4⟩, k _ T1 H1 l1 hm1 itok_R⟩
  · cases hf
end
end L4

namespace L4
open PySem L2
/-! defs, by their names -/
structure PFn (P : Program) (w : World) (K : PySem.W.Frag) (mg : Str → Option Value) (base : Heap) (k : Nat) (x : Str) (n : Nat) (F : List D → Option D) : Prop where
  len : ∀ ds d, F ds = some d → ds.length = n
  ex : ∃ f fd ps, FnG P w K mg base CX0 k f fd ps (spP ⟨P, w, K⟩ n F) ∧ mg x = some (.ref f) ∧ PySem.W.keepIn K (.ref f) = true ∧ Binds K fd ps []
structure MFn (P : Program) (w : World) (K : PySem.W.Frag) (mg : Str → Option Value) (base : Heap) (k : Nat) (x : Str) (n : Nat) (F : List D → M → Option (D × M)) : Prop where
  len : ∀ ds m r, F ds m = some r → ds.length = n
  ex : ∃ f fd ps, FnG P w K mg base CX0 k f fd ps (spM ⟨P, w, K⟩ n F) ∧ mg x = some (.ref f) ∧ PySem.W.keepIn K (.ref f) = true ∧ Binds K fd ps []
/-- a method -/
structure PMt (P : Program) (w : World) (K : PySem.W.Frag) (mg : Str → Option Value) (base : Heap) (k : Nat) (c m : Str) (n : Nat) (F : List D → Option D) : Prop where
  len : ∀ ds d, F ds = some d → ds.length = n
  cl : Cls K (He.ga K c)
  ex : ∃ f fd ps, FnG P w K mg base CX0 k f fd ps (spP ⟨P, w, K⟩ n F) ∧ Meth K (He.ga K c) m f ∧ Binds K fd ps []
structure MMt (P : Program) (w : World) (K : PySem.W.Frag) (mg : Str → Option Value) (base : Heap) (k : Nat) (c m : Str) (n : Nat) (F : List D → M → Option (D × M)) : Prop where
  len : ∀ ds m r, F ds m = some r → ds.length = n
  cl : Cls K (He.ga K c)
  ex : ∃ f fd ps, FnG P w K mg base CX0 k f fd ps (spM ⟨P, w, K⟩ n F) ∧ Meth K (He.ga K c) m f ∧ Binds K fd ps []
/-- a class with its __init__ -/
structure MNw (P : Program) (w : World) (K : PySem.W.Frag) (mg : Str → Option Value) (base : Heap) (k : Nat) (c : Str) (n : Nat) (F : List D → M → Option (D × M)) : Prop where
  len : ∀ ds m r, F ds m = some r → ds.length = n
  mgC : mg c = some (.ref (He.ga K c))
  ex : ∃ f fd ps, FnG P w K mg base CX0 k f fd ps (spM ⟨P, w, K⟩ n F) ∧ Mk K (He.ga K c) f ∧ Binds K fd ps []
section
variable {P : Program} {w : World} {K : PySem.W.Frag} {mg : Str → Option Value} {base : Heap} {k : Nat} {x q m c : Str} {ps N : List Str} {st : Stmt} {b : SF}
theorem fnG_all {f : Addr} {fd : FuncData} {sp : Sp} (F : Fun K x q st f fd) (S : FnScope N ps (defScope st)) (len : ∀ vs H Q E, sp vs H Q E → vs.length = ps.length)
    (hrun : ∀ {t : TS}, RfS ⟨P, w, K⟩ t b → ∀ {vs : List V} {H : Hp} {Q : VK} {E : XK}, sp vs H Q E → t { nx := fun _ H' => Q .non H', rt := Q } (L2.start N vs) H)
    (hbody : ∀ (cdv : Value) (A : Around) (outer : List Env) (s : Shared) (H : Hp) (E : XK), Gd k (cxOf CX0 P w K mg base N q (defScope st) f cdv A outer s H E).nox →
      DSs (cxOf CX0 P w K mg base N q (defScope st) f cdv A outer s H E).nox (defBody st) b) : FnG P w K mg base CX0 (k + 1) f fd ps sp := by
  refine .old (L3.fnG_of F S len fun cdv A outer s H vs Q E hg hr hsp => ?_)
  obtain ⟨t, p, r⟩ := (hbody cdv A outer s H E ⟨hg, hr⟩).ex
  exact ⟨t, p, hrun r hsp⟩
theorem pfn_df (D : L3.Df K mg x st) (S : FnScope N ps (defScope st))
    (hb : ∀ (kV doc pm : Value) (an : Option Addr) (cdv ct : Value) (us : List Value), us.length = ps.length → bindArgs (PySem.W.fnOf x x (defArgs st) (defBody st) (defScope st) .none kV doc pm an cdv ct) ⟨us, []⟩ = pure (ps.zip us))
    (hbody : ∀ (f : Addr) (cdv : Value) (A : Around) (outer : List Env) (s : Shared) (H : Hp) (E : XK), Gd k (cxOf CX0 P w K mg base N x (defScope st) f cdv A outer s H E).nox →
      DSs (cxOf CX0 P w K mg base N x (defScope st) f cdv A outer s H E).nox (defBody st) b) : PFn P w K mg base (k + 1) x ps.length (runP ps.length N.length b) := by
  obtain ⟨f, fd, F, g⟩ := D.ex
  exact ⟨fun ds d h => runP_len h, f, fd, ps, fnG_all F S (fun vs H Q E h => h.1) (fun r => spP_run r) (hbody f), g, F.kp, F.binds hb⟩
theorem mfn_df (D : L3.Df K mg x st) (S : FnScope N ps (defScope st))
    (hb : ∀ (kV doc pm : Value) (an : Option Addr) (cdv ct : Value) (us : List Value), us.length = ps.length → bindArgs (PySem.W.fnOf x x (defArgs st) (defBody st) (defScope st) .none kV doc pm an cdv ct) ⟨us, []⟩ = pure (ps.zip us))
    (hbody : ∀ (f : Addr) (cdv : Value) (A : Around) (outer : List Env) (s : Shared) (H : Hp) (E : XK), Gd k (cxOf CX0 P w K mg base N x (defScope st) f cdv A outer s H E).nox →
      DSs (cxOf CX0 P w K mg base N x (defScope st) f cdv A outer s H E).nox (defBody st) b) : MFn P w K mg base (k + 1) x ps.length (runM ps.length N.length b) := by
  obtain ⟨f, fd, F, g⟩ := D.ex
  exact ⟨fun ds m d h => runM_len h, f, fd, ps, fnG_all F S (fun vs H Q E h => h.1) (fun r => spM_run r) (hbody f), g, F.kp, F.binds hb⟩
theorem pmt_md (D : L3.Md K (He.ga K c) m q st) (cl : Cls K (He.ga K c)) (S : FnScope N ps (defScope st))
    (hb : ∀ (kV doc pm : Value) (an : Option Addr) (cdv ct : Value) (us : List Value), us.length = ps.length → bindArgs (PySem.W.fnOf m q (defArgs st) (defBody st) (defScope st) .none kV doc pm an cdv ct) ⟨us, []⟩ = pure (ps.zip us))
    (hbody : ∀ (f : Addr) (cdv : Value) (A : Around) (outer : List Env) (s : Shared) (H : Hp) (E : XK), Gd k (cxOf CX0 P w K mg base N q (defScope st) f cdv A outer s H E).nox →
      DSs (cxOf CX0 P w K mg base N q (defScope st) f cdv A outer s H E).nox (defBody st) b) : PMt P w K mg base (k + 1) c m ps.length (runP ps.length N.length b) := by
  obtain ⟨f, fd, F, g⟩ := D.ex
  exact ⟨fun ds d h => runP_len h, cl, f, fd, ps, fnG_all F S (fun vs H Q E h => h.1) (fun r => spP_run r) (hbody f), g, F.binds hb⟩
theorem mmt_md (D : L3.Md K (He.ga K c) m q st) (cl : Cls K (He.ga K c)) (S : FnScope N ps (defScope st))
    (hb : ∀ (kV doc pm : Value) (an : Option Addr) (cdv ct : Value) (us : List Value), us.length = ps.length → bindArgs (PySem.W.fnOf m q (defArgs st) (defBody st) (defScope st) .none kV doc pm an cdv ct) ⟨us, []⟩ = pure (ps.zip us))
    (hbody : ∀ (f : Addr) (cdv : Value) (A : Around) (outer : List Env) (s : Shared) (H : Hp) (E : XK), Gd k (cxOf CX0 P w K mg base N q (defScope st) f cdv A outer s H E).nox →
      DSs (cxOf CX0 P w K mg base N q (defScope st) f cdv A outer s H E).nox (defBody st) b) : MMt P w K mg base (k + 1) c m ps.length (runM ps.length N.length b) := by
  obtain ⟨f, fd, F, g⟩ := D.ex
  exact ⟨fun ds m d h => runM_len h, cl, f, fd, ps, fnG_all F S (fun vs H Q E h => h.1) (fun r => spM_run r) (hbody f), g, F.binds hb⟩
theorem mnw_ki (D : L3.Ki K mg c (He.ga K c) q st) (S : FnScope N ps (defScope st))
    (hb : ∀ (kV doc pm : Value) (an : Option Addr) (cdv ct : Value) (us : List Value), us.length = ps.length → bindArgs (PySem.W.fnOf "__init__" q (defArgs st) (defBody st) (defScope st) .none kV doc pm an cdv ct) ⟨us, []⟩ = pure (ps.zip us))
    (hbody : ∀ (f : Addr) (cdv : Value) (A : Around) (outer : List Env) (s : Shared) (H : Hp) (E : XK), Gd k (cxOf CX0 P w K mg base N q (defScope st) f cdv A outer s H E).nox →
      DSs (cxOf CX0 P w K mg base N q (defScope st) f cdv A outer s H E).nox (defBody st) b) : MNw P w K mg base (k + 1) c ps.length (runM ps.length N.length b) := by
  obtain ⟨f, fd, F, g⟩ := D.ex
  exact ⟨fun ds m d h => runM_len h, D.mgC, f, fd, ps, fnG_all F S (fun vs H Q E h => h.1) (fun r => spM_run r) (hbody f), g, F.binds hb⟩
end
section
variable {X : Cx} {g : G} {T T' : Tk} {H : Hp} {m : M} {Q : VK} {pos p apos : Pos} {e o : Expr} {es : List Expr} {k n : Nat} {x c nm : Str}
theorem app_nil {r : List V → Hp → VK → Prop} {v : Value} {sp : Sp} (h : CallR X v fun vs H Q => sp (vs ++ []) H Q E0) : CallR X v fun vs H Q => sp vs H Q E0 := by
  intro pins s σ H xs us Q I r q
  exact h pins s σ H xs us Q I r (by show sp (xs ++ []) H Q E0; rw [List.append_nil]; exact q)
theorem de_pfn {F : List D → Option D} {f : AF} (hF : PFn X.prog X.w X.K X.mg X.base k x n F) (gd : Gd k X) (hg : Gl X x) (ha : DA X (e :: es) f) (hdb : (x == ("__debug__" : Str)) = false := by decide)
    (he : starEach (e :: es) X.env = (false, eval e X.env) :: starEach es X.env := by rfl) (hpl : (backTo pos (starEach es X.env)).any (·.1) = false := by rfl) : DE X (.Call (.Name x p) (e :: es) [] pos) (eCall (callP F) f) := by
  obtain ⟨fa, fd, ps, G, hm, kp, b⟩ := hF.ex
  obtain ⟨t, pa, ra⟩ := ha.ex
  exact ⟨_, pe_callR (app_nil (r := fun _ _ _ => True) (G.call gd b .nil)) hg hm kp pa hdb he hpl, rf_call (rf_callP hF.len) ra⟩
theorem de_pfn0 {F : List D → Option D} (hF : PFn X.prog X.w X.K X.mg X.base k x n F) (gd : Gd k X) (hg : Gl X x) (hdb : (x == ("__debug__" : Str)) = false := by decide) : DE X (.Call (.Name x p) [] [] pos) (eCall (callP F) aNil) := by
  obtain ⟨fa, fd, ps, G, hm, kp, b⟩ := hF.ex
  obtain ⟨t, pa, ra⟩ := (da_nil (X := X)).ex
  refine ⟨_, pe_callR0 (app_nil (r := fun _ _ _ => True) (G.call gd b .nil)) hg hm kp hdb, rf_call (rf_callP hF.len) ?_⟩
  exact fun T σ H ρ m ds m' hm hs hf Q k => by cases hf; exact k [] T H .refl hm .nil
theorem de_mfn {F : List D → M → Option (D × M)} {f : AF} (hF : MFn X.prog X.w X.K X.mg X.base k x n F) (gd : Gd k X) (hg : Gl X x) (ha : DA X (e :: es) f) (hdb : (x == ("__debug__" : Str)) = false := by decide)
    (he : starEach (e :: es) X.env = (false, eval e X.env) :: starEach es X.env := by rfl) (hpl : (backTo pos (starEach es X.env)).any (·.1) = false := by rfl) : DE X (.Call (.Name x p) (e :: es) [] pos) (eCallM F f) := by
  obtain ⟨fa, fd, ps, G, hm, kp, b⟩ := hF.ex
  obtain ⟨t, pa, ra⟩ := ha.ex
  exact ⟨_, pe_callR (app_nil (r := fun _ _ _ => True) (G.call gd b .nil)) hg hm kp pa hdb he hpl, rf_callM hF.len ra⟩
/-! methods -/
def tMthR (C : Addr) (m : Str) (r : List V → Hp → VK → Prop) (ta : TE) (t : TA) : TE := fun σ H Q => ta σ H fun x H1 => ∃ a dx fs, x = .ref a ∧ H1 a = some (.ins C dx fs) ∧ fs.lookup m = none ∧ t σ H1 fun vs H2 => r (x :: vs) H2 Q
theorem pe_mthR {pl : Sem Bool} {C f : Addr} {ta : TE} {t : TA} {r : List V → Hp → VK → Prop} (hc : CallR X (.ref f) r) (he : PE X o ta) (cl : Cls X.K C) (hm : Meth X.K C nm f) (ha : PA X (e :: es) t)
    (hst : starEach (e :: es) X.env = (false, eval e X.env) :: starEach es X.env := by rfl) (hpl : (backTo pos (starEach es X.env)).any (·.1) = false := by rfl)
    (ht : eval (.Call (.Attribute o nm apos) (e :: es) [] pos) X.env = (do
      let ov ← eval o X.env
      standAt apos.atName
      let (f, first) ← holding [ov] (getMethod ov nm pl)
      callWith pos f first (backTo pos (starEach (e :: es) X.env)) (backToKw pos (keywordEach [] X.env))) := by rfl) :
    PE X (.Call (.Attribute o nm apos) (e :: es) [] pos) (tMthR C nm r ta t) := by
  refine ⟨fun pins s σ H Q I h => PySem.W.methodCall_KW (pl := pl) (thn (he.run pins s σ H _ I h) fun u s1 ⟨x, H1, I1, rx, a, dx, fs, ex, ea, l, q⟩ => ?_) ht⟩
  cases ex
  cases rx
  refine getmeth_ok I1 ea cl hm l (PySem.W.callWith_K (first := [.ref a]) (h₀ := X.base) I.ok.mod.kin hm.kp (thn (ha.run pos pins s1 σ H1 _ I1 q) fun us s2 ⟨vs, H2, I2, rv, q2⟩ => ⟨I2.kIn, ?_⟩) hst hpl)
  exact hc pins s2 σ H2 (.ref a :: vs) (.ref a :: us) Q I2 (.cons rfl rv) q2
theorem pe_mthR0 {pl : Sem Bool} {C f : Addr} {ta : TE} {r : List V → Hp → VK → Prop} (hc : CallR X (.ref f) r) (he : PE X o ta) (cl : Cls X.K C) (hm : Meth X.K C nm f)
    (ht : eval (.Call (.Attribute o nm apos) [] [] pos) X.env = (do
      let ov ← eval o X.env
      standAt apos.atName
      let (f, first) ← holding [ov] (getMethod ov nm pl)
      callWith pos f first (backTo pos (starEach [] X.env)) (backToKw pos (keywordEach [] X.env))) := by rfl) :
    PE X (.Call (.Attribute o nm apos) [] [] pos) (tMthR C nm r ta tNil) := by
  refine ⟨fun pins s σ H Q I h => PySem.W.methodCall_KW (pl := pl) (thn (he.run pins s σ H _ I h) fun u s1 ⟨x, H1, I1, rx, a, dx, fs, ex, ea, l, q⟩ => ?_) ht⟩
  cases ex
  cases rx
  refine getmeth_ok I1 ea cl hm l (PySem.W.callWith_K0 (first := [.ref a]) I1.kIn hm.kp ?_)
  exact hc pins s1 σ H1 [.ref a] [.ref a] Q I1 (.cons rfl .nil) q
/-- the class and the fields of an object -/
def insO : O → Option (Str × List Str × List D)
  | .ins c ns vs => some (c, ns, vs)
  | _ => none
def insOf (m : M) : D → Option (Str × List Str × List D)
  | .obj c ns vs => some (c, ns, vs)
  | .ref n => (m[n]?).bind insO
  | _ => none
theorem ins_rep {d : D} {v : V} {ns : List Str} {vs : List D} (hm : RepH g T H m) (r : Rep g T H d v) (h : insOf m d = some (c, ns, vs)) : ∃ a dx fs, v = .ref a ∧ H a = some (.ins (He.ga g.K c) dx fs) ∧ fs.map Prod.fst = ns ∧ RepL g T H vs (fs.map Prod.snd) := by
  cases r with
  | obj n f e r => cases h; exact ⟨_, _, _, rfl, f, e, r⟩
  | ref e =>
    obtain ⟨o, h1, h2⟩ := Option.bind_eq_some_iff.mp h
    cases hm.at_ _ _ _ e h1 with
    | ins f e r => cases h2; exact ⟨_, _, _, rfl, f, e, r⟩
    | _ => cases h2
  | _ => cases h
theorem lookup_none {fs : List (Str × V)} {f : Str} (h : (fs.map Prod.fst).contains f = false) : fs.lookup f = none := by
  rw [List.lookup_eq_none_iff]
  intro p hp
  have : f ∉ fs.map Prod.fst := by simpa using h
  rw [bne_iff_ne]
  rintro rfl
  exact this (List.mem_map.mpr ⟨p, hp, rfl⟩)
/-- o.m(..): the object first, its class is asked -/
def eMth (c nm : Str) (F : M → List D → Option D) (o : EF) (a : AF) : EF := fun ρ m => bd (o ρ m) fun x m1 => match insOf m1 x with
  | some (c', ns, _) => if c' = c ∧ ns.contains nm = false then bd (a ρ m1) fun xs m2 => pu (F m2 (x :: xs)) m2 else none
  | none => none
def eMthM (c nm : Str) (F : List D → M → Option (D × M)) (o : EF) (a : AF) : EF := fun ρ m => bd (o ρ m) fun x m1 => match insOf m1 x with
  | some (c', ns, _) => if c' = c ∧ ns.contains nm = false then bd (a ρ m1) fun xs m2 => F (x :: xs) m2 else none
  | none => none
theorem rf_mth {F : List D → Option D} {fo : EF} {fa : AF} {ta : TE} {t : TA} (hn : ∀ ds d, F ds = some d → ds.length = n) (ho : RfE g ta fo) (ha : RfA g t fa) :
    RfE g (tMthR (He.ga g.K c) nm (fun vs H Q => spP g n F vs H Q E0) ta t) (eMth c nm (callP F) fo fa) := by
  intro T σ H ρ m d m' hm hs hf Q k
  obtain ⟨x, m1, e1, hf⟩ := bd_some hf
  refine ho T σ H ρ m x m1 hm hs e1 _ fun v T1 H1 l1 hm1 r1 => ?_
  split at hf
  · next c' ns vs hi =>
    obtain ⟨⟨ec, hc⟩, hf2⟩ := ite_some hf
    subst ec
    obtain ⟨xs, m2, e2, hf⟩ := bd_some hf2
    obtain ⟨e3, rfl⟩ := pu_some hf
    obtain ⟨a, dx, fs, rfl, ea, en, _⟩ := ins_rep hm1 r1 hi
    refine ⟨a, dx, fs, rfl, ea, lookup_none (by rw [en]; exact hc), ha T1 σ H1 ρ m1 xs _ hm1 (hs.le l1) e2 _ fun ws T2 H2 l2 hm2 r2 => ?_⟩
    exact rf_callP hn T2 H2 _ (x :: xs) (.ref a :: ws) d hm2 (.cons (r1.le l2) r2) e3 Q (k.le (l1.trans l2))
  · cases hf
theorem rf_mthM {F : List D → M → Option (D × M)} {fo : EF} {fa : AF} {ta : TE} {t : TA} (hn : ∀ ds m r, F ds m = some r → ds.length = n) (ho : RfE g ta fo) (ha : RfA g t fa) :
    RfE g (tMthR (He.ga g.K c) nm (fun vs H Q => spM g n F vs H Q E0) ta t) (eMthM c nm F fo fa) := by
  intro T σ H ρ m d m' hm hs hf Q k
  obtain ⟨x, m1, e1, hf⟩ := bd_some hf
  refine ho T σ H ρ m x m1 hm hs e1 _ fun v T1 H1 l1 hm1 r1 => ?_
  split at hf
  · next c' ns vs hi =>
    obtain ⟨⟨ec, hc⟩, hf2⟩ := ite_some hf
    subst ec
    obtain ⟨xs, m2, e2, hf⟩ := bd_some hf2
    obtain ⟨a, dx, fs, rfl, ea, en, _⟩ := ins_rep hm1 r1 hi
    refine ⟨a, dx, fs, rfl, ea, lookup_none (by rw [en]; exact hc), ha T1 σ H1 ρ m1 xs _ hm1 (hs.le l1) e2 _ fun ws T2 H2 l2 hm2 r2 => ?_⟩
    have q2 : RepL g T2 H2 (x :: xs) (.ref a :: ws) := .cons (r1.le l2) r2
    exact ⟨by rw [← q2.length]; exact hn _ _ _ hf, T2, m2, x :: xs, d, m', hm2, q2, hf, k.le (l1.trans l2)⟩
  · cases hf
theorem rf_nil : RfA g tNil aNil := fun T σ H ρ m ds m' hm hs hf Q k => by cases hf; exact k [] T H .refl hm .nil
theorem de_pmt {pl : Sem Bool} {F : List D → Option D} {fo : EF} {f : AF} (hF : PMt X.prog X.w X.K X.mg X.base k c nm n F) (gd : Gd k X) (ho : DE X o fo) (ha : DA X (e :: es) f)
    (hst : starEach (e :: es) X.env = (false, eval e X.env) :: starEach es X.env := by rfl) (hpl : (backTo pos (starEach es X.env)).any (·.1) = false := by rfl)
    (ht : eval (.Call (.Attribute o nm apos) (e :: es) [] pos) X.env = (do
      let ov ← eval o X.env
      standAt apos.atName
      let (f, first) ← holding [ov] (getMethod ov nm pl)
      callWith pos f first (backTo pos (starEach (e :: es) X.env)) (backToKw pos (keywordEach [] X.env))) := by rfl) : DE X (.Call (.Attribute o nm apos) (e :: es) [] pos) (eMth c nm (callP F) fo f) := by
  obtain ⟨fa, fd, ps, G, hm, b⟩ := hF.ex
  obtain ⟨t, pa, ra⟩ := ha.ex; obtain ⟨to, po, ro⟩ := ho.ex
  exact ⟨_, pe_mthR (app_nil (r := fun _ _ _ => True) (G.call gd b .nil)) po hF.cl hm pa hst hpl ht, rf_mth hF.len ro ra⟩
theorem de_pmt0 {pl : Sem Bool} {F : List D → Option D} {fo : EF} (hF : PMt X.prog X.w X.K X.mg X.base k c nm n F) (gd : Gd k X) (ho : DE X o fo)
    (ht : eval (.Call (.Attribute o nm apos) [] [] pos) X.env = (do
      let ov ← eval o X.env
      standAt apos.atName
      let (f, first) ← holding [ov] (getMethod ov nm pl)
      callWith pos f first (backTo pos (starEach [] X.env)) (backToKw pos (keywordEach [] X.env))) := by rfl) : DE X (.Call (.Attribute o nm apos) [] [] pos) (eMth c nm (callP F) fo aNil) := by
  obtain ⟨fa, fd, ps, G, hm, b⟩ := hF.ex
  obtain ⟨to, po, ro⟩ := ho.ex
  exact ⟨_, pe_mthR0 (app_nil (r := fun _ _ _ => True) (G.call gd b .nil)) po hF.cl hm ht, rf_mth hF.len ro rf_nil⟩
theorem de_mmt {pl : Sem Bool} {F : List D → M → Option (D × M)} {fo : EF} {f : AF} (hF : MMt X.prog X.w X.K X.mg X.base k c nm n F) (gd : Gd k X) (ho : DE X o fo) (ha : DA X (e :: es) f)
    (hst : starEach (e :: es) X.env = (false, eval e X.env) :: starEach es X.env := by rfl) (hpl : (backTo pos (starEach es X.env)).any (·.1) = false := by rfl)
    (ht : eval (.Call (.Attribute o nm apos) (e :: es) [] pos) X.env = (do
      let ov ← eval o X.env
      standAt apos.atName
      let (f, first) ← holding [ov] (getMethod ov nm pl)
      callWith pos f first (backTo pos (starEach (e :: es) X.env)) (backToKw pos (keywordEach [] X.env))) := by rfl) : DE X (.Call (.Attribute o nm apos) (e :: es) [] pos) (eMthM c nm F fo f) := by
  obtain ⟨fa, fd, ps, G, hm, b⟩ := hF.ex
  obtain ⟨t, pa, ra⟩ := ha.ex; obtain ⟨to, po, ro⟩ := ho.ex
  exact ⟨_, pe_mthR (app_nil (r := fun _ _ _ => True) (G.call gd b .nil)) po hF.cl hm pa hst hpl ht, rf_mthM hF.len ro ra⟩
theorem de_mmt0 {pl : Sem Bool} {F : List D → M → Option (D × M)} {fo : EF} (hF : MMt X.prog X.w X.K X.mg X.base k c nm n F) (gd : Gd k X) (ho : DE X o fo)
    (ht : eval (.Call (.Attribute o nm apos) [] [] pos) X.env = (do
      let ov ← eval o X.env
      standAt apos.atName
      let (f, first) ← holding [ov] (getMethod ov nm pl)
      callWith pos f first (backTo pos (starEach [] X.env)) (backToKw pos (keywordEach [] X.env))) := by rfl) : DE X (.Call (.Attribute o nm apos) [] [] pos) (eMthM c nm F fo aNil) := by
  obtain ⟨fa, fd, ps, G, hm, b⟩ := hF.ex
  obtain ⟨to, po, ro⟩ := ho.ex
  exact ⟨_, pe_mthR0 (app_nil (r := fun _ _ _ => True) (G.call gd b .nil)) po hF.cl hm ht, rf_mthM hF.len ro rf_nil⟩
/-! fields -/
def fldAt : List Str → List D → Str → Option D
  | n :: ns, v :: vs, f => if n = f then some v else fldAt ns vs f
  | _, _, _ => none
theorem fld_rep {f : Str} : ∀ {fs : List (Str × V)} {ns : List Str} {vs : List D} {d : D}, fs.map Prod.fst = ns → RepL g T H vs (fs.map Prod.snd) → fldAt ns vs f = some d → ∃ v, fs.lookup f = some v ∧ Rep g T H d v
  | [], _, _, _, e, r, h => by subst e; cases r; cases h
  | (n, w) :: fs, _, _, d, e, r, h => by
    subst e
    cases r with
    | cons r s =>
      change (if n = f then some _ else fldAt _ _ f) = some d at h
      by_cases hn : n = f
      · rw [if_pos hn] at h
        cases h
        subst hn
        exact ⟨w, by simp [List.lookup], r⟩
      · rw [if_neg hn] at h
        obtain ⟨v, e1, q⟩ := fld_rep (fs := fs) rfl s h
        refine ⟨v, ?_, q⟩
        have : (f == n) = false := by rw [beq_eq_false_iff_ne]; exact fun z => hn z.symm
        simp [List.lookup, this, e1]
def eFld (cs : List Str) (f : Str) (o : EF) : EF := fun ρ m => bd (o ρ m) fun x m1 => match insOf m1 x with
  | some (c, ns, vs) => if cs.contains c then pu (fldAt ns vs f) m1 else none
  | none => none
/-- none of these classes has the name f itself -/
def NA (K : PySem.W.Frag) (cs : List Str) (f : Str) : Prop := ∀ c ∈ cs, Cls K (He.ga K c) ∧ NoAttr K (He.ga K c) f
theorem na1 {K : PySem.W.Frag} {c f : Str} (h : Cls K (He.ga K c)) (n : NoAttr K (He.ga K c) f) : NA K [c] f := fun d hd => by rw [List.mem_singleton.mp hd]; exact ⟨h, n⟩
theorem naC {K : PySem.W.Frag} {c f : Str} {cs : List Str} (h : Cls K (He.ga K c)) (n : NoAttr K (He.ga K c) f) (r : NA K cs f) : NA K (c :: cs) f := fun d hd => by
  rcases List.mem_cons.mp hd with rfl | hd
  · exact ⟨h, n⟩
  · exact r d hd
theorem de_fld {cs : List Str} {f : Str} {fo : EF} (hn : NA X.K cs f) (ho : DE X o fo) (hb : attributeBase o f X.env (eval o X.env) = eval o X.env := by rfl) : DE X (.Attribute o f pos) (eFld cs f fo) := by
  obtain ⟨to, po, ro⟩ := ho.ex
  refine ⟨_, pe_fld po hb, fun T σ H ρ m d m' hm hs hf Q k => ?_⟩
  obtain ⟨x, m1, e1, hf⟩ := bd_some hf
  refine ro T σ H ρ m x m1 hm hs e1 _ fun v T1 H1 l1 hm1 r1 => ?_
  split at hf
  · next c' ns vs hi =>
    obtain ⟨hc, hf⟩ := ite_some hf
    obtain ⟨e3, rfl⟩ := pu_some hf
    obtain ⟨a, dx, fs, rfl, ea, en, rf⟩ := ins_rep hm1 r1 hi
    obtain ⟨w, e4, q⟩ := fld_rep en rf e3
    have hc' := hn c' (by simpa using hc)
    exact ⟨a, _, dx, fs, w, rfl, ea, hc'.1, hc'.2, e4, k _ T1 H1 l1 hm1 q⟩
  · cases hf
end
end L4

namespace L4
open PySem L2
section
variable {X : Cx} {g : G} {T T' : Tk} {H : Hp} {m : M} {Q : VK} {pos p apos : Pos} {e o : Expr} {es : List Expr} {k n : Nat} {x c nm : Str}
/-! objects made -/
theorem FnG.make {C f : Addr} {fd : FuncData} {ps : List Str} {sp : Sp} (Mk : Mk X.K C f) (F : FnG X.prog X.w X.K X.mg X.base CX0 k f fd ps sp) (gd : Gd (k + 1) X) (hb : Binds X.K fd ps []) :
    CallR X (.ref C) fun vs H Q => ∀ x dx, H x = none → H dx = none → dx ≠ x → sp (.ref x :: vs) (upd (upd H dx (.own x)) x (.ins C dx [])) (fun v H2 => v = .non ∧ Q (.ref x) H2) E0 := by
  intro pins s σ H vs us Q I r h
  have hq := h (s.heap.objs.size + 1) s.heap.objs.size (I.hok.fresh (Nat.le_succ _)) (I.hok.fresh (Nat.le_refl _)) (Nat.ne_of_lt (Nat.lt_succ_self _))
  have I2 := Inv.made (C := C) I
  have r2 : Vals (V.ref (s.heap.objs.size + 1) :: vs) (Value.ref (s.heap.objs.size + 1) :: us) := .cons rfl r
  have hl : (Value.ref (s.heap.objs.size + 1) :: us ++ []).length = ps.length := by
    rw [List.append_nil, ← r2.length]
    exact F.len _ _ _ _ hq
  have hg : (X.A.under (.builtin "type.__call__" ⟨.ref C :: us, []⟩)).guards = some [] := by
    have := gd.g
    have e : (Code.builtin "type.__call__" ⟨.ref C :: us, []⟩).guards = [] := by simp [Code.guards, Code.isGuard, guardIds]
    simp [Around.under, e, pushGuards, this]
  have b := hb _ (Value.ref (s.heap.objs.size + 1) :: us) I2.kIn hl
  rw [List.append_nil] at b
  refine wpAny_call (make_map (f := f) I.kIn Mk.makes Mk.init (beq_iff_eq.mp Mk.fn) (codeAny_mono (F.run _ X.stack _ _ _ _ _ _ E0 hg (gd.r.make C us []) (I2.env0.make C us []) b r2 hq) fun res s' hres => ?_))
  match res, hres with
  | .error _, z => exact z.elim
  | .ok (.ret u), z =>
    obtain ⟨v, H', I3, rv, ev, q3⟩ := I2.after z
    cases ev
    exact ⟨rv, V.ref (s.heap.objs.size + 1), H', I3, rfl, q3⟩
/-- an object that is never changed behind its making: plain data -/
def newP (c : Str) (F : List D → M → Option (D × M)) (ds : List D) : Option D := match F (.ref 0 :: ds) [.ins c [] []] with
  | some (.non, m) => frz m (.ref 0)
  | _ => none
def pureC (F : List D → Option D) (_ : M) (ds : List D) : Option D := if pureL ds then F ds else none
theorem rf_newP {F : List D → M → Option (D × M)} (hn : ∀ ds m r, F ds m = some r → ds.length = n) :
    RfC g (fun vs H Q => ∀ x dx, H x = none → H dx = none → dx ≠ x → spM g n F (.ref x :: vs) (upd (upd H dx (.own x)) x (.ins (He.ga g.K c) dx [])) (fun v H2 => v = .non ∧ Q (.ref x) H2) E0) (pureC (newP c F)) := by
  intro T H m xs vs d hm r hf Q k x dx hx hdx hne
  obtain ⟨hp, hf⟩ := ite_some hf
  unfold newP at hf
  split at hf
  · next m2 hF =>
    have up : ∀ a u, H a = some u → upd (upd H dx (.own x)) x (.ins (He.ga g.K c) dx []) a = some u := fun a u e => by
      rw [upd_ne (ne_of_none e hx), upd_ne (ne_of_none e hdx)]; exact e
    have nx : x ∉ T.ν := hm.nope hx
    let Tc : Tk := ⟨[x], x :: T.ν, fun a h => by rw [List.mem_singleton.mp h]; exact List.mem_cons_self ..⟩
    obtain ⟨l1, hm1⟩ := hm.grow up
    have hmc : RepH g Tc (upd (upd H dx (.own x)) x (.ins (He.ga g.K c) dx [])) [.ins c [] []] := by
      refine ⟨rfl, by simp [Tc], fun a ha => ?_, fun i a o h1 h2 => ?_⟩
      · rcases List.mem_cons.mp ha with rfl | z
        · exact ⟨_, upd_same, trivial⟩
        · exact hm1.has a z
      · cases i with
        | zero => cases h1; cases h2; exact .ins upd_same rfl .nil
        | succ i => cases h2
    have rx : RepL g (T0 T.ν) H xs vs := RepL.pure (fun _ h => h) _ hp r
    have rc : RepL g Tc (upd (upd H dx (.own x)) x (.ins (He.ga g.K c) dx [])) xs vs := by
      have l0 : Le (T0 T.ν) H ⟨[], x :: T.ν, fun a h => nomatch h⟩ (upd (upd H dx (.own x)) x (.ins (He.ga g.K c) dx [])) := ⟨List.prefix_rfl, fun a u e _ => up a u e, fun a ha n => by
        rcases List.mem_cons.mp ha with rfl | z
        · exact hx
        · exact absurd z n, fun a h n => (nomatch h), fun a h => List.mem_cons_of_mem _ h⟩
      exact RepL.lift (T := Tc) _ (rx.le l0)
    refine ⟨by have := hn _ _ _ hF; rw [← this]; simp [r.length], Tc, _, .ref 0 :: xs, .non, m2, hmc, .cons (.ref rfl) rc, hF, fun v T2 H2 l2 hm2 rv => ?_⟩
    cases rv
    refine ⟨rfl, ?_⟩
    have upH : ∀ a u, H a = some u → H2 a = some u := fun a u e => l2.keep a u (up a u e) fun z => by
      rw [List.mem_singleton.mp z] at e
      rw [hx] at e
      cases e
    obtain ⟨l3, hm3⟩ := hm.grow upH
    have rz : Rep g T2 H2 (.ref 0) (.ref x) := .ref (l2.get (n := 0) rfl)
    refine k _ T H2 l3 hm3 (Rep.lift _ (frz_ok hm2 (ν := T.ν) (fun a h => l2.up a (List.mem_cons_of_mem _ h)) (fun a h z => ?_) hf rz))
    by_cases ha : a ∈ Tc.μ
    · rw [List.mem_singleton.mp ha] at z; exact nx z
    · obtain ⟨u, e, _⟩ := hm1.has a z
      rw [l2.newμ a h ha] at e
      cases e
  · cases hf
end
end L4

namespace L4
open PySem L2
section
variable {X : Cx} {g : G} {T T' : Tk} {H : Hp} {m : M} {Q : VK} {pos p apos : Pos} {e o : Expr} {es : List Expr} {k n : Nat} {x c nm : Str}
theorem de_newP {F : List D → M → Option (D × M)} {f : AF} (hF : MNw X.prog X.w X.K X.mg X.base k c n F) (gd : Gd (k + 1) X) (hg : Gl X c) (ha : DA X (e :: es) f) (hdb : (c == ("__debug__" : Str)) = false := by decide)
    (he : starEach (e :: es) X.env = (false, eval e X.env) :: starEach es X.env := by rfl) (hpl : (backTo pos (starEach es X.env)).any (·.1) = false := by rfl) : DE X (.Call (.Name c p) (e :: es) [] pos) (eCall (pureC (newP c F)) f) := by
  obtain ⟨fa, fd, ps, G, M, b⟩ := hF.ex
  obtain ⟨t, pa, ra⟩ := ha.ex
  exact ⟨_, pe_callR (G.make M gd b) hg hF.mgC M.kp pa hdb he hpl, rf_call (rf_newP hF.len) ra⟩
/-- an object that changes -/
def eNewM (c : Str) (F : List D → M → Option (D × M)) (a : AF) : EF := fun ρ m => bd (a ρ m) fun xs m1 => match F (.ref m1.length :: xs) (m1 ++ [.ins c [] []]) with
  | some (.non, m2) => some (.ref m1.length, m2)
  | _ => none
theorem rf_newM {F : List D → M → Option (D × M)} {t : TA} {f : AF} (hn : ∀ ds m r, F ds m = some r → ds.length = n) (ha : RfA g t f) :
    RfE g (tCB (fun vs H Q => ∀ x dx, H x = none → H dx = none → dx ≠ x → spM g n F (.ref x :: vs) (upd (upd H dx (.own x)) x (.ins (He.ga g.K c) dx [])) (fun v H2 => v = .non ∧ Q (.ref x) H2) E0) t) (eNewM c F f) := by
  intro T σ H ρ m d m' hm hs hf Q k
  obtain ⟨xs, m1, e1, hf⟩ := bd_some hf
  refine ha T σ H ρ m xs m1 hm hs e1 _ fun vs T1 H1 l1 hm1 r1 x dx hx hdx hne => ?_
  split at hf
  · next m2 hF =>
    cases hf
    obtain ⟨l2, hm2⟩ := hm1.fresh (u := .own x) hdx
    obtain ⟨l3, hm3⟩ := hm2.push (p := x) (u := .ins (He.ga g.K c) dx []) (o := .ins c [] []) (by rw [upd_ne (fun z => hne z.symm)]; exact hx) fun _ => .ins upd_same rfl .nil
    have rx : Rep g (T1.push x) (upd (upd H1 dx (.own x)) x (.ins (He.ga g.K c) dx [])) (.ref m1.length) (.ref x) := .ref (by
      show (T1.μ ++ [x])[m1.length]? = some x
      rw [← hm1.len, List.getElem?_append_right (Nat.le_refl _)]
      simp)
    have l23 := l2.trans l3
    refine ⟨by rw [← hn _ _ _ hF]; simp [r1.length], _, _, .ref m1.length :: xs, .non, _, hm3, .cons rx (r1.le l23), hF, fun v T4 H4 l4 hm4 rv => ?_⟩
    cases rv
    exact ⟨rfl, k _ T4 H4 (l1.trans (l23.trans l4)) hm4 (rx.le l4)⟩
  · cases hf
theorem de_newM {F : List D → M → Option (D × M)} {f : AF} (hF : MNw X.prog X.w X.K X.mg X.base k c n F) (gd : Gd (k + 1) X) (hg : Gl X c) (ha : DA X (e :: es) f) (hdb : (c == ("__debug__" : Str)) = false := by decide)
    (he : starEach (e :: es) X.env = (false, eval e X.env) :: starEach es X.env := by rfl) (hpl : (backTo pos (starEach es X.env)).any (·.1) = false := by rfl) : DE X (.Call (.Name c p) (e :: es) [] pos) (eNewM c F f) := by
  obtain ⟨fa, fd, ps, G, M, b⟩ := hF.ex
  obtain ⟨t, pa, ra⟩ := ha.ex
  exact ⟨_, pe_callR (G.make M gd b) hg hF.mgC M.kp pa hdb he hpl, rf_newM hF.len ra⟩
theorem de_newM0 {F : List D → M → Option (D × M)} (hF : MNw X.prog X.w X.K X.mg X.base k c n F) (gd : Gd (k + 1) X) (hg : Gl X c) (hdb : (c == ("__debug__" : Str)) = false := by decide) : DE X (.Call (.Name c p) [] [] pos) (eNewM c F aNil) := by
  obtain ⟨fa, fd, ps, G, M, b⟩ := hF.ex
  exact ⟨_, pe_callR0 (G.make M gd b) hg hF.mgC M.kp hdb, rf_newM hF.len rf_nil⟩
/-! o.f = e -/
def putD (f : Str) (d : D) : List Str → List D → List Str × List D
  | n :: ns, v :: vs => if n = f then (n :: ns, d :: vs) else let r := putD f d ns vs; (n :: r.1, v :: r.2)
  | _, _ => ([f], [d])
theorem put_rep {f : Str} {d : D} {v : V} (rd : Rep g T H d v) : ∀ {fs : List (Str × V)} {vs : List D}, RepL g T H vs (fs.map Prod.snd) → (putF f v fs).map Prod.fst = (putD f d (fs.map Prod.fst) vs).1 ∧ RepL g T H (putD f d (fs.map Prod.fst) vs).2 ((putF f v fs).map Prod.snd)
  | [], _, r => by cases r; exact ⟨rfl, .cons rd .nil⟩
  | (n, w) :: fs, _, r => by
    cases r with
    | cons r s =>
      obtain ⟨h1, h2⟩ := put_rep (f := f) rd s
      unfold putF
      simp only [List.map_cons, putD]
      by_cases hn : n = f
      · rw [if_pos hn, if_pos hn]
        exact ⟨rfl, .cons rd s⟩
      · rw [if_neg hn, if_neg hn]
        exact ⟨by simp [h1], .cons r h2⟩
def sFldM (cs : List Str) (f : Str) (o v : EF) : SF := fun ρ m => bd (v ρ m) fun y m1 => bd (o ρ m1) fun x m2 => match x with
  | .ref n => match m2[n]? with
    | some (.ins c ns vs) => if cs.contains c ∧ vs.length < 1000 then some (.nx ρ, m2.set n (.ins c (putD f y ns vs).1 (putD f y ns vs).2)) else none
    | _ => none
  | _ => none
theorem ds_fld {cs : List Str} {f : Str} {value : Expr} {fo fv : EF} {pos' : Pos} (hn : NA X.K cs f) (ho : DE X o fo) (hv : DE X value fv) (hs : swapsWith value (some (.Attribute o f pos')) pos.line X.env = pure false := by rfl) :
    DS X (.Assign [.Attribute o f pos'] value pos) (sFldM cs f fo fv) := by
  obtain ⟨to, po, ro⟩ := ho.ex; obtain ⟨tv, pv, rv⟩ := hv.ex
  refine ⟨_, ps_fld po pv hs, fun T σ H ρ m d m' hm hs hf D k => ?_⟩
  obtain ⟨y, m1, e1, hf1⟩ := bd_some hf
  obtain ⟨x, m2, e2, hf2⟩ := bd_some hf1
  refine rv T σ H ρ m y m1 hm hs e1 _ fun v T1 H1 l1 hm1 r1 => ?_
  refine ro T1 σ H1 ρ m1 x m2 hm1 (hs.le l1) e2 _ fun u T2 H2 l2 hm2 r2 => ?_
  clear hf hf1
  split at hf2
  · next n =>
    split at hf2
    · next c ns vs hi =>
      obtain ⟨⟨hc, hl⟩, hf3⟩ := ite_some hf2
      cases hf3
      cases r2 with
      | ref ea =>
        cases hm2.at_ _ _ _ ea hi with
        | @ins dx fs _ _ _ h1 h2 r =>
          have hc' := hn c (by simpa using hc)
          refine ⟨_, _, dx, fs, rfl, h1, hc'.1, hc'.2, by have := r.length; simp at this; omega, ?_⟩
          obtain ⟨l3, hm3⟩ := hm2.put (u := .ins (He.ga X.K c) dx (putF f v fs)) (o := .ins c (putD f y ns vs).1 (putD f y ns vs).2) ea fun l => by
            obtain ⟨q1, q2⟩ := put_rep (f := f) ((r1.le l2).le l) (r.le l)
            rw [h2] at q1 q2
            exact .ins upd_same q1 q2
          exact k σ _ _ (l1.trans (l2.trans l3)) hm3 (hs.le (l1.trans (l2.trans l3)))
    · cases hf2
  · cases hf2
/-! tracked lists changed -/
theorem lst_tracked {n : Nat} {v : V} {ds : List D} (hm : RepH g T H m) (r : Rep g T H (.ref n) v) (h : m[n]? = some (.lst ds)) : ∃ a vs, v = .ref a ∧ T.μ[n]? = some a ∧ H a = some (.lst vs) ∧ RepL g T H ds vs := by
  cases r with
  | ref e =>
    cases hm.at_ _ _ _ e h with
    | lst f r => exact ⟨_, _, rfl, e, f, r⟩
theorem tyL_of {K : PySem.W.Frag} {a : Addr} {vs : List V} (h : H a = some (.lst vs)) : tyV K "list" (.ref a) H := .inl ⟨rfl, _, SqL.of h⟩
/-- a method of a tracked list: what it gives, and the list behind it -/
def eLm (F : List D → List D → Option (D × List D)) (o : EF) (a : AF) : EF := fun ρ m => bd (o ρ m) fun x m1 => match x with
  | .ref n => match m1[n]? with
    | some (.lst _) => bd (a ρ m1) fun ys m2 => match m2[n]? with
      | some (.lst ds) => (F ds ys).map fun r => (r.1, m2.set n (.lst r.2))
      | _ => none
    | _ => none
  | _ => none
def RfLm (g : G) (r : V → List V → Hp → VK → Prop) (F : M → List D → List D → Option (D × List D)) : Prop := ∀ T H m l xs ds ys vs d es, RepH g T H m → H l = some (.lst xs) → RepL g T H ds xs → RepL g T H ys vs → F m ds ys = some (d, es) → ∀ Q : VK,
  (∀ v zs, RepL g T H es zs → Rep g T H d v → Q v (upd H l (.lst zs))) → r (.ref l) vs H Q
theorem rf_lm {r : V → List V → Hp → VK → Prop} {F : M → List D → List D → Option (D × List D)} {to : TE} {t : TA} {fo : EF} {fa : AF} (hr : RfLm g r F) (ho : RfE g to fo) (ha : RfA g t fa) {ff : EF}
    (hff : ∀ ρ m, ff ρ m = bd (fo ρ m) fun x m1 => match x with
      | .ref n => match m1[n]? with
        | some (.lst _) => bd (fa ρ m1) fun ys m2 => match m2[n]? with
          | some (.lst ds) => (F m2 ds ys).map fun r => (r.1, m2.set n (.lst r.2))
          | _ => none
        | _ => none
      | _ => none) : RfE g (tBM g.K "list" r to t) ff := by
  intro T σ H ρ m d m' hm hs hf Q k
  rw [hff] at hf
  obtain ⟨x, m1, e1, hf1⟩ := bd_some hf
  clear hf
  refine ho T σ H ρ m x m1 hm hs e1 _ fun v T1 H1 l1 hm1 r1 => ?_
  split at hf1
  · next n =>
    split at hf1
    · next ds0 hi0 =>
      obtain ⟨ys, m2, e2, hf2⟩ := bd_some hf1
      obtain ⟨a, vs0, rfl, ea, h0, _⟩ := lst_tracked hm1 r1 hi0
      refine ⟨tyL_of h0, ha T1 σ H1 ρ m1 ys m2 hm1 (hs.le l1) e2 _ fun vs T2 H2 l2 hm2 r2 => ?_⟩
      split at hf2
      · next ds hi =>
        obtain ⟨⟨d', es⟩, h3, h4⟩ := Option.map_eq_some_iff.mp hf2
        obtain ⟨rfl, rfl⟩ : d' = d ∧ _ = m' := by injection h4 with h5 h6; exact ⟨h5, h6⟩
        obtain ⟨a', xs, e, ea2, h5, r5⟩ := lst_tracked hm2 (r1.le l2) hi
        cases e
        refine hr T2 H2 m2 a xs ds ys vs d' es hm2 h5 r5 r2 h3 Q fun v zs rz rv => ?_
        obtain ⟨l3, hm3⟩ := hm2.put (u := .lst zs) (o := .lst es) ea2 fun l => .lst upd_same (rz.le l)
        exact k v T2 _ (l1.trans (l2.trans l3)) hm3 (rv.le l3)
      · cases hf2
    · cases hf1
  · cases hf1
def appL (ds ys : List D) : Option (D × List D) := match ys with
  | [y] => if ds.length < sizeLine then some (.non, ds ++ [y]) else none
  | _ => none
def popL (ds ys : List D) : Option (D × List D) := match ys with
  | [] => match ds.getLast? with
    | some d => some (d, ds.dropLast)
    | none => none
  | _ => none
def extL (m : M) (ds ys : List D) : Option (D × List D) := match ys with
  | [y] => match lstOf m y with
    | some es => if ds.length + es.length ≤ sizeLine then some (.non, ds ++ es) else none
    | none => none
  | _ => none
def eLm0 (F : M → List D → List D → Option (D × List D)) (o : EF) (a : AF) : EF := fun ρ m => bd (o ρ m) fun x m1 => match x with
  | .ref n => match m1[n]? with
    | some (.lst _) => bd (a ρ m1) fun ys m2 => match m2[n]? with
      | some (.lst ds) => (F m2 ds ys).map fun r => (r.1, m2.set n (.lst r.2))
      | _ => none
    | _ => none
  | _ => none
theorem rfl_app : RfLm g rAppend (fun _ => appL) := by
  intro T H m l xs ds ys vs d es hm hl rd ry hf Q k
  change appL ds ys = some (d, es) at hf
  unfold appL at hf
  split at hf
  · obtain ⟨hz, hf⟩ := ite_some hf
    cases hf
    cases ry with
    | cons r1 r2 => cases r2; exact ⟨l, xs, _, rfl, rfl, hl, by rw [← rd.length]; exact hz, k _ _ (rd.append (.cons r1 .nil)) .non⟩
  · cases hf
theorem RepL.last {ds : List D} {vs : List V} {d : D} (r : RepL g T H ds vs) (h : ds.getLast? = some d) : ∃ v, vs[vs.length - 1]? = some v ∧ Rep g T H d v := by
  rw [List.getLast?_eq_getElem?] at h
  obtain ⟨v, e, q⟩ := r.get h
  rw [r.length] at e
  exact ⟨v, e, q⟩
theorem RepL.dropLast {ds : List D} {vs : List V} (r : RepL g T H ds vs) : RepL g T H ds.dropLast vs.dropLast := by
  rw [List.dropLast_eq_take, List.dropLast_eq_take, r.length]
  exact r.take _
theorem rfl_pop : RfLm g rPop (fun _ => popL) := by
  intro T H m l xs ds ys vs d es hm hl rd ry hf Q k
  change popL ds ys = some (d, es) at hf
  unfold popL at hf
  split at hf
  · split at hf
    · next h =>
      cases hf
      cases ry
      obtain ⟨v, e, q⟩ := rd.last h
      exact ⟨l, xs, v, rfl, rfl, hl, e, k _ _ rd.dropLast q⟩
    · cases hf
  · cases hf
theorem rfl_ext : RfLm g rExtend extL := by
  intro T H m l xs ds ys vs d es hm hl rd ry hf Q k
  unfold extL at hf
  split at hf
  · split at hf
    · next h =>
      obtain ⟨hz, hf⟩ := ite_some hf
      cases hf
      cases ry with
      | cons r1 r2 =>
        cases r2
        obtain ⟨b, zs, rfl, hb, rz⟩ := lst_rep hm r1 h
        exact ⟨l, b, xs, zs, rfl, rfl, hl, hb, by rw [← rd.length, ← rz.length]; exact hz, k _ _ (rd.append rz) .non⟩
    · cases hf
  · cases hf
theorem de_lm {name : Str} {id : String} {r : V → List V → Hp → VK → Prop} {F : M → List D → List D → Option (D × List D)} {fo : EF} {f : AF} (slot : Slot "list" name id) (hty : typeOf (.builtin id) = pure (.type "method_descriptor")) (hm : MtR X id r) (hr : RfLm (gx X) r F) (ho : DE X o fo) (ha : DA X (e :: es) f)
    (hbase : attributeBase o name X.env (eval o X.env) = eval o X.env := by rfl)
    (hfew : ((backTo pos (starEach (e :: es) X.env)).all (fun x => !x.1) && (backToKw pos (keywordEach [] X.env)).all (fun x => x.1.isSome)
      && decide ((e :: es).length + ([] : List Keyword).length + (if ([] : List Keyword).isEmpty then 0 else 1) < 30)) = true := by rfl)
    (hline : (apos.endLine == pos.line) = true := by rfl) (hs : starEach (e :: es) X.env = (false, eval e X.env) :: starEach es X.env := by rfl) (hplain : (backTo pos (starEach es X.env)).any (·.1) = false := by rfl) :
    DE X (.Call (.Attribute o name apos) (e :: es) [] pos) (eLm0 F fo f) := by
  obtain ⟨to, po, ro⟩ := ho.ex; obtain ⟨t, pa, ra⟩ := ha.ex
  exact ⟨_, pe_bm PySem.F.plainAttrs_list slot hty hm po pa hbase hfew hline hs hplain, rf_lm hr ro ra fun _ _ => rfl⟩
theorem de_lm0 {name : Str} {id : String} {r : V → List V → Hp → VK → Prop} {F : M → List D → List D → Option (D × List D)} {fo : EF} (slot : Slot "list" name id) (hty : typeOf (.builtin id) = pure (.type "method_descriptor")) (hm : MtR X id r) (hr : RfLm (gx X) r F) (ho : DE X o fo)
    (hbase : attributeBase o name X.env (eval o X.env) = eval o X.env := by rfl) (hline : (apos.endLine == pos.line) = true := by rfl) : DE X (.Call (.Attribute o name apos) [] [] pos) (eLm0 F fo aNil) := by
  obtain ⟨to, po, ro⟩ := ho.ex
  refine ⟨_, pe_bm0 PySem.F.plainAttrs_list slot hty hm po hbase hline, fun T σ H ρ m d m' hm hs hf Q k => ?_⟩
  exact rf_lm hr ro rf_nil (fun _ _ => rfl) T σ H ρ m d m' hm hs hf Q k
theorem de_append {fo : EF} {f : AF} (ho : DE X o fo) (ha : DA X [e] f) (hbase : attributeBase o "append" X.env (eval o X.env) = eval o X.env := by rfl) (hline : (apos.endLine == pos.line) = true := by rfl) (hs : starEach [e] X.env = [(false, eval e X.env)] := by rfl)
    (hfew : ((backTo pos (starEach [e] X.env)).all (fun x => !x.1) && (backToKw pos (keywordEach [] X.env)).all (fun x => x.1.isSome) && decide ([e].length + ([] : List Keyword).length + (if ([] : List Keyword).isEmpty then 0 else 1) < 30)) = true := by rfl) :
    DE X (.Call (.Attribute o "append" apos) [e] [] pos) (eLm0 (fun _ => appL) fo f) := de_lm PySem.F.slot_list_append PySem.F.type_list_append mt_append rfl_app ho ha hbase hfew hline hs rfl
theorem de_extend {fo : EF} {f : AF} (ho : DE X o fo) (ha : DA X [e] f) (hbase : attributeBase o "extend" X.env (eval o X.env) = eval o X.env := by rfl) (hline : (apos.endLine == pos.line) = true := by rfl) (hs : starEach [e] X.env = [(false, eval e X.env)] := by rfl)
    (hfew : ((backTo pos (starEach [e] X.env)).all (fun x => !x.1) && (backToKw pos (keywordEach [] X.env)).all (fun x => x.1.isSome) && decide ([e].length + ([] : List Keyword).length + (if ([] : List Keyword).isEmpty then 0 else 1) < 30)) = true := by rfl) :
    DE X (.Call (.Attribute o "extend" apos) [e] [] pos) (eLm0 extL fo f) := de_lm PySem.F.slot_list_extend PySem.F.type_list_extend mt_extend rfl_ext ho ha hbase hfew hline hs rfl
theorem de_pop {fo : EF} (ho : DE X o fo) (hbase : attributeBase o "pop" X.env (eval o X.env) = eval o X.env := by rfl) (hline : (apos.endLine == pos.line) = true := by rfl) :
    DE X (.Call (.Attribute o "pop" apos) [] [] pos) (eLm0 (fun _ => popL) fo aNil) := de_lm0 PySem.F.slot_list_pop PySem.F.type_list_pop mt_pop rfl_pop ho hbase hline
/-! xs[i] = e -/
def gSetL (o i : EF) : GF := fun d ρ m => bd (o ρ m) fun x m1 => bd (i ρ m1) fun y m2 => match x, y with
  | .ref n, .int k => match m2[n]? with
    | some (.lst ds) => match L2.ixN ds.length k with
      | some j => some (ρ, m2.set n (.lst (ds.set j d)))
      | none => none
    | _ => none
  | _, _ => none
theorem RepL.setAt {ds : List D} {vs : List V} {d : D} {v : V} {j : Nat} (r : RepL g T H ds vs) (q : Rep g T H d v) : RepL g T H (ds.set j d) (vs.set j v) := by
  induction j generalizing ds vs with
  | zero => cases r with
    | nil => exact .nil
    | cons _ s => exact .cons q s
  | succ j ih => cases r with
    | nil => exact .nil
    | cons a s => exact .cons a (ih s)
theorem dg_sub {i : Expr} {fo fi : EF} (ho : DE X o fo) (hi : DE X i fi) (hx : ∀ v, assign (.Subscript o i pos) X.env v = (do
      let ov ← holding [v] (eval o X.env)
      let iv ← holding [v, ov] (eval i X.env)
      standAt pos
      holding [v, ov, iv] (setItem ov iv v)
      release [v, ov, iv] []) := by intro _; rfl) : DG X (.Subscript o i pos) (gSetL fo fi) := by
  obtain ⟨to, po, ro⟩ := ho.ex; obtain ⟨ti, pi, ri⟩ := hi.ex
  refine ⟨_, pg_sub po pi set_list hx, fun T σ H ρ m d v ρ' m' hm hs r hf Q k => ?_⟩
  obtain ⟨x, m1, e1, hf1⟩ := bd_some hf
  obtain ⟨y, m2, e2, hf2⟩ := bd_some hf1
  clear hf hf1
  refine ro T σ H ρ m x m1 hm hs e1 _ fun u T1 H1 l1 hm1 r1 => ?_
  refine ri T1 σ H1 ρ m1 y m2 hm1 (hs.le l1) e2 _ fun w T2 H2 l2 hm2 r2 => ?_
  split at hf2
  · next n kk =>
    split at hf2
    · next ds hd =>
      split at hf2
      · next j hj =>
        cases hf2
        obtain ⟨a, vs, rfl, ea, h5, r5⟩ := lst_tracked hm2 (r1.le l2) hd
        cases r2
        refine ⟨a, vs, kk, j, rfl, rfl, h5, by rw [← r5.length]; exact hj, ?_⟩
        obtain ⟨l3, hm3⟩ := hm2.put (u := .lst (vs.set j v)) (o := .lst (ds.set j d)) ea fun l => .lst upd_same ((r5.le l).setAt ((r.le (l1.trans l2)).le l))
        exact k _ T2 _ (l1.trans (l2.trans l3)) hm3 (hs.le (l1.trans (l2.trans l3)))
      · cases hf2
    · cases hf2
  · cases hf2
end
end L4

namespace L4
open PySem L2
section
variable {X : Cx} {g : G} {T T' : Tk} {H : Hp} {m : M} {Q : VK} {pos p apos : Pos} {e o : Expr} {es : List Expr} {k n : Nat} {x c nm : Str}
theorem Gd.blk {s : Shared} {H : Hp} {sc : Scope} {ev : Env} {fp : List Addr} (h : Gd k X) : Gd k (X.blk s H sc ev fp) := ⟨h.g, h.r⟩
/-! calls of built-ins -/
theorem de_callB {id : String} {F : M → List D → Option D} {f : AF} (hc : CallD X (.builtin id) F) (hg : Gl X x) (hm : X.mg x = none) (hv : bootBuiltins x = some (.builtin id)) (ha : DA X (e :: es) f) (hn : x ≠ "__name__" := by decide) (hdb : (x == ("__debug__" : Str)) = false := by decide)
    (he : starEach (e :: es) X.env = (false, eval e X.env) :: starEach es X.env := by rfl) (hpl : (backTo pos (starEach es X.env)).any (·.1) = false := by rfl) : DE X (.Call (.Name x p) (e :: es) [] pos) (eCall F f) := by
  obtain ⟨r, h, q⟩ := hc.ex; obtain ⟨t, pa, ra⟩ := ha.ex
  exact ⟨_, pe_callB h hg hm hv pa hn hdb he hpl, rf_call q ra⟩
theorem de_callT {id : String} {F : M → List D → Option D} {f : AF} (hc : CallD X (.type id) F) (hg : Gl X x) (hm : X.mg x = none) (hv : bootBuiltins x = some (.type id)) (ha : DA X (e :: es) f) (hn : x ≠ "__name__" := by decide) (hdb : (x == ("__debug__" : Str)) = false := by decide)
    (he : starEach (e :: es) X.env = (false, eval e X.env) :: starEach es X.env := by rfl) (hpl : (backTo pos (starEach es X.env)).any (·.1) = false := by rfl) : DE X (.Call (.Name x p) (e :: es) [] pos) (eCall F f) := by
  obtain ⟨r, h, q⟩ := hc.ex; obtain ⟨t, pa, ra⟩ := ha.ex
  exact ⟨_, pe_callTy h hg hm hv pa hn hdb he hpl, rf_call q ra⟩
theorem orC {F : Value} {r q : List V → Hp → VK → Prop} (h1 : CallR X F r) (h2 : CallR X F q) : CallR X F (fun x H Q => r x H Q ∨ q x H Q) := by
  intro pins s σ H xs us Q I rx h
  rcases h with h | h
  · exact h1 pins s σ H xs us Q I rx h
  · exact h2 pins s σ H xs us Q I rx h
theorem RepL.one {d : D} {vs : List V} (r : RepL g T H [d] vs) : ∃ v, vs = [v] ∧ Rep g T H d v := by
  cases r with
  | cons r s => cases s; exact ⟨_, rfl, r⟩
theorem RepL.two {d e : D} {vs : List V} (r : RepL g T H [d, e] vs) : ∃ v w, vs = [v, w] ∧ Rep g T H d v ∧ Rep g T H e w := by
  cases r with
  | cons r s => obtain ⟨w, rfl, q⟩ := s.one; exact ⟨_, _, rfl, r, q⟩
def absD : M → List D → Option D
  | _, [.int i] => some (.int (if i < 0 then -i else i))
  | _, _ => none
theorem call_abs' : CallD X (.builtin "abs") absD := ⟨_, call_abs, fun T H m xs vs d hm r hf Q k => by
  unfold absD at hf; split at hf
  · cases hf; obtain ⟨v, rfl, q⟩ := r.one; cases q; exact ⟨_, rfl, k.now hm (.int _)⟩
  · cases hf⟩
def min2D : M → List D → Option D
  | _, [.int i, .int j] => some (.int (if j < i then j else i))
  | _, _ => none
theorem call_min2'' (hc : X.calm = true) : CallD X (.builtin "min") min2D := ⟨_, call_min2 hc, fun T H m xs vs d hm r hf Q k => by
  unfold min2D at hf; split at hf
  · cases hf; obtain ⟨v, w, rfl, q1, q2⟩ := r.two; cases q1; cases q2; exact ⟨_, _, rfl, k.now hm (.int _)⟩
  · cases hf⟩
def max2D : M → List D → Option D
  | _, [.int i, .int j] => some (.int (if j > i then j else i))
  | _, _ => none
theorem call_max2'' (hc : X.calm = true) : CallD X (.builtin "max") max2D := ⟨_, call_max2 hc, fun T H m xs vs d hm r hf Q k => by
  unfold max2D at hf; split at hf
  · cases hf; obtain ⟨v, w, rfl, q1, q2⟩ := r.two; cases q1; cases q2; exact ⟨_, _, rfl, k.now hm (.int _)⟩
  · cases hf⟩
def intD : M → List D → Option D
  | _, [.int i] => some (.int i)
  | _, [.bl b] => some (.int (if b then 1 else 0))
  | _, [.str a] => if a.length ≤ 640 then (PySem.intText? a).map .int else none
  | _, _ => none
theorem call_int' : CallD X (.type "int") intD := ⟨_, orC call_int1 call_int_str, fun T H m xs vs d hm r hf Q k => by
  unfold intD at hf; split at hf
  · cases hf; obtain ⟨v, rfl, q⟩ := r.one; cases q; exact .inl (.inl ⟨_, rfl, k.now hm (.int _)⟩)
  · cases hf; obtain ⟨v, rfl, q⟩ := r.one; cases q; exact .inl (.inr ⟨_, rfl, k.now hm (.int _)⟩)
  · obtain ⟨hz, hf⟩ := ite_some hf
    obtain ⟨n, hn, rfl⟩ := Option.map_eq_some_iff.mp hf
    obtain ⟨v, rfl, q⟩ := r.one; cases q; exact .inr ⟨_, n, rfl, hn, hz, k.now hm (.int _)⟩
  · cases hf⟩
def lenD : M → List D → Option D
  | _, [.tup ds] => some (.int ds.length)
  | _, [.str a] => if a.length ≤ sizeLine then some (.int a.length) else none
  | m, [x] => (lstR m x).map fun ds => .int ds.length
  | _, _ => none
theorem call_len' : CallD X (.builtin "len") lenD := ⟨_, call_len, fun T H m xs vs d hm r hf Q k => by
  unfold lenD at hf; split at hf
  · cases hf; obtain ⟨v, rfl, q⟩ := r.one
    obtain ⟨a, ws, rfl, hx, rl⟩ := tup_rep q
    exact ⟨_, _, rfl, .inr ⟨ws, hx, rl.length⟩, k.now hm (.int _)⟩
  · obtain ⟨hz, hf⟩ := ite_some hf
    cases hf; obtain ⟨v, rfl, q⟩ := r.one; cases q; exact ⟨_, _, rfl, ⟨hz, rfl⟩, k.now hm (.int _)⟩
  · obtain ⟨ds, h1, rfl⟩ := Option.map_eq_some_iff.mp hf
    obtain ⟨v, rfl, q⟩ := r.one
    obtain ⟨a, ws, rfl, hx, rl⟩ := lstR_rep hm q h1
    exact ⟨_, _, rfl, .inl ⟨ws, hx, rl.length⟩, k.now hm (.int _)⟩
  · cases hf⟩
def strD : M → List D → Option D
  | _, [.int i] => if i.natAbs.log2 < 1920 then some (.str (toString i)) else none
  | _, _ => none
theorem call_str' : CallD X (.type "str") strD := ⟨_, call_str_int, fun T H m xs vs d hm r hf Q k => by
  unfold strD at hf; split at hf
  · obtain ⟨hz, hf⟩ := ite_some hf
    cases hf; obtain ⟨v, rfl, q⟩ := r.one; cases q; exact ⟨_, rfl, hz, k.now hm (.str _)⟩
  · cases hf⟩
def tupD : M → List D → Option D
  | _, [.tup ds] => some (.tup ds)
  | m, [x] => (lstR m x).map .tup
  | _, _ => none
theorem call_tup' : CallD X (.type "tuple") tupD := ⟨_, call_tuple_of, fun T H m xs vs d hm r hf Q k => by
  unfold tupD at hf; split at hf
  · cases hf; obtain ⟨v, rfl, q⟩ := r.one
    obtain ⟨a, ws, rfl, hx, rl⟩ := tup_rep q
    exact ⟨a, ws, rfl, .inr ⟨hx, k.now hm q⟩⟩
  · obtain ⟨ds, h1, rfl⟩ := Option.map_eq_some_iff.mp hf
    obtain ⟨v, rfl, q⟩ := r.one
    obtain ⟨a, ws, rfl, hx, rl⟩ := lstR_rep hm q h1
    exact ⟨a, ws, rfl, .inl ⟨hx, fun l hl => k.tup hm rl l hl⟩⟩
  · cases hf⟩
def lisD : M → List D → Option D
  | _, [.tup ds] => some (.lst ds)
  | m, [x] => (lstR m x).map .lst
  | _, _ => none
theorem call_lis' : CallD X (.type "list") lisD := ⟨_, call_list_of, fun T H m xs vs d hm r hf Q k => by
  unfold lisD at hf; split at hf
  · cases hf; obtain ⟨v, rfl, q⟩ := r.one
    obtain ⟨a, ws, rfl, hx, rl⟩ := tup_rep q
    exact ⟨a, ws, rfl, .inr hx, fun l hl => k.lst hm rl l hl⟩
  · obtain ⟨ds, h1, rfl⟩ := Option.map_eq_some_iff.mp hf
    obtain ⟨v, rfl, q⟩ := r.one
    obtain ⟨a, ws, rfl, hx, rl⟩ := lstR_rep hm q h1
    exact ⟨a, ws, rfl, .inl hx, fun l hl => k.lst hm rl l hl⟩
  · cases hf⟩
/-- list(x) that is changed behind it -/
def eLisN (a : EF) : EF := fun ρ m => bd (a ρ m) fun x m1 => match lisD m1 [x] with
  | some (.lst ds) => some (.ref m1.length, m1 ++ [.lst ds])
  | _ => none
theorem de_lisN {f : EF} (hg : Gl X "list") (hm : X.mg "list" = none) (ha : DE X e f) (he : starEach [e] X.env = (false, eval e X.env) :: starEach [] X.env := by rfl) : DE X (.Call (.Name "list" p) [e] [] pos) (eLisN f) := by
  obtain ⟨t, pa, ra⟩ := ha.ex
  refine ⟨_, pe_callTy call_list_of hg hm (by decide +kernel) (pa_cons pa pa_nil he) (by decide) (by decide) he rfl, fun T σ H ρ m d m' hm hs hf Q k => ?_⟩
  obtain ⟨x, m1, e1, hf⟩ := bd_some hf
  refine ra T σ H ρ m x m1 hm hs e1 _ fun v T1 H1 l1 hm1 r1 => ?_
  split at hf
  · next ds h =>
    cases hf
    unfold lisD at h
    split at h
    · next h2 =>
      cases h; cases h2
      obtain ⟨a, ws, rfl, hx, rl⟩ := tup_rep r1
      exact ⟨a, ws, rfl, .inr hx, fun l hl => (k.le l1).newL hm1 rl l hl⟩
    · next h2 =>
      cases h2
      obtain ⟨es, h3, h4⟩ := Option.map_eq_some_iff.mp h
      cases h4
      obtain ⟨a, ws, rfl, hx, rl⟩ := lstR_rep hm1 r1 h3
      exact ⟨a, ws, rfl, .inl hx, fun l hl => (k.le l1).newL hm1 rl l hl⟩
    · cases h
  · cases hf
/-! isinstance -/
def tyO : O → Option String
  | .lst _ => some "list"
  | _ => none
def tyName (m : M) : D → Option String
  | .non => some "NoneType"
  | .bl _ => some "bool"
  | .int _ => some "int"
  | .str _ => some "str"
  | .tup _ => some "tuple"
  | .lst _ => some "list"
  | .scr _ => some "list"
  | .ref n => (m[n]?).bind tyO
  | _ => none
def isiB (t c : String) : Bool := t == c || (t == "bool" && c == "int")
def kinds : List String := ["int", "bool", "str", "tuple", "list"]
def isiD : M → List D → Option D
  | m, [x, .ty c] => if kinds.contains c then (tyName m x).map fun t => .bl (isiB t c) else none
  | m, [x, .tup [.ty c, .ty c']] => if kinds.contains c && kinds.contains c' then (tyName m x).map fun t => .bl (isiB t c || isiB t c') else none
  | _, _ => none
theorem tyX_of {d : D} {v : V} {t : String} (hm : RepH g T H m) (r : Rep g T H d v) (h : tyName m d = some t) : TyX g.K H v (.type t) := by
  cases r with
  | non => cases h; exact .base .non
  | bl b => cases h; exact .base (.bl b)
  | int b => cases h; exact .base (.int b)
  | str b => cases h; exact .base (.str b)
  | tup f _ =>
    cases h
    rcases f with ⟨_, f⟩ | f
    · exact .base (.tup f)
    · rcases f with (f | ⟨_, f⟩) | ⟨o, its, n, h1, h2, _⟩
      · cases f
      · cases f
      · exact .kTuple h1 h2
  | lst f _ => cases h; exact .base (.lst f.2)
  | scr f _ =>
    cases h
    rcases f with ⟨_, o, f⟩ | f
    · exact .base (.frz f)
    · rcases f with (f | ⟨_, f⟩) | ⟨o, its, n, h1, h2, _⟩
      · cases f
      · cases f
      · exact .kList h1 h2
  | ref e =>
    obtain ⟨o, h1, h2⟩ := Option.bind_eq_some_iff.mp h
    cases hm.at_ _ _ _ e h1 with
    | lst f r => cases h2; exact .base (.lst f)
    | _ => cases h2
  | _ => cases h
theorem tyO_lst {o : O} {t : String} (h : tyO o = some t) : t = "list" := by
  cases o with
  | lst ds => cases h; rfl
  | _ => cases h
theorem tyName_mem {d : D} {t : String} (h : tyName m d = some t) : t ∈ ["NoneType", "bool", "int", "str", "tuple", "list"] := by
  cases d with
  | ref n =>
    obtain ⟨o, h1, h2⟩ := Option.bind_eq_some_iff.mp h
    rw [tyO_lst h2]
    decide
  | non => cases h; decide
  | bl b => cases h; decide
  | int b => cases h; decide
  | str b => cases h; decide
  | tup b => cases h; decide
  | lst b => cases h; decide
  | scr b => cases h; decide
  | _ => cases h
theorem kit_isi : ∀ t ∈ ["NoneType", "bool", "int", "str", "tuple", "list"], ∀ c ∈ kinds, kitB t c = some (isiB t c) := by decide +kernel
theorem call_isi' : CallD X (.builtin "isinstance") isiD := ⟨_, orC call_isi (orC call_isiT call_isiK), fun T H m xs vs d hm r hf Q k => by
  unfold isiD at hf; split at hf
  · next y c =>
    obtain ⟨hc, hf⟩ := ite_some hf
    obtain ⟨t, h1, rfl⟩ := Option.map_eq_some_iff.mp hf
    obtain ⟨v, w, rfl, q1, q2⟩ := r.two
    cases q2
    exact .inl ⟨_, _, _, _, _, rfl, .ty _, tyX_of hm q1 h1, kit_ty (kit_isi t (tyName_mem h1) c (by simpa using hc)), k.now hm (.bl _)⟩
  · next y c c' =>
    obtain ⟨hc, hf⟩ := ite_some hf
    obtain ⟨t, h1, rfl⟩ := Option.map_eq_some_iff.mp hf
    obtain ⟨v, w, rfl, q1, q2⟩ := r.two
    obtain ⟨hc1, hc2⟩ := and2 hc
    have k1 := kit_isi t (tyName_mem h1) c (by simpa using hc1)
    have k2 := kit_isi t (tyName_mem h1) c' (by simpa using hc2)
    cases q2 with
    | tup f rl =>
      obtain ⟨v1, v2, rfl, z1, z2⟩ := rl.two
      cases z1; cases z2
      have key : PySem.W.kitAny X.K (.type t) [.type c, .type c'] = some (isiB t c || isiB t c') := by
        unfold PySem.W.kitAny
        rw [kit_ty k1]
        cases h2 : isiB t c with
        | true => rfl
        | false =>
          show PySem.W.kitAny _ _ _ = _
          unfold PySem.W.kitAny
          rw [kit_ty k2]
          cases h3 : isiB t c' <;> rfl
      rcases f with ⟨_, f⟩ | f
      · exact .inr (.inl ⟨_, _, _, _, _, _, rfl, f, .cons (.ty _) (.cons (.ty _) .nil), tyX_of hm q1 h1, key, k.now hm (.bl _)⟩)
      · rcases f with (f | ⟨_, f⟩) | ⟨⟨cl, dd, dt, sl⟩, its, n, h5, h6, h7, _, h8⟩
        · cases f
        · cases f
        · simp only at h6 h7
          subst h6 h7
          have e : its = #[.type c, .type c'] := by
            cases hi : its.toList with
            | nil => rw [hi] at h8; cases h8
            | cons a b =>
              rw [hi] at h8
              cases h8 with
              | cons y1 y2 =>
                cases y2 with
                | cons y3 y4 =>
                  cases y4
                  cases (show a = Value.type c from y1)
                  cases (show _ = Value.type c' from y3)
                  exact Array.ext' hi
          subst e
          exact .inr (.inr ⟨_, _, dd, [.type c, .type c'], n, sl, _, _, rfl, h5, tyX_of hm q1 h1, key, k.now hm (.bl _)⟩)
  · cases hf⟩
theorem de_ty {t : String} (hg : Gl X x) (hm : X.mg x = none) (hv : bootBuiltins x = some (.type t)) (hn : x ≠ "__name__" := by decide) (hd : (x == ("__debug__" : Str)) = false := by decide) : DE X (.Name x pos) (eC (.ty t)) :=
  ⟨_, pe_bltn (v := .ty t) hg hm hv rfl hn hd, rf_c fun _ _ => .ty t⟩
theorem de_glo (hg : Gl X x) (hm : X.mg x = some (.ref (He.ga X.K x))) (hd : (x == ("__debug__" : Str)) = false := by decide) : DE X (.Name x pos) (eC (.glo x)) :=
  ⟨_, pe_glob (v := .ref (He.ga X.K x)) hg hm rfl hd, rf_c fun _ _ => .glo x⟩
/-- a tuple of the top -/
theorem de_gtup {ds : List D} {vs : List V} (hg : Gl X x) (hm : X.mg x = some (.ref (He.ga X.K x))) (h : ∀ H, SqT X.K H (He.ga X.K x) vs) (hr : ∀ T H, RepL (gx X) T H ds vs) (hd : (x == ("__debug__" : Str)) = false := by decide) : DE X (.Name x pos) (eC (.tup ds)) :=
  ⟨_, pe_glob (v := .ref (He.ga X.K x)) hg hm rfl hd, rf_c fun T H => .tup (.inr (h _)) (hr T H)⟩
theorem de_gstr {v : Str} (hg : Gl X x) (hm : ∃ t, X.mg x = some (.str v t)) (hd : (x == ("__debug__" : Str)) = false := by decide) : DE X (.Name x pos) (eC (.str v)) := by
  obtain ⟨t, hm⟩ := hm
  exact ⟨_, pe_glob (v := .str v) hg hm ⟨t, rfl⟩ hd, rf_c fun T H => .str v⟩
theorem de_gint {v : Int} (hg : Gl X x) (hm : ∃ t, X.mg x = some (.int v t)) (hd : (x == ("__debug__" : Str)) = false := by decide) : DE X (.Name x pos) (eC (.int v)) := by
  obtain ⟨t, hm⟩ := hm
  exact ⟨_, pe_glob (v := .int v) hg hm ⟨t, rfl⟩ hd, rf_c fun T H => .int v⟩
/-! texts -/
def eM1 (F : M → D → D → Option D) (a b : EF) : EF := fun ρ m => bd (a ρ m) fun x m1 => match x with
  | .str z => bd (b ρ m1) fun y m2 => pu (F m2 (.str z) y) m2
  | _ => none
theorem rf_m1 {r : V → List V → Hp → VK → Prop} {F : M → D → D → Option D} {ta tb : TE} {a b : EF} (hr : ∀ T H m z y u d, RepH g T H m → Rep g T H y u → F m (.str z) y = some d → ∀ Q, KV g T H m d Q → r (.str z) [u] H Q) (ha : RfE g ta a) (hb : RfE g tb b) : RfE g (tM1 r ta tb) (eM1 F a b) := by
  intro T σ H ρ m d m' hm hs hf Q k
  obtain ⟨x, m1, e1, hf1⟩ := bd_some hf
  refine ha T σ H ρ m x m1 hm hs e1 _ fun v T1 H1 l1 hm1 r1 => ?_
  clear hf
  cases r1 with
  | str z =>
    obtain ⟨y, m2, e2, hf⟩ := bd_some hf1
    obtain ⟨e3, rfl⟩ := pu_some hf
    refine ⟨⟨z, rfl⟩, hb T1 σ H1 ρ m1 y _ hm1 (hs.le l1) e2 _ fun u T2 H2 l2 hm2 r2 => ?_⟩
    exact hr T2 H2 _ z y u d hm2 r2 e3 Q (k.le (l1.trans l2))
  | _ => cases hf1
def spl1 (c : Nat) : List Nat → List (List Nat)
  | [] => [[]]
  | x :: xs => if x = c then [] :: spl1 c xs else match spl1 c xs with
    | w :: ws => (x :: w) :: ws
    | [] => [[x]]
theorem spl1_ne (c : Nat) : ∀ l : List Nat, ∃ w ws, spl1 c l = w :: ws
  | [] => ⟨_, _, rfl⟩
  | x :: xs => by
    obtain ⟨w, ws, e⟩ := spl1_ne c xs
    simp only [spl1, e]
    split <;> exact ⟨_, _, rfl⟩
theorem spl_one (c : Nat) : ∀ (l acc w : List Nat) (ws : List (List Nat)), spl1 c l = w :: ws → TL.spl [c] 0 acc l = (acc ++ w) :: ws
  | [], acc, w, ws, h => by cases h; simp [TL.spl]
  | x :: xs, acc, w, ws, h => by
    obtain ⟨v, vs, e⟩ := spl1_ne c xs
    simp only [spl1, e] at h
    by_cases hx : x = c
    · rw [if_pos hx] at h
      cases h
      have hp : TL.pre [c] (x :: xs) = true := by simp [TL.pre, hx]
      simp only [TL.spl, hp, if_true, List.length_singleton, Nat.sub_self, List.append_nil]
      rw [spl_one c xs [] v vs e]
      simp
    · rw [if_neg hx] at h
      cases h
      have hp : TL.pre [c] (x :: xs) = false := by simp [TL.pre]; exact fun z => hx (by first | exact z | exact z.symm)
      simp only [TL.spl, hp, Bool.false_eq_true, if_false]
      rw [spl_one c xs _ _ _ e]
      simp
def splitS (a : Str) (c : Nat) : List Str := (spl1 c a.cps.toList).map fun l => ⟨l.toArray⟩
theorem splitS_eq {a : Str} {c : Nat} (hc : c < 256) : Txt.split a ⟨#[c]⟩ = splitS a c := by
  obtain ⟨w, ws, e⟩ := spl1_ne c a.cps.toList
  have h := SX.split_S (a := a.cps.toList) (b := [c]) (by simp) (by simpa using hc)
  rw [spl_one c _ [] w ws e] at h
  unfold splitS
  rw [e]
  have ea : (SX.S a.cps.toList : Str) = a := by cases a; rfl
  rw [ea] at h
  simpa using h
def splitD : M → D → D → Option D
  | _, .str a, .str b => match b.cps.toList with
    | [c] => if c < 256 ∧ a.length + 2 ≤ sizeLine then some (.lst ((splitS a c).map .str)) else none
    | _ => none
  | _, _, _ => none
theorem repL_strs (ys : List Str) : RepL g T H (ys.map .str) (ys.map V.str) := by
  induction ys with
  | nil => exact .nil
  | cons y ys ih => exact .cons (.str y) ih
theorem de_split {fo fe : EF} (ho : DE X o fo) (he : DE X e fe) (hs : starEach [e] X.env = [(false, eval e X.env)] := by rfl) (hbase : attributeBase o "split" X.env (eval o X.env) = eval o X.env := by rfl) (hline : (apos.endLine == pos.line) = true := by rfl) :
    DE X (.Call (.Attribute o "split" apos) [e] [] pos) (eM1 splitD fo fe) := by
  obtain ⟨to, po, ro⟩ := ho.ex; obtain ⟨te, pe, re⟩ := he.ex
  refine ⟨_, pe_split po pe hs hbase hline, rf_m1 (fun T H m z y u d hm ry hf Q k => ?_) ro re⟩
  cases ry with
  | str b =>
    change (match b.cps.toList with
      | [c] => if c < 256 ∧ z.length + 2 ≤ sizeLine then some (.lst ((splitS z c).map .str)) else none
      | _ => none) = some d at hf
    split at hf
    · next c hc =>
      obtain ⟨⟨h1, h2⟩, hf⟩ := ite_some hf
      cases hf
      have eb := sign_of hc
      subst eb
      exact ⟨z, _, rfl, rfl, rfl, h2, fun p hp => by rw [splitS_eq h1]; exact k.lst hm (repL_strs _) p hp⟩
    · cases hf
  | _ => cases hf
def txts : List D → Option (List Str)
  | [] => some []
  | .str x :: ds => (txts ds).map (x :: ·)
  | _ => none
theorem txts_rep : ∀ {ds : List D} {ys : List Str} {vs : List V}, txts ds = some ys → RepL g T H ds vs → vs = ys.map V.str
  | [], _, _, h, r => by cases h; cases r; rfl
  | .str x :: ds, _, _, h, r => by
    obtain ⟨ys, h1, rfl⟩ := Option.map_eq_some_iff.mp h
    cases r with
    | cons a s => cases a; rw [txts_rep h1 s]; rfl
  | .non :: _, _, _, h, _ => by cases h
  | .bl _ :: _, _, _, h, _ => by cases h
  | .int _ :: _, _, _, h, _ => by cases h
  | .tup _ :: _, _, _, h, _ => by cases h
  | .lst _ :: _, _, _, h, _ => by cases h
  | .scr _ :: _, _, _, h, _ => by cases h
  | .dic _ _ :: _, _, _, h, _ => by cases h
  | .obj _ _ _ :: _, _, _, h, _ => by cases h
  | .ref _ :: _, _, _, h, _ => by cases h
  | .glo _ :: _, _, _, h, _ => by cases h
  | .ty _ :: _, _, _, h, _ => by cases h
def seqD (m : M) : D → Option (List D)
  | .tup ds => some ds
  | y => lstR m y
theorem seq_rep {d : D} {v : V} {ds : List D} (hm : RepH g T H m) (r : Rep g T H d v) (h : seqD m d = some ds) : ∃ a vs, v = .ref a ∧ (SqL g.K H a vs ∨ SqT g.K H a vs) ∧ RepL g T H ds vs := by
  unfold seqD at h
  split at h
  · cases h
    obtain ⟨a, ws, rfl, hx, rl⟩ := tup_rep r
    exact ⟨a, ws, rfl, .inr hx, rl⟩
  · obtain ⟨a, ws, rfl, hx, rl⟩ := lstR_rep hm r h
    exact ⟨a, ws, rfl, .inl hx, rl⟩
def joinT (a : Str) (ys : List Str) : Str := ⟨(TL.joinL a.cps.toList (ys.map fun y => y.cps.toList)).toArray⟩
theorem joinT_eq (a : Str) (ys : List Str) : Txt.join a ys = joinT a ys := by
  have h := SX.join_S a.cps.toList (ys.map fun y => y.cps.toList)
  have ea : (SX.S a.cps.toList : Str) = a := by cases a; rfl
  have ey : (ys.map fun y => y.cps.toList).map SX.S = ys := by
    rw [List.map_map]
    conv => rhs; rw [← List.map_id ys]
    exact List.map_congr_left fun y _ => by cases y; rfl
  rw [ea, ey] at h
  exact h
def joinS (a : Str) (ys : List Str) : Option D := if (ys.map (·.length)).sum + ys.length * a.length ≤ 16777216 then some (.str (joinT a ys)) else none
def joinD (m : M) (x y : D) : Option D := match x with
  | .str a => ((seqD m y).bind txts).bind (joinS a)
  | _ => none
theorem de_join {fo fe : EF} (ho : DE X o fo) (he : DE X e fe) (hs : starEach [e] X.env = [(false, eval e X.env)] := by rfl) (hbase : attributeBase o "join" X.env (eval o X.env) = eval o X.env := by rfl) (hline : (apos.endLine == pos.line) = true := by rfl) :
    DE X (.Call (.Attribute o "join" apos) [e] [] pos) (eM1 joinD fo fe) := by
  obtain ⟨to, po, ro⟩ := ho.ex; obtain ⟨te, pe, re⟩ := he.ex
  refine ⟨_, pe_join po pe hs hbase hline, rf_m1 (fun T H m z y u d hm ry hf Q k => ?_) ro re⟩
  obtain ⟨ys, h1, h2⟩ := Option.bind_eq_some_iff.mp hf
  obtain ⟨ds, h3, h4⟩ := Option.bind_eq_some_iff.mp h1
  obtain ⟨hz, h5⟩ := ite_some h2
  cases h5
  obtain ⟨a, ws, rfl, hx, rl⟩ := seq_rep hm ry h3
  rw [txts_rep h4 rl] at hx
  exact ⟨z, a, ys, rfl, rfl, hx, hz, by rw [joinT_eq]; exact k.now hm (.str _)⟩
/-! f-strings -/
def fmtD (d : D) : Option Str := match d with
  | .str y => if y.length ≤ sizeLine then some y else none
  | .int i => if i.natAbs.log2 < 1920 then some (toString i) else none
  | _ => none
def eFmt (a : EF) : EF := fun ρ m => bd (a ρ m) fun x m1 => pu ((fmtD x).map .str) m1
theorem de_fmt {f : EF} (h : DE X e f) : DE X (.FormattedValue e (-1) none pos) (eFmt f) := by
  obtain ⟨t, p, r⟩ := h.ex
  refine ⟨_, pe_fmt p, fun T σ H ρ m d m' hm hs hf Q k => ?_⟩
  obtain ⟨x, m1, e1, hf⟩ := bd_some hf
  obtain ⟨e2, rfl⟩ := pu_some hf
  obtain ⟨y, h1, rfl⟩ := Option.map_eq_some_iff.mp e2
  refine r T σ H ρ m x _ hm hs e1 _ fun v T1 H1 l1 hm1 r1 => ?_
  cases r1 with
  | str z => obtain ⟨hz, h1⟩ := ite_some h1; cases h1; exact .inl ⟨_, rfl, hz, k _ T1 H1 l1 hm1 (.str _)⟩
  | int i => obtain ⟨hz, h1⟩ := ite_some h1; cases h1; exact .inr ⟨_, rfl, hz, k _ T1 H1 l1 hm1 (.str _)⟩
  | _ => cases h1
def joinF : List EF → Str → Ss → M → Option (D × M)
  | [], acc, _, m => some (.str acc, m)
  | f :: fs, acc, ρ, m => bd (f ρ m) fun x m1 => match x with
    | .str y => if (catS acc y).length ≤ sizeLine then joinF fs (catS acc y) ρ m1 else none
    | _ => none
inductive DJ (X : Cx) : List Expr → List EF → Prop where
  | nil : DJ X [] []
  | cons {e : Expr} {f : EF} {es : List Expr} {fs : List EF} (h : DE X e f) (r : DJ X es fs) : DJ X (e :: es) (f :: fs)
theorem dj_ex {es : List Expr} {fs : List EF} (h : DJ X es fs) : ∃ ts, PJ X es ts ∧ ∀ (acc : Str) T σ H ρ m d m', RepH (gx X) T H m → RepS (gx X) T H σ ρ → joinF fs acc ρ m = some (d, m') → ∀ Q : VK, KV (gx X) T H m' d Q → tJs ts acc σ H fun out H1 => Q (.str out) H1 := by
  induction h with
  | nil => exact ⟨[], .nil, fun acc T σ H ρ m d m' hm hs hf Q k => by cases hf; exact k.now hm (.str _)⟩
  | cons h _ ih =>
    obtain ⟨t, p, r⟩ := h.ex
    obtain ⟨ts, ps, rs⟩ := ih
    refine ⟨t :: ts, .cons p ps, fun acc T σ H ρ m d m' hm hs hf Q k => ?_⟩
    obtain ⟨x, m1, e1, hf1⟩ := bd_some hf
    refine r T σ H ρ m x m1 hm hs e1 _ fun v T1 H1 l1 hm1 r1 => ?_
    cases r1 with
    | str z =>
      obtain ⟨hz, hf2⟩ := ite_some hf1
      rw [← catS_eq] at hz hf2
      exact ⟨z, rfl, hz, rs _ T1 σ H1 ρ m1 d m' hm1 (hs.le l1) hf2 Q (k.le l1)⟩
    | _ => cases hf1
theorem de_joined {v1 v2 : Expr} {rest : List Expr} {fs : List EF} (h : DJ X (v1 :: v2 :: rest) fs) : DE X (.JoinedStr (v1 :: v2 :: rest) pos) (joinF fs Str.empty) := by
  obtain ⟨ts, p, r⟩ := dj_ex h
  exact ⟨_, pe_joined p, r _⟩
theorem de_joined1 {f : EF} (h : DE X e f) : DE X (.JoinedStr [e] pos) f := by
  obtain ⟨t, p, r⟩ := h.ex
  exact ⟨_, pe_joined1 p, r⟩
/-! a, b = x, y; chains; stars -/
def sPar (is : List Nat) (a : AF) : SF := fun ρ m => bd (a ρ m) fun xs m1 => if xs.length = is.length then some (.nx (setMany ρ is xs), m1) else none
theorem ds_par {i j : Nat} {x y : Str} {a b : Expr} {f : AF} {px py pt : Pos} {kt k2 pt2} (hc : X.calm = true) (hN : X.N.Nodup) (hi : X.N[i]? = some x) (hj : X.N[j]? = some y) (hij : i ≠ j)
    (hx : X.env.scope.names.lookup x = some .local) (hy : X.env.scope.names.lookup y = some .local) (ha : DA X [a, b] f)
    (hw : swappedStores [.Tuple [.Name x px, .Name y py] kt pt] (.Tuple [a, b] k2 pt2) X.env = pure (some [x, y]))
    (hs : swapsWithSole [.Tuple [.Name x px, .Name y py] kt pt] (.Tuple [a, b] k2 pt2) pos.line X.env = pure false := by rfl) : DS X (.Assign [.Tuple [.Name x px, .Name y py] kt pt] (.Tuple [a, b] k2 pt2) pos) (sPar [i, j] f) := by
  obtain ⟨t, pa, ra⟩ := ha.ex
  refine ⟨_, ps_par hc hN hi hj hij hx hy pa hw hs, fun T σ H ρ m d m' hm hs hf D k => ?_⟩
  obtain ⟨xs, m1, e1, hf⟩ := bd_some hf
  obtain ⟨hl, hf⟩ := ite_some hf
  cases hf
  refine ra T σ H ρ m xs _ hm hs e1 _ fun vs T1 H1 l1 hm1 r1 => ?_
  match xs, hl, r1 with
  | [d1, d2], _, r1 =>
    obtain ⟨v, w, rfl, q1, q2⟩ := r1.two
    exact ⟨v, w, rfl, k _ T1 H1 l1 hm1 (((hs.le l1).set q1).set q2)⟩
theorem ds_par3 {i j l : Nat} {x y z : Str} {a b c : Expr} {f : AF} {px py pz pt : Pos} {kt k2 pt2} (hc : X.calm = true) (hN : X.N.Nodup) (hi : X.N[i]? = some x) (hj : X.N[j]? = some y) (hl : X.N[l]? = some z) (hij : i ≠ j) (hil : i ≠ l) (hjl : j ≠ l)
    (hx : X.env.scope.names.lookup x = some .local) (hy : X.env.scope.names.lookup y = some .local) (hz : X.env.scope.names.lookup z = some .local) (ha : DA X [a, b, c] f)
    (hw : swappedStores [.Tuple [.Name x px, .Name y py, .Name z pz] kt pt] (.Tuple [a, b, c] k2 pt2) X.env = pure (some [x, y, z]))
    (hs : swapsWithSole [.Tuple [.Name x px, .Name y py, .Name z pz] kt pt] (.Tuple [a, b, c] k2 pt2) pos.line X.env = pure false := by rfl) : DS X (.Assign [.Tuple [.Name x px, .Name y py, .Name z pz] kt pt] (.Tuple [a, b, c] k2 pt2) pos) (sPar [i, j, l] f) := by
  obtain ⟨t, pa, ra⟩ := ha.ex
  refine ⟨_, ps_par3 hc hN hi hj hl hij hil hjl hx hy hz pa hw hs, fun T σ H ρ m d m' hm hs hf D k => ?_⟩
  obtain ⟨xs, m1, e1, hf⟩ := bd_some hf
  obtain ⟨hl, hf⟩ := ite_some hf
  cases hf
  refine ra T σ H ρ m xs _ hm hs e1 _ fun vs T1 H1 l1 hm1 r1 => ?_
  match xs, hl, r1 with
  | [d1, d2, d3], _, .cons q1 r1 =>
    obtain ⟨v, w, rfl, q2, q3⟩ := r1.two
    exact ⟨_, v, w, rfl, k _ T1 H1 l1 hm1 ((((hs.le l1).set q1).set q2).set q3)⟩
def eChain (f h : M → D → D → Option D) (a b c : EF) : EF := fun ρ m => bd (a ρ m) fun x m1 => bd (b ρ m1) fun y m2 => match f m2 x y with
  | some (.bl true) => bd (c ρ m2) fun z m3 => pu (h m3 y z) m3
  | some (.bl false) => some (.bl false, m2)
  | _ => none
theorem rf_chain {r r' : R2} {f h : M → D → D → Option D} {ta tb tc : TE} {a b c : EF} (h1 : RfO g r f) (h2 : RfO g r' h) (ha : RfE g ta a) (hb : RfE g tb b) (hc : RfE g tc c) : RfE g (tChain r r' ta tb tc) (eChain f h a b c) := by
  intro T σ H ρ m d m' hm hs hf Q k
  obtain ⟨x, m1, e1, hf1⟩ := bd_some hf
  obtain ⟨y, m2, e2, hf2⟩ := bd_some hf1
  clear hf hf1
  refine ha T σ H ρ m x m1 hm hs e1 _ fun v T1 H1 l1 hm1 r1 => ?_
  refine hb T1 σ H1 ρ m1 y m2 hm1 (hs.le l1) e2 _ fun u T2 H2 l2 hm2 r2 => ?_
  split at hf2
  · next hq =>
    obtain ⟨z, m3, e3, hf3⟩ := bd_some hf2
    obtain ⟨e4, e5⟩ := pu_some hf3
    subst e5
    refine h1 T2 H2 m2 x y v u _ hm2 (r1.le l2) r2 hq _ fun w T3 H3 l3 hm3 r3 => ?_
    cases r3
    refine ⟨true, rfl, ?_⟩
    rw [if_pos rfl]
    refine hc T3 σ H3 ρ m2 z _ hm3 (hs.le (l1.trans (l2.trans l3))) e3 _ fun w T4 H4 l4 hm4 r4 => ?_
    exact h2 T4 H4 _ y z u w d hm4 (r2.le (l3.trans l4)) r4 e4 Q (k.le (l1.trans (l2.trans (l3.trans l4))))
  · next hq =>
    cases hf2
    refine h1 T2 H2 _ x y v u _ hm2 (r1.le l2) r2 hq _ fun w T3 H3 l3 hm3 r3 => ?_
    cases r3
    exact ⟨false, rfl, by rw [if_neg Bool.false_ne_true]; exact k _ T3 H3 (l1.trans (l2.trans l3)) hm3 (.bl _)⟩
  · cases hf2
theorem de_chain {op op' : CmpOp} {f h : M → D → D → Option D} {a b c : Expr} {fa fb fc : EF} (ho : OpD X (compareOp op) f) (ho' : OpD X (compareOp op') h) (ha : DE X a fa) (hb : DE X b fb) (hc : DE X c fc)
    (hm : lastMarks [op, op'] [b, c] = false := by with_unfolding_all rfl) : DE X (.Compare a [op, op'] [b, c] pos) (eChain f h fa fb fc) := by
  obtain ⟨r, h1, q1⟩ := ho.ex; obtain ⟨r', h2, q2⟩ := ho'.ex; obtain ⟨ta, pa, ra⟩ := ha.ex; obtain ⟨tb, pb, rb⟩ := hb.ex; obtain ⟨tc, pc, rc⟩ := hc.ex
  exact ⟨_, pe_chain h1 h2 pa pb pc hm, rf_chain q1 q2 ra rb rc⟩
theorem dt_chain {op op' : CmpOp} {f h : M → D → D → Option D} {a b c : Expr} {fa fb fc : EF} (ho : OpD X (compareOp op) f) (ho' : OpD X (compareOp op') h) (ha : DE X a fa) (hb : DE X b fb) (hc : DE X c fc)
    (hm : lastMarks [op, op'] [b, c] = false := by with_unfolding_all rfl) : DT X (.Compare a [op, op'] [b, c] pos) (tVal (eChain f h fa fb fc)) := by
  obtain ⟨r, h1, q1⟩ := ho.ex; obtain ⟨r', h2, q2⟩ := ho'.ex; obtain ⟨ta, pa, ra⟩ := ha.ex; obtain ⟨tb, pb, rb⟩ := hb.ex; obtain ⟨tc, pc, rc⟩ := hc.ex
  exact ⟨_, pt_chain h1 h2 pa pb pc hm, rf_test (rf_chain q1 q2 ra rb rc)⟩
/-! stars in displays and calls -/
def aStar (a : EF) (r : AF) : AF := fun ρ m => bd (a ρ m) fun x m1 => match seqD m1 x with
  | some ds => bd (r ρ m1) fun ys m2 => some (ds ++ ys, m2)
  | none => none
theorem da_star {f : EF} {fr : AF} (he : DE X e f) (hr : DA X es fr) (hs : starEach (.Starred e p :: es) X.env = (true, eval e X.env) :: starEach es X.env := by rfl) : DA X (.Starred e p :: es) (aStar f fr) := by
  obtain ⟨te, pe, re⟩ := he.ex; obtain ⟨tr, pr, rr⟩ := hr.ex
  refine ⟨_, StX.pa_star pe pr hs, fun T σ H ρ m d m' hm hs hf Q k => ?_⟩
  obtain ⟨x, m1, e1, hf1⟩ := bd_some hf
  clear hf
  refine re T σ H ρ m x m1 hm hs e1 _ fun v T1 H1 l1 hm1 r1 => ?_
  split at hf1
  · next ds hd =>
    obtain ⟨ys, m2, e2, hf2⟩ := bd_some hf1
    cases hf2
    obtain ⟨a, ws, rfl, hx, rl⟩ := seq_rep hm1 r1 hd
    exact ⟨a, ws, rfl, hx.symm, rr T1 σ H1 ρ m1 ys _ hm1 (hs.le l1) e2 _ fun vs T2 H2 l2 hm2 r2 => k _ T2 H2 (l1.trans l2) hm2 ((rl.le l2).append r2)⟩
  · cases hf1
/-- a statement that is never come to -/
def sNo : SF := fun _ _ => none
theorem ds_never {s : Stmt} : DS X s sNo := ⟨_, ps_never, fun T σ H ρ m d m' hm hs hf D k => by cases hf⟩
end
end L4

namespace L4
open PySem L2
section
variable {X : Cx} {g : G} {T T' : Tk} {H : Hp} {m : M} {Q : VK} {pos p apos : Pos} {e o : Expr} {es : List Expr} {k n : Nat} {x c nm : Str}
theorem dv (i : Nat) {x : Str} {pos : Pos} (hN : X.N[i]? = some x := by rfl) (hv : Vis X.env.scope x := by first | exact Or.inl rfl | exact Or.inr (Or.inl rfl) | exact Or.inr (Or.inr rfl)) (hd : (x == ("__debug__" : Str)) = false := by decide)
    (hcd : (x == ("__classdict__" : Str)) = false := by decide) : DE X (.Name x pos) (eVar i) := de_var hN hv hd hcd
def big : Nat := 1000000
/-! x += e -/
def sAug (i : Nat) (f : M → D → D → Option D) (a : EF) : SF := fun ρ m => match ρ.getD i none with
  | some x => bd (a ρ m) fun y m1 => bd (pu (f m1 x y) m1) fun z m2 => some (.nx (ρ.set i (some z)), m2)
  | none => none
theorem ds_aug {i : Nat} {x : Str} {f : EF} {pos' : Pos} (hN : X.N.Nodup) (hi : X.N[i]? = some x) (hx : Loc X.env.scope x) (he : DE X e f) (hf : X.fn x = true ∨ X.env.scope.names.lookup x = some .local := by first | exact .inl rfl | exact .inr rfl | assumption) :
    DS X (.AugAssign (.Name x pos') .Add e pos) (sAug i (fun _ => addI) f) := by
  obtain ⟨t, p, r⟩ := he.ex
  refine ⟨_, ps_aug hN hi hx p ip_add hf, fun T σ H ρ m d m' hm hs hf D k => ?_⟩
  unfold sAug at hf
  split at hf
  · next y hy =>
    obtain ⟨z, m1, e1, hf1⟩ := bd_some hf
    obtain ⟨w, m2, e2, hf2⟩ := bd_some hf1
    obtain ⟨e3, rfl⟩ := pu_some e2
    cases hf2
    obtain ⟨v, ev, rv⟩ := hs.at_ i y (by
      rw [List.getD_eq_getElem?_getD] at hy
      cases h : ρ[i]? with
      | none => rw [h] at hy; cases hy
      | some o => rw [h] at hy; cases hy; rfl)
    refine ⟨v, ev, r T σ H ρ m z _ hm hs e1 _ fun u T1 H1 l1 hm1 r1 => ?_⟩
    have rv1 := rv.le l1
    cases rv1 with
    | int a => cases r1 with
      | int b => cases e3; exact ⟨a, b, rfl, rfl, k _ T1 H1 l1 hm1 ((hs.le l1).set (.int _))⟩
      | _ => cases e3
    | _ => cases e3
  · cases hf
/-! any, all of a list of truths -/
def bools : List D → Option (List Bool)
  | [] => some []
  | .bl b :: ds => (bools ds).map (b :: ·)
  | _ => none
theorem bools_rep : ∀ {ds : List D} {bs : List Bool} {vs : List V}, bools ds = some bs → RepL g T H ds vs → vs = bs.map V.bl
  | [], _, _, h, r => by cases h; cases r; rfl
  | .bl x :: ds, _, _, h, r => by
    obtain ⟨ys, h1, rfl⟩ := Option.map_eq_some_iff.mp h
    cases r with
    | cons a s => cases a; rw [bools_rep h1 s]; rfl
  | .non :: _, _, _, h, _ => by cases h
  | .str _ :: _, _, _, h, _ => by cases h
  | .int _ :: _, _, _, h, _ => by cases h
  | .tup _ :: _, _, _, h, _ => by cases h
  | .lst _ :: _, _, _, h, _ => by cases h
  | .scr _ :: _, _, _, h, _ => by cases h
  | .dic _ _ :: _, _, _, h, _ => by cases h
  | .obj _ _ _ :: _, _, _, h, _ => by cases h
  | .ref _ :: _, _, _, h, _ => by cases h
  | .glo _ :: _, _, _, h, _ => by cases h
  | .ty _ :: _, _, _, h, _ => by cases h
end
end L4

/-! dicts -/
namespace L4
open PySem L2
mutual
def eqK : D → D → Bool
  | .non, .non => true
  | .bl a, .bl b => a == b
  | .bl a, .int i => (if a then 1 else 0) == i
  | .int i, .bl a => i == (if a then 1 else 0)
  | .int i, .int j => i == j
  | .str x, .str y => decide (x = y)
  | .tup a, .tup b => eqKs a b
  | _, _ => false
def eqKs : List D → List D → Bool
  | [], [] => true
  | a :: as, b :: bs => eqK a b && eqKs as bs
  | _, _ => false
end
theorem nks_cons {d : D} {ds : List D} {x : List NestedKey} (h : nks (d :: ds) = some x) : ∃ k ks, nk d = some k ∧ nks ds = some ks ∧ x = k :: ks := by
  rw [nks] at h
  cases h1 : nk d with
  | none => rw [h1] at h; cases h
  | some k => cases h2 : nks ds with
    | none => rw [h1, h2] at h; cases h
    | some ks => rw [h1, h2] at h; cases h; exact ⟨k, ks, rfl, rfl, rfl⟩
theorem dec_num {a b : Int} : decide (NestedKey.num a = .num b) = (a == b) := by
  by_cases h : a = b
  · subst h; simp
  · rw [decide_eq_false (fun z => h (by injection z)), beq_eq_false_iff_ne.mpr h]
mutual
theorem eqK_nk : ∀ (a b : D) (x y : NestedKey), nk a = some x → nk b = some y → eqK a b = decide (x = y)
  | .non, b, x, y, h, h2 => by rw [nk] at h; cases h; cases b <;> rw [nk] at h2 <;> first | (cases h2; done) | (cases h2; rfl) | (obtain ⟨z, _, rfl⟩ := Option.map_eq_some_iff.mp h2; rfl)
  | .bl p, b, x, y, h, h2 => by
    rw [nk] at h; cases h
    cases b with
    | bl q => rw [nk] at h2; cases h2; rw [dec_num, eqK]; cases p <;> cases q <;> rfl
    | int j => rw [nk] at h2; cases h2; rw [dec_num, eqK]
    | non => rw [nk] at h2; cases h2; rfl
    | str z => rw [nk] at h2; cases h2; rfl
    | tup z => rw [nk] at h2; obtain ⟨w, _, rfl⟩ := Option.map_eq_some_iff.mp h2; rfl
    | _ => rw [nk] at h2; cases h2
  | .int p, b, x, y, h, h2 => by
    rw [nk] at h; cases h
    cases b with
    | bl q => rw [nk] at h2; cases h2; rw [dec_num, eqK]
    | int j => rw [nk] at h2; cases h2; rw [dec_num, eqK]
    | non => rw [nk] at h2; cases h2; rfl
    | str z => rw [nk] at h2; cases h2; rfl
    | tup z => rw [nk] at h2; obtain ⟨w, _, rfl⟩ := Option.map_eq_some_iff.mp h2; rfl
    | _ => rw [nk] at h2; cases h2
  | .str p, b, x, y, h, h2 => by
    rw [nk] at h; cases h
    cases b with
    | bl q => rw [nk] at h2; cases h2; rfl
    | int j => rw [nk] at h2; cases h2; rfl
    | non => rw [nk] at h2; cases h2; rfl
    | str z =>
      rw [nk] at h2; cases h2; rw [eqK]
      by_cases e : p = z
      · subst e; simp
      · rw [decide_eq_false e, decide_eq_false (fun q => e (by injection q))]
    | tup z => rw [nk] at h2; obtain ⟨w, _, rfl⟩ := Option.map_eq_some_iff.mp h2; rfl
    | _ => rw [nk] at h2; cases h2
  | .tup p, b, x, y, h, h2 => by
    rw [nk] at h
    obtain ⟨w, hw, rfl⟩ := Option.map_eq_some_iff.mp h
    cases b with
    | bl q => rw [nk] at h2; cases h2; rfl
    | int j => rw [nk] at h2; cases h2; rfl
    | non => rw [nk] at h2; cases h2; rfl
    | str z => rw [nk] at h2; cases h2; rfl
    | tup z =>
      rw [nk] at h2
      obtain ⟨u, hu, rfl⟩ := Option.map_eq_some_iff.mp h2
      rw [eqK, eqKs_nk p z w u hw hu]
      by_cases e : w = u
      · subst e; simp
      · rw [decide_eq_false e, decide_eq_false (fun q => e (by injection q))]
    | _ => rw [nk] at h2; cases h2
  | .lst _, _, _, _, h, _ => by rw [nk] at h; cases h
  | .scr _, _, _, _, h, _ => by rw [nk] at h; cases h
  | .dic _ _, _, _, _, h, _ => by rw [nk] at h; cases h
  | .obj _ _ _, _, _, _, h, _ => by rw [nk] at h; cases h
  | .ref _, _, _, _, h, _ => by rw [nk] at h; cases h
  | .glo _, _, _, _, h, _ => by rw [nk] at h; cases h
  | .ty _, _, _, _, h, _ => by rw [nk] at h; cases h
theorem eqKs_nk : ∀ (a b : List D) (x y : List NestedKey), nks a = some x → nks b = some y → eqKs a b = decide (x = y)
  | [], b, x, y, h, h2 => by
    rw [nks] at h; cases h
    cases b with
    | nil => rw [nks] at h2; cases h2; rfl
    | cons d ds => obtain ⟨k, ks, _, _, rfl⟩ := nks_cons h2; rfl
  | d :: ds, b, x, y, h, h2 => by
    obtain ⟨k, ks, h3, h4, rfl⟩ := nks_cons h
    cases b with
    | nil => rw [nks] at h2; cases h2; rfl
    | cons e es =>
      obtain ⟨l, lt, h5, h6, rfl⟩ := nks_cons h2
      rw [eqKs, eqK_nk d e k l h3 h5, eqKs_nk ds es ks lt h4 h6]
      by_cases e1 : k = l
      · by_cases e2 : ks = lt
        · rw [decide_eq_true e1, decide_eq_true e2, decide_eq_true (by rw [e1, e2])]; rfl
        · rw [decide_eq_false e2, decide_eq_false (fun q => e2 (List.cons.inj q).2)]; simp
      · rw [decide_eq_false e1, decide_eq_false (fun q => e1 (List.cons.inj q).1)]; simp
end
theorem nkT_nk {d : D} {k : NestedKey} (h : nkT d = some k) : nk d = some k ∧ k.depth ≤ 8 := by
  unfold nkT at h
  split at h
  · split at h
    · next h1 =>
      obtain ⟨hd, h⟩ := ite_some h
      cases h
      exact ⟨by rw [nk, h1]; rfl, hd⟩
    · cases h
  · cases h
/-! the functions -/
def dHas (ks : List D) (k : D) : Bool := ks.any fun a => eqK a k
def dGet : List D → List D → D → Option D
  | a :: ks, b :: vs, k => if eqK a k then some b else dGet ks vs k
  | _, _, _ => none
def dRep : List D → List D → D → D → List D
  | a :: ks, b :: vs, k, v => (if eqK a k then v else b) :: dRep ks vs k v
  | _, _, _, _ => []
def dPutK (ks : List D) (k : D) : List D := if dHas ks k then ks else ks ++ [k]
def dPutV (ks vs : List D) (k v : D) : List D := if dHas ks k then dRep ks vs k v else vs ++ [v]
def isFlat : D → Bool
  | .int _ => true
  | .str _ => true
  | _ => false
section
variable {X : Cx} {g : G} {T T' : Tk} {H : Hp} {m : M} {Q : VK} {pos p apos : Pos} {e o : Expr} {es : List Expr} {k n : Nat} {x c nm : Str}
/-! flat keys -/
def keyD : Key → D
  | .inl i => .int i
  | .inr x => .str x
theorem rep_key {d : D} {κ : Key} (r : Rep g T H d (kV κ)) : d = keyD κ := by
  cases κ with
  | inl i => cases r; rfl
  | inr i => cases r; rfl
theorem repL_keys : ∀ {ks : List D} {kvs : List (Key × V)}, RepL g T H ks (kvs.map fun p => kV p.1) → ks = kvs.map fun p => keyD p.1
  | [], [], _ => rfl
  | _ :: _, [], r => by cases r
  | [], _ :: _, r => by cases r
  | d :: ks, p :: kvs, r => by
    cases r with
    | cons a s => rw [rep_key a, repL_keys s]; rfl
theorem keyD_rep {κ : Key} : Rep g T H (keyD κ) (kV κ) := by
  cases κ with
  | inl i => exact .int i
  | inr i => exact .str i
theorem eqK_key (a b : Key) : eqK (keyD a) (keyD b) = decide (a = b) := by
  cases a with
  | inl i => cases b with
    | inl j => show eqK (.int i) (.int j) = _; rw [eqK, key_ll]
    | inr j => show eqK (.int i) (.str j) = _; rw [key_lr]; rfl
  | inr i => cases b with
    | inl j => show eqK (.str i) (.int j) = _; rw [key_rl]; rfl
    | inr j => show eqK (.str i) (.str j) = _; rw [eqK, key_rr]
theorem flat_get {κ : Key} : ∀ {kvs : List (Key × V)} {vs : List D}, RepL g T H vs (kvs.map Prod.snd) → (∀ d, dGet (kvs.map fun p => keyD p.1) vs (keyD κ) = some d → ∃ v, valV kvs κ = some v ∧ Rep g T H d v) ∧ (valV kvs κ).isSome = dHas (kvs.map fun p => keyD p.1) (keyD κ)
  | [], _, r => by
    cases r
    exact ⟨fun d h => (by cases h), rfl⟩
  | p :: kvs, _, r => by
    cases r with
    | @cons d v ds vs a s =>
      obtain ⟨h1, h2⟩ := flat_get (κ := κ) s
      have ek := eqK_key p.1 κ
      by_cases e : p.1 = κ
      · rw [decide_eq_true e] at ek
        refine ⟨fun d' h => ?_, by rw [valV_pos e]; simp [dHas, ek]⟩
        simp only [List.map_cons, dGet, ek, if_true] at h
        cases h
        exact ⟨p.2, valV_pos e, a⟩
      · rw [decide_eq_false e] at ek
        refine ⟨fun d' h => ?_, by rw [valV_neg e, h2]; simp [dHas, ek]⟩
        simp only [List.map_cons, dGet, ek] at h
        rw [valV_neg e]
        exact h1 d' h
theorem flat_rep {κ : Key} {v : V} {d : D} (rv : Rep g T H d v) : ∀ {kvs : List (Key × V)} {vs : List D}, RepL g T H vs (kvs.map Prod.snd) → RepL g T H (dRep (kvs.map fun p => keyD p.1) vs (keyD κ) d) ((kvs.map fun kv => if kv.1 = κ then (kv.1, v) else kv).map Prod.snd) ∧ (kvs.map fun kv => if kv.1 = κ then (kv.1, v) else kv).map Prod.fst = kvs.map Prod.fst
  | [], _, r => by cases r; exact ⟨.nil, rfl⟩
  | p :: kvs, _, r => by
    cases r with
    | cons a s =>
      obtain ⟨h1, h2⟩ := flat_rep (κ := κ) rv s
      have ek := eqK_key p.1 κ
      by_cases e : p.1 = κ
      · rw [decide_eq_true e] at ek
        simp only [List.map_cons, dRep, ek, if_true, if_pos e, h2]
        exact ⟨.cons rv h1, trivial⟩
      · rw [decide_eq_false e] at ek
        simp only [List.map_cons, dRep, ek, if_neg e, h2]
        exact ⟨.cons a h1, trivial⟩
theorem flat_put {κ : Key} {v : V} {d : D} {kvs : List (Key × V)} {ks vs : List D} (rk : RepL g T H ks (kvs.map fun p => kV p.1)) (rs : RepL g T H vs (kvs.map Prod.snd)) (rv : Rep g T H d v) :
    RepL g T H (dPutK ks (keyD κ)) ((putK kvs κ v).map fun p => kV p.1) ∧ RepL g T H (dPutV ks vs (keyD κ) d) ((putK kvs κ v).map Prod.snd) := by
  have ek := repL_keys rk
  have hs := (flat_get (κ := κ) rs).2
  have hany := valV_any κ kvs
  unfold dPutK dPutV putK
  rw [hany, hs, ← ek]
  cases hh : dHas ks (keyD κ) with
  | true =>
    simp only [if_true]
    obtain ⟨h1, h2⟩ := flat_rep (κ := κ) rv rs
    rw [← ek] at h1
    refine ⟨?_, h1⟩
    have : (kvs.map fun kv => if kv.1 = κ then (kv.1, v) else kv).map (fun p => kV p.1) = kvs.map fun p => kV p.1 := by
      have := congrArg (List.map kV) h2
      simpa [List.map_map, Function.comp_def] using this
    rw [this]
    exact rk
  | false =>
    simp only [Bool.false_eq_true, if_false, List.map_append, List.map_cons, List.map_nil]
    exact ⟨rk.append (.cons keyD_rep .nil), rs.append (.cons rv .nil)⟩
end
end L4

/-! dicts whose keys are nested tuples -/
namespace L4
open PySem PySem.Spec PyProof.Rows L2
abbrev NV := List (NestedKey × Addr × V)
/-- the tuple at b is the key k -/
def NkAt (X : Cx) (H : Hp) (b : Addr) (k : NestedKey) : Prop := ∀ pins σ s, Inv X pins σ H s → (nestedKind X.prog X.w).is s.heap k b
section
variable {X : Cx} {T T' : Tk} {H : Hp} {m : M} {Q : VK} {pos p apos : Pos} {e o : Expr} {es : List Expr} {n : Nat} {x c nm : Str}
mutual
theorem nested_is {pins : List (Addr × Obj)} {σ : L2.St} {s : Shared} (I : Inv X pins σ H s) : ∀ (d : D) {v : V} {u : Value} {k : NestedKey}, nk d = some k → Rep (gx X) T H d v → RelV v u → NestedIs s.heap k u
  | .non, _, _, _, h, r, q => by rw [nk] at h; cases h; cases r; cases q; exact .none
  | .bl b, _, _, _, h, r, q => by rw [nk] at h; cases h; cases r; cases q; exact .bool rfl
  | .int i, _, _, _, h, r, q => by rw [nk] at h; cases h; cases r; obtain ⟨t, rfl⟩ := q; exact .int i t
  | .str i, _, _, _, h, r, q => by rw [nk] at h; cases h; cases r; obtain ⟨t, rfl⟩ := q; exact .text i t
  | .tup ds, _, _, _, h, r, q => by
    rw [nk] at h
    obtain ⟨ks, h1, rfl⟩ := Option.map_eq_some_iff.mp h
    cases r with
    | tup f r =>
      cases q
      obtain ⟨its, rv, ⟨ob, h2, h3, n, h4⟩, _⟩ := I.tuple f.sq
      exact .tup h2 h3 h4 (by simpa using nested_all I ds h1 r rv)
  | .lst _, _, _, _, h, _, _ => by rw [nk] at h; cases h
  | .scr _, _, _, _, h, _, _ => by rw [nk] at h; cases h
  | .dic _ _, _, _, _, h, _, _ => by rw [nk] at h; cases h
  | .obj _ _ _, _, _, _, h, _, _ => by rw [nk] at h; cases h
  | .ref _, _, _, _, h, _, _ => by rw [nk] at h; cases h
  | .glo _, _, _, _, h, _, _ => by rw [nk] at h; cases h
  | .ty _, _, _, _, h, _, _ => by rw [nk] at h; cases h
theorem nested_all {pins : List (Addr × Obj)} {σ : L2.St} {s : Shared} (I : Inv X pins σ H s) : ∀ (ds : List D) {vs : List V} {us : List Value} {ks : List NestedKey}, nks ds = some ks → RepL (gx X) T H ds vs → Vals vs us → NestedAll s.heap ks us
  | [], _, _, _, h, r, q => by rw [nks] at h; cases h; cases r; cases q; exact .nil
  | d :: ds, _, _, _, h, r, q => by
    obtain ⟨k, ks, h1, h2, rfl⟩ := nks_cons h
    cases r with
    | cons a s => cases q with
      | cons b t => exact .cons (nested_is I d h1 a b) (nested_all I ds h2 s t)
end
theorem nkAt {d : D} {b : Addr} {k : NestedKey} (h : nkT d = some k) (r : Rep (gx X) T H d (.ref b)) : NkAt X H b k := fun pins σ s I => by
  obtain ⟨h1, h2⟩ := nkT_nk h
  exact ⟨nested_is I d h1 r rfl, h2⟩
theorem nkAts : ∀ {ks : List D} {kvs : NV}, ks.map nkT = kvs.map (fun p => some p.1) → RepL (gx X) T H ks (kvs.map fun p => .ref p.2.1) → ∀ p ∈ kvs, NkAt X H p.2.1 p.1
  | [], [], _, _, p, hp => by cases hp
  | _ :: _, [], h, _, _, hp => by cases hp
  | [], _ :: _, h, _, _, _ => by cases h
  | d :: ks, q :: kvs, h, r, p, hp => by
    simp only [List.map_cons, List.cons.injEq] at h
    cases r with
    | cons a s =>
      rcases List.mem_cons.mp hp with rfl | hp
      · exact nkAt h.1 a
      · exact nkAts h.2 s p hp
def NDict (X : Cx) (H : Hp) (a : Addr) (kvs : NV) : Prop := Rd H a (dnO (gx X) a kvs) ∨ (kvs = [] ∧ Rd H a (.dK []))
/-- the dict in the heap -/
theorem dn_rd0 {pins : List (Addr × Obj)} {σ : L2.St} {s : Shared} {a : Addr} {kvs : NV} (I : Inv X pins σ H s) (h : Rd H a (dnO (gx X) a kvs)) (hk : ∀ p ∈ kvs, NkAt X H p.2.1 p.1) :
    kvs.length ≤ sizeLine ∧ (a == sysModules) = false ∧ ∃ xs : List (NestedKey × Addr × Value), Paired (fun (p : NestedKey × Addr × V) (q : NestedKey × Addr × Value) => p.1 = q.1 ∧ p.2.1 = q.2.1 ∧ RelV p.2.2 q.2.2) kvs xs ∧ s.heap.DictOfH (nestedKind X.prog X.w) a xs := by
  obtain ⟨⟨z, hd, xs, pr, ob, es, ep, h1, h2, h3, h4, h5⟩, _⟩ := h.ok I.hok
  refine ⟨z, hd, xs, pr, ob, es, ep, h1, h2, h3, h4, ?_, h5⟩
  have all : ∀ {l : NV} {r : List (NestedKey × Addr × Value)}, Paired (fun (p : NestedKey × Addr × V) (q : NestedKey × Addr × Value) => p.1 = q.1 ∧ p.2.1 = q.2.1 ∧ RelV p.2.2 q.2.2) l r → (∀ p ∈ l, NkAt X H p.2.1 p.1) → ∀ y ∈ r, (nestedKind X.prog X.w).is s.heap y.1 y.2.1 := by
    intro l r q
    induction q with
    | nil => intro _ y hy; cases hy
    | @cons p q ps qs hq t ih =>
      intro hl y hy
      rcases List.mem_cons.mp hy with rfl | hy
      · rw [← hq.1, ← hq.2.1]
        exact hl p (List.mem_cons_self ..) pins σ s I
      · exact ih (fun p hp => hl p (List.mem_cons_of_mem _ hp)) y hy
  exact all pr hk
theorem dn_rd {pins : List (Addr × Obj)} {σ : L2.St} {s : Shared} {a : Addr} {kvs : NV} (I : Inv X pins σ H s) (h : NDict X H a kvs) (hk : ∀ p ∈ kvs, NkAt X H p.2.1 p.1) :
    kvs.length ≤ sizeLine ∧ (a == sysModules) = false ∧ ∃ xs : List (NestedKey × Addr × Value), Paired (fun (p : NestedKey × Addr × V) (q : NestedKey × Addr × Value) => p.1 = q.1 ∧ p.2.1 = q.2.1 ∧ RelV p.2.2 q.2.2) kvs xs ∧ s.heap.DictOfH (nestedKind X.prog X.w) a xs := by
  rcases h with h | ⟨rfl, h⟩
  · exact dn_rd0 I h hk
  · obtain ⟨_, hd, vs, rel, dd⟩ := dk_rd I.hok h
    cases rel
    obtain ⟨ob, es, ep, h1, h2, h3, h4, h5, h6⟩ := dd
    have he : es.toList = [] := by
      cases hh : es.toList with
      | nil => rfl
      | cons a b => rw [hh] at h5; cases h5
    exact ⟨Nat.zero_le _, hd, [], .nil, ob, es, ep, h1, h2, h3, by rw [he]; rfl, fun x hx => (nomatch hx), by simp⟩
def nGet (kvs : NV) (k : NestedKey) : Option V := (kvs.find? fun p => decide (p.1 = k)).map fun p => p.2.2
def nHas (kvs : NV) (k : NestedKey) : Bool := kvs.any fun p => decide (p.1 = k)
def nPut (kvs : NV) (k : NestedKey) (b : Addr) (v : V) : NV := if nHas kvs k then kvs.map fun p => if p.1 = k then (p.1, p.2.1, v) else p else kvs ++ [(k, b, v)]
abbrev NP : NestedKey × Addr × V → NestedKey × Addr × Value → Prop := fun p q => p.1 = q.1 ∧ p.2.1 = q.2.1 ∧ RelV p.2.2 q.2.2
theorem np_at {k : NestedKey} : ∀ {kvs : NV} {xs : List (NestedKey × Addr × Value)}, Paired NP kvs xs → (atKey xs k).isSome = nHas kvs k ∧ ∀ v, nGet kvs k = some v → ∃ q, atKey xs k = some q ∧ RelV v q.2
  | _, _, .nil => ⟨rfl, fun v h => by cases h⟩
  | _, _, .cons (a := p) (b := q) hq t => by
    obtain ⟨h1, h2⟩ := np_at (k := k) t
    by_cases e : p.1 = k
    · have e2 : q.1 = k := by rw [← hq.1]; exact e
      refine ⟨by simp [atKey, nHas, List.find?_cons, e, e2], fun v h => ?_⟩
      simp only [nGet, List.find?_cons, e, decide_true, Option.map_some] at h
      cases h
      exact ⟨q.2, by simp [atKey, List.find?_cons, e2], hq.2.2⟩
    · have e2 : ¬ q.1 = k := by rw [← hq.1]; exact e
      refine ⟨?_, fun v h => ?_⟩
      · simp only [atKey, nHas, List.find?_cons, e2, decide_false, List.any_cons, e, Bool.false_or]
        exact h1
      · simp only [nGet, List.find?_cons, e, decide_false] at h
        obtain ⟨w, e3, r⟩ := h2 v h
        exact ⟨w, by simp only [atKey, List.find?_cons, e2, decide_false]; exact e3, r⟩
theorem np_old {k : NestedKey} {v : V} {u : Value} (rv : RelV v u) : ∀ {kvs : NV} {xs : List (NestedKey × Addr × Value)}, Paired NP kvs xs → Paired NP (kvs.map fun p => if p.1 = k then (p.1, p.2.1, v) else p) (xs.map (putAt k u))
  | _, _, .nil => .nil
  | _, _, .cons (a := p) (b := q) hq t => by
    refine .cons ?_ (np_old rv t)
    show NP (if p.1 = k then (p.1, p.2.1, v) else p) (if q.1 = k then (q.1, q.2.1, u) else q)
    by_cases e : p.1 = k
    · rw [if_pos e, if_pos (by rw [← hq.1]; exact e)]
      exact ⟨hq.1, hq.2.1, rv⟩
    · rw [if_neg e, if_neg (by rw [← hq.1]; exact e)]
      exact hq
theorem np_new {k : NestedKey} {b : Addr} {v : V} {u : Value} (rv : RelV v u) : ∀ {kvs : NV} {xs : List (NestedKey × Addr × Value)}, Paired NP kvs xs → Paired NP (kvs ++ [(k, b, v)]) (xs ++ [(k, b, u)])
  | _, _, .nil => .cons ⟨rfl, rfl, rv⟩ .nil
  | _, _, .cons hq t => .cons hq (np_new rv t)
theorem np_put {k : NestedKey} {b : Addr} {v : V} {u : Value} (rv : RelV v u) {kvs : NV} {xs : List (NestedKey × Addr × Value)} (h : Paired NP kvs xs) : Paired NP (nPut kvs k b v) (storedH xs k b u) := by
  unfold nPut storedH
  rw [(np_at (k := k) h).1]
  cases nHas kvs k with
  | true => exact np_old rv h
  | false => exact np_new rv h
theorem nPut_len {k : NestedKey} {b : Addr} {v : V} {kvs : NV} : (nPut kvs k b v).length ≤ kvs.length + 1 := by
  unfold nPut
  split <;> simp
theorem room8 {k : Nat} (gd : Gd k X) : (nestedKind X.prog X.w).room X.A.in1 := by
  have := gd.r.un
  show X.A.units + 1 + 8 < cLine
  omega
/-! as rules -/
def rInN (X : Cx) (b : Bool) : R2 := fun x y H Q => ∃ a c kvs k, x = .ref c ∧ y = .ref a ∧ NDict X H a kvs ∧ (∀ p ∈ kvs, NkAt X H p.2.1 p.1) ∧ NkAt X H c k ∧ Q (.bl (nHas kvs k != b)) H
theorem op_inN {k : Nat} (gd : Gd k X) : OpR X (compareOp .In) (rInN X false) := by
  intro pins s σ H x y v u Q I rx ry h
  obtain ⟨a, c, kvs, k, rfl, rfl, hr, hk, hc, q⟩ := h
  cases rx
  cases ry
  obtain ⟨_, hd, xs, pr, hm⟩ := dn_rd I hr hk
  refine wpAny_in_heap (room8 gd) (hc pins σ s I) hd hm ⟨.bl _, H, I.tok _, rfl, ?_⟩
  rw [(np_at pr).1]
  rw [Bool.bne_false] at q
  exact q
theorem op_ninN {k : Nat} (gd : Gd k X) : OpR X (compareOp .NotIn) (rInN X true) := by
  intro pins s σ H x y v u Q I rx ry h
  obtain ⟨a, c, kvs, k, rfl, rfl, hr, hk, hc, q⟩ := h
  cases rx
  cases ry
  obtain ⟨_, hd, xs, pr, hm⟩ := dn_rd I hr hk
  refine wpAny_notIn_heap (room8 gd) (hc pins σ s I) hd hm ⟨.bl _, H, I.tok _, rfl, ?_⟩
  rw [(np_at pr).1]
  rw [Bool.bne_true] at q
  exact q
def rIxN (X : Cx) : R2 := fun x y H Q => ∃ a c kvs k v, x = .ref a ∧ y = .ref c ∧ NDict X H a kvs ∧ (∀ p ∈ kvs, NkAt X H p.2.1 p.1) ∧ NkAt X H c k ∧ nGet kvs k = some v ∧ Q v H
theorem ix_N {k : Nat} (gd : Gd k X) : IxR X (rIxN X) := by
  intro value slice pins s σ H x y v u Q I rx ry h hs
  obtain ⟨a, c, kvs, k, z, rfl, rfl, hr, hk, hc, hz, q⟩ := h
  cases rx
  cases ry
  obtain ⟨_, hd, xs, pr, hm⟩ := dn_rd I hr hk
  obtain ⟨w, hw, rw'⟩ := (np_at (k := k) pr).2 z hz
  exact PyProof.Rows.subscriptTail_builtinR (x := w.2) hm.typeIs PySem.F.slot_dict_getitem.lookup (wpAny_getItem_heap (room8 gd) (hc pins σ s I) hm hw ⟨rfl, z, H, I.tok _, rw', q⟩) hs
/-- d[k], flat keys -/
def rIxF : R2 := fun x y H Q => ∃ a kvs κ v, x = .ref a ∧ Rd H a (.dK kvs) ∧ y = kV κ ∧ valV kvs κ = some v ∧ Q v H
theorem ix_F : IxR X rIxF := by
  intro value slice pins s σ H x y v u Q I rx ry h hs
  obtain ⟨a, kvs, κ, z, rfl, hr, rfl, hz, q⟩ := h
  cases rx
  obtain ⟨_, hd, vs, rel, dd⟩ := dk_rd I.hok hr
  obtain ⟨w', hw, rw'⟩ := RelO.some_of (v := z) (o := valueAt vs κ) (by rw [← hz]; exact rel.val κ)
  exact subscriptTail_builtinR (x := w') dd.typeIs PySem.F.slot_dict_getitem.lookup (wpAny_getItem_of (kV_is ry) dd.mapOf hw ⟨rfl, z, H, I.tok _, rw', q⟩) hs
def rInF (b : Bool) : R2 := fun x y H Q => ∃ a kvs κ, x = kV κ ∧ y = .ref a ∧ Rd H a (.dK kvs) ∧ Q (.bl ((valV kvs κ).isSome != b)) H
theorem op_inF : OpR X (compareOp .In) (rInF false) := by
  intro pins s σ H x y v u Q I rx ry h
  obtain ⟨a, kvs, κ, rfl, rfl, hr, q⟩ := h
  cases ry
  obtain ⟨_, hd, vs, rel, dd⟩ := dk_rd I.hok hr
  refine wpAny_in_of (kV_is rx) hd dd.mapOf ⟨.bl _, H, I.tok _, rfl, ?_⟩
  rw [← (rel.val κ).isSome_eq]
  rw [Bool.bne_false] at q
  exact q
theorem op_ninF : OpR X (compareOp .NotIn) (rInF true) := by
  intro pins s σ H x y v u Q I rx ry h
  obtain ⟨a, kvs, κ, rfl, rfl, hr, q⟩ := h
  cases ry
  obtain ⟨_, hd, vs, rel, dd⟩ := dk_rd I.hok hr
  refine wpAny_notIn_of (kV_is rx) hd dd.mapOf ⟨.bl _, H, I.tok _, rfl, ?_⟩
  rw [← (rel.val κ).isSome_eq]
  rw [Bool.bne_true] at q
  exact q
/-- d[k] = v -/
def rPutF : TSet := fun o i v H Q => ∃ a kvs κ, o = .ref a ∧ i = kV κ ∧ H a = some (.dK kvs) ∧ kvs.length < sizeLine ∧ Q (upd H a (.dK (putK kvs κ v)))
theorem set_F {k : Nat} (gd : Gd k X) : PSet X rPutF := by
  intro pins s σ H o i v ov iv u Q I ro ri rv h
  obtain ⟨a, kvs, κ, rfl, rfl, hr, hz, q⟩ := h
  cases ro
  have := gd.r.un
  exact d_setItem (by omega) I (DPut.k hr hz) ri rv fun s' I' => ⟨_, I', q⟩
def rPutN (X : Cx) : TSet := fun o i v H Q => ∃ a c kvs k, o = .ref a ∧ i = .ref c ∧ (H a = some (dnO (gx X) a kvs) ∨ (kvs = [] ∧ H a = some (.dK []))) ∧ (∀ p ∈ kvs, NkAt X H p.2.1 p.1) ∧ NkAt X H c k ∧ kvs.length < sizeLine ∧ Q (upd H a (dnO (gx X) a (nPut kvs k c v)))
theorem dn_ok {P : Program} {w : World} {K : PySem.W.Frag} {h : Heap} {a : Addr} {kvs : NV} {xs : List (NestedKey × Addr × Value)} {H' : Hp} (hz : kvs.length ≤ sizeLine) (hd : (a == sysModules) = false) (pr : Paired NP kvs xs) {ob : Obj} {es : Array DictEntry} {ep : Nat} (h1 : h.get? a = some ob) (h2 : ob.ExactDict) (h3 : ob.data = .dict es ep)
    (h4 : es.toList = xs.map (entryOfKey (nestedKind P w))) (h5 : (xs.map (·.1)).Nodup) : ObjOk P w H' h a (dnO ⟨P, w, K⟩ a kvs) := by
  refine ⟨⟨hz, hd, xs, pr, ob, es, ep, h1, h2, h3, h4, h5⟩, ⟨ob, h1⟩, ?_⟩
  rintro g1 g2 ⟨hz, hd, xs, pr, ob, es, ep, h1, h2, h3, h4, h5⟩ k
  exact ⟨hz, hd, xs, pr, ob, es, ep, k _ h1, h2, h3, h4, h5⟩
theorem set_N {k : Nat} (gd : Gd k X) : PSet X (rPutN X) := by
  intro pins s σ H o i v ov iv u Q I ro ri rv h
  obtain ⟨a, c, kvs, k, rfl, rfl, hr, hk, hc, hz, q⟩ := h
  cases ro
  cases ri
  have key : ∃ xs, (a == sysModules) = false ∧ Paired NP kvs xs ∧ s.heap.DictOfH (nestedKind X.prog X.w) a xs := by
    obtain ⟨_, hd, xs, pr, hm⟩ := dn_rd I (hr.elim (fun h => .inl (.inl h)) fun h => .inr ⟨h.1, .inl h.2⟩) hk
    exact ⟨xs, hd, pr, hm⟩
  obtain ⟨xs, hd, pr, hm⟩ := key
  have hl := Paired.length pr
  refine wpAny_setItem_heap (hsz := by omega) (room8 gd) (hc pins σ s I) hm fun h' dd' hs => ⟨_, ?_, q⟩
  obtain ⟨ob, es, ep, h1, h2, h3, h4, _, h5⟩ := dd'
  refine d_write I ?_ hs ⟨ob, h1⟩ (dn_ok (by have := nPut_len (k := k) (b := c) (v := v) (kvs := kvs); omega) hd (np_put rv pr) h1 h2 h3 h4 h5)
  rcases hr with hr | ⟨_, hr⟩ <;> rw [hr] <;> exact True.intro
end
end L4

namespace L4
open PySem PySem.Spec PyProof.Rows L2
section
variable {X : Cx} {g : G} {T T' : Tk} {H : Hp} {m : M} {Q : VK} {pos p apos : Pos} {e o : Expr} {es : List Expr} {n : Nat} {x c nm : Str}
def dicO : O → Option (List D × List D)
  | .dic ks vs => some (ks, vs)
  | _ => none
def dicOf (m : M) : D → Option (List D × List D)
  | .dic ks vs => some (ks, vs)
  | .ref n => (m[n]?).bind dicO
  | _ => none
/-- a dict, as it is read -/
inductive DicR (X : Cx) (T : Tk) (H : Hp) (a : Addr) (ks vs : List D) : Prop
  | flat {kvs} : Rd H a (.dK kvs) → RepL (gx X) T H ks (kvs.map fun p => kV p.1) → RepL (gx X) T H vs (kvs.map Prod.snd) → DicR X T H a ks vs
  | nest {kvs} : Rd H a (dnO (gx X) a kvs) → (ks.map nkT = kvs.map (fun p => some p.1) ∧ kvs ≠ []) → RepL (gx X) T H ks (kvs.map fun p => .ref p.2.1) → RepL (gx X) T H vs (kvs.map fun p => p.2.2) → DicR X T H a ks vs
theorem dic_rep {d : D} {v : V} {ks vs : List D} (hm : RepH (gx X) T H m) (r : Rep (gx X) T H d v) (h : dicOf m d = some (ks, vs)) : ∃ a, v = .ref a ∧ DicR X T H a ks vs := by
  cases r with
  | dicF n f r q => cases h; exact ⟨_, rfl, .flat f r q⟩
  | dicN n f e r q => cases h; exact ⟨_, rfl, .nest f e r q⟩
  | ref e =>
    obtain ⟨o, h1, h2⟩ := Option.bind_eq_some_iff.mp h
    cases hm.at_ _ _ _ e h1 with
    | dicF f r q => cases h2; exact ⟨_, rfl, .flat (.inl f) r q⟩
    | dicN f k r q => cases h2; exact ⟨_, rfl, .nest (.inl f) k r q⟩
    | _ => cases h2
  | _ => cases h
def headOk (ks : List D) (k : D) : Bool := match ks with
  | [] => isFlat k || (nkT k).isSome
  | a :: _ => if isFlat a then isFlat k else (nkT k).isSome
theorem flat_key {d : D} (h : isFlat d = true) : ∃ κ, d = keyD κ := by
  cases d with
  | int i => exact ⟨.inl i, rfl⟩
  | str i => exact ⟨.inr i, rfl⟩
  | _ => cases h
theorem flatOf_key (κ : Key) : isFlat (keyD κ) = true := by cases κ <;> rfl
theorem nk_notflat {d : D} {k : NestedKey} (h : nkT d = some k) : isFlat d = false := by
  cases d with
  | tup ds => rfl
  | _ => cases h
/-- a key and a dict: both flat, or both nested -/
theorem dic_cases {a : Addr} {ks vs : List D} {k : D} {v : V} (r : DicR X T H a ks vs) (hk : headOk ks k = true) (rk : Rep (gx X) T H k v) :
    (∃ kvs κ, Rd H a (.dK kvs) ∧ RepL (gx X) T H ks (kvs.map fun p => kV p.1) ∧ RepL (gx X) T H vs (kvs.map Prod.snd) ∧ k = keyD κ ∧ v = kV κ) ∨
    (∃ kvs b κ, NDict X H a kvs ∧ (ks.map nkT = kvs.map (fun p => some p.1)) ∧ RepL (gx X) T H ks (kvs.map fun p => .ref p.2.1) ∧ RepL (gx X) T H vs (kvs.map fun p => p.2.2) ∧ v = .ref b ∧ nkT k = some κ ∧ NkAt X H b κ ∧ (Rd H a (dnO (gx X) a kvs) ∨ kvs = [] ∧ Rd H a (.dK []))) := by
  have nested : ∀ κ, nkT k = some κ → ∃ b, v = .ref b ∧ NkAt X H b κ := by
    intro κ h
    cases k with
    | tup ds => cases rk with
      | tup f r => exact ⟨_, rfl, nkAt h (.tup f r)⟩
    | _ => cases h
  have flat : isFlat k = true → ∃ κ, k = keyD κ ∧ v = kV κ := by
    intro h
    obtain ⟨κ, rfl⟩ := flat_key h
    cases κ with
    | inl i => cases rk; exact ⟨.inl i, rfl, rfl⟩
    | inr i => cases rk; exact ⟨.inr i, rfl, rfl⟩
  cases r with
  | @flat kvs h r q =>
    by_cases hf : isFlat k = true
    · obtain ⟨κ, e1, e2⟩ := flat hf
      exact .inl ⟨kvs, κ, h, r, q, e1, e2⟩
    · cases kvs with
      | nil =>
        cases r
        cases q
        unfold headOk at hk
        simp only [Bool.not_eq_true] at hf
        rw [hf, Bool.false_or] at hk
        obtain ⟨κ, hκ⟩ := Option.isSome_iff_exists.mp hk
        obtain ⟨b, e1, e2⟩ := nested κ hκ
        exact .inr ⟨[], b, κ, .inr ⟨rfl, h⟩, rfl, .nil, .nil, e1, hκ, e2, .inr ⟨rfl, h⟩⟩
      | cons p kvs =>
        have := repL_keys r
        subst this
        unfold headOk at hk
        simp only [List.map_cons, flatOf_key, if_true] at hk
        exact absurd hk hf
  | @nest kvs h e r q =>
    cases kvs with
    | nil => exact absurd rfl e.2
    | cons p kvs =>
      cases r with
      | cons r1 r2 =>
        have e1 := e.1
        simp only [List.map_cons, List.cons.injEq] at e1
        simp only [headOk, nk_notflat e1.1, Bool.false_eq_true, if_false] at hk
        obtain ⟨κ, hκ⟩ := Option.isSome_iff_exists.mp hk
        obtain ⟨b, e2, e3⟩ := nested κ hκ
        exact .inr ⟨p :: kvs, b, κ, .inl h, e.1, .cons r1 r2, q, e2, hκ, e3, .inl h⟩
theorem nest_get {k : D} {κ : NestedKey} (hk : nkT k = some κ) : ∀ {kvs : NV} {ks vs : List D}, ks.map nkT = kvs.map (fun p => some p.1) → RepL g T H vs (kvs.map fun p => p.2.2) → (∀ d, dGet ks vs k = some d → ∃ v, nGet kvs κ = some v ∧ Rep g T H d v) ∧ nHas kvs κ = dHas ks k
  | [], [], _, _, r => by cases r; exact ⟨fun d h => (by cases h), rfl⟩
  | [], _ :: _, _, h, _ => by cases h
  | _ :: _, [], _, h, _ => by cases h
  | p :: kvs, a :: ks, _, h, r => by
    simp only [List.map_cons, List.cons.injEq] at h
    cases r with
    | cons r1 r2 =>
      obtain ⟨h1, h2⟩ := nest_get hk h.2 r2
      have ek : eqK a k = decide (p.1 = κ) := eqK_nk a k _ _ (nkT_nk h.1).1 (nkT_nk hk).1
      by_cases e : p.1 = κ
      · rw [decide_eq_true e] at ek
        refine ⟨fun d hd => ?_, by simp [nHas, dHas, ek, e]⟩
        simp only [dGet, ek, if_true] at hd
        cases hd
        exact ⟨p.2.2, by simp [nGet, List.find?_cons, e], r1⟩
      · rw [decide_eq_false e] at ek
        refine ⟨fun d hd => ?_, ?_⟩
        · simp only [dGet, ek] at hd
          obtain ⟨v, e1, q⟩ := h1 d hd
          exact ⟨v, by simp only [nGet, List.find?_cons, e, decide_false]; exact e1, q⟩
        · simp only [nHas, dHas, List.any_cons, ek, e, decide_false, Bool.false_or]
          exact h2
theorem nest_put {k d : D} {κ : NestedKey} {b : Addr} {v : V} (hk : nkT k = some κ) (rk : Rep g T H k (.ref b)) (rv : Rep g T H d v) {kvs : NV} {ks vs : List D} (h : ks.map nkT = kvs.map (fun p => some p.1)) (r : RepL g T H ks (kvs.map fun p => .ref p.2.1)) (q : RepL g T H vs (kvs.map fun p => p.2.2)) :
    (dPutK ks k).map nkT = (nPut kvs κ b v).map (fun p => some p.1) ∧ RepL g T H (dPutK ks k) ((nPut kvs κ b v).map fun p => .ref p.2.1) ∧ RepL g T H (dPutV ks vs k d) ((nPut kvs κ b v).map fun p => p.2.2) := by
  have hh := (nest_get hk h q).2
  unfold dPutK dPutV nPut
  rw [hh]
  cases dHas ks k with
  | false =>
    simp only [Bool.false_eq_true, if_false, List.map_append, List.map_cons, List.map_nil]
    exact ⟨by rw [h, hk], r.append (.cons rk .nil), q.append (.cons rv .nil)⟩
  | true =>
    simp only [if_true]
    have key : ∀ {kvs : NV} {ks vs : List D}, ks.map nkT = kvs.map (fun p => some p.1) → RepL g T H vs (kvs.map fun p => p.2.2) → (kvs.map fun p => if p.1 = κ then (p.1, p.2.1, v) else p).map (fun p => some p.1) = kvs.map (fun p => some p.1) ∧
        (kvs.map fun p => if p.1 = κ then (p.1, p.2.1, v) else p).map (fun p => V.ref p.2.1) = kvs.map (fun p => V.ref p.2.1) ∧ RepL g T H (dRep ks vs k d) ((kvs.map fun p => if p.1 = κ then (p.1, p.2.1, v) else p).map fun p => p.2.2) := by
      intro kvs
      induction kvs with
      | nil => intro ks vs h q; cases q; cases ks with
        | nil => exact ⟨rfl, rfl, .nil⟩
        | cons _ _ => cases h
      | cons p kvs ih =>
        intro ks vs h q
        cases ks with
        | nil => cases h
        | cons a ks =>
          simp only [List.map_cons, List.cons.injEq] at h
          cases q with
          | cons q1 q2 =>
            obtain ⟨h1, h2, h3⟩ := ih h.2 q2
            have ek : eqK a k = decide (p.1 = κ) := eqK_nk a k _ _ (nkT_nk h.1).1 (nkT_nk hk).1
            by_cases e : p.1 = κ
            · rw [decide_eq_true e] at ek
              simp only [List.map_cons, if_pos e, dRep, ek, if_true, h1, h2]
              exact ⟨trivial, trivial, .cons rv h3⟩
            · rw [decide_eq_false e] at ek
              simp only [List.map_cons, if_neg e, dRep, ek, h1, h2]
              exact ⟨trivial, trivial, .cons q1 h3⟩
    obtain ⟨h1, h2, h3⟩ := key h q
    exact ⟨by rw [h1]; exact h, by rw [h2]; exact r, h3⟩
/-! x in y, for all kinds of y -/
def inAB (m : M) (x y : D) : Option Bool := match dicOf m y with
  | some (ks, _) => if headOk ks x then some (dHas ks x) else none
  | none => inB m x y
def inA (m : M) (x y : D) : Option D := (inAB m x y).map .bl
def ninA (m : M) (x y : D) : Option D := (inAB m x y).map fun b => .bl (!b)
theorem op_inA {k : Nat} (gd : Gd k X) : OpD X (compareOp .In) inA := by
  obtain ⟨r0, h0, q0⟩ := (op_in' (X := X) gd).ex
  refine ⟨_, orR h0 (orR op_inF (op_inN gd)), fun T H m x y v u d hm rx ry hf Q k => ?_⟩
  obtain ⟨b, hb, rfl⟩ := Option.map_eq_some_iff.mp hf
  unfold inAB at hb
  split at hb
  · next ks vs hd =>
    obtain ⟨hk, hb⟩ := ite_some hb
    cases hb
    obtain ⟨a, rfl, dr⟩ := dic_rep hm ry hd
    rcases dic_cases dr hk rx with ⟨kvs, κ, h1, h2, h3, rfl, rfl⟩ | ⟨kvs, b, κ, h1, h2, h3, h4, rfl, h5, h6, _⟩
    · refine .inr (.inl ⟨a, kvs, κ, rfl, rfl, h1, ?_⟩)
      rw [(flat_get h3).2, Bool.bne_false, ← repL_keys h2]
      exact k.now hm (.bl _)
    · refine .inr (.inr ⟨a, b, kvs, κ, rfl, rfl, h1, nkAts h2 h3, h6, ?_⟩)
      rw [(nest_get h5 h2 h4).2, Bool.bne_false]
      exact k.now hm (.bl _)
  · exact .inl (q0 T H m x y v u _ hm rx ry (by unfold inD; rw [hb]; rfl) Q k)
theorem op_ninA {k : Nat} (gd : Gd k X) : OpD X (compareOp .NotIn) ninA := by
  obtain ⟨r0, h0, q0⟩ := (op_nin' (X := X) gd).ex
  refine ⟨_, orR h0 (orR op_ninF (op_ninN gd)), fun T H m x y v u d hm rx ry hf Q k => ?_⟩
  obtain ⟨b, hb, rfl⟩ := Option.map_eq_some_iff.mp hf
  unfold inAB at hb
  split at hb
  · next ks vs hd =>
    obtain ⟨hk, hb⟩ := ite_some hb
    cases hb
    obtain ⟨a, rfl, dr⟩ := dic_rep hm ry hd
    rcases dic_cases dr hk rx with ⟨kvs, κ, h1, h2, h3, rfl, rfl⟩ | ⟨kvs, b, κ, h1, h2, h3, h4, rfl, h5, h6, _⟩
    · refine .inr (.inl ⟨a, kvs, κ, rfl, rfl, h1, ?_⟩)
      rw [(flat_get h3).2, Bool.bne_true, ← repL_keys h2]
      exact k.now hm (.bl _)
    · refine .inr (.inr ⟨a, b, kvs, κ, rfl, rfl, h1, nkAts h2 h3, h6, ?_⟩)
      rw [(nest_get h5 h2 h4).2, Bool.bne_true]
      exact k.now hm (.bl _)
  · exact .inl (q0 T H m x y v u _ hm rx ry (by unfold ninD; rw [hb]; rfl) Q k)
/-! a[b] -/
def ixA (m : M) (x y : D) : Option D := match dicOf m x with
  | some (ks, vs) => if headOk ks y then dGet ks vs y else none
  | none => ixD m x y
theorem de_ixA {a b : Expr} {fa fb : EF} {k : Nat} (gd : Gd k X) (ha : DE X a fa) (hb : DE X b fb) (hs : PlainIx b := by exact fun _ _ => rfl) : DE X (.Subscript a b pos) (eOp ixA fa fb) := by
  obtain ⟨ta, pa, ra⟩ := ha.ex; obtain ⟨tb, pb, rb⟩ := hb.ex
  refine ⟨_, pe_ix (ixR_or (ixR_or ix_tup (ixR_or ix_str ix_list)) (ixR_or ix_F (ix_N gd))) pa pb hs, rf_op (fun T H m x y v u d hm rx ry hf Q k => ?_) ra rb⟩
  unfold ixA at hf
  split at hf
  · next ks vs hd =>
    obtain ⟨hk, hf⟩ := ite_some hf
    obtain ⟨a, rfl, dr⟩ := dic_rep hm rx hd
    rcases dic_cases dr hk ry with ⟨kvs, κ, h1, h2, h3, rfl, rfl⟩ | ⟨kvs, b, κ, h1, h2, h3, h4, rfl, h5, h6, _⟩
    · rw [repL_keys h2] at hf
      obtain ⟨w, e1, q⟩ := (flat_get h3).1 d hf
      exact .inr (.inl ⟨a, kvs, κ, w, rfl, h1, rfl, e1, k.now hm q⟩)
    · obtain ⟨w, e1, q⟩ := (nest_get h5 h2 h4).1 d hf
      exact .inr (.inr ⟨a, b, kvs, κ, w, rfl, rfl, h1, nkAts h2 h3, h6, e1, k.now hm q⟩)
  · left
    rcases ixD_some hf with ⟨ds, i, rfl, rfl, h⟩ | ⟨z, i, c, rfl, rfl, hz, h, rfl⟩ | ⟨ds, i, h1, rfl, h⟩
    · obtain ⟨p, vs, rfl, hx, r1⟩ := tup_rep rx
      cases ry
      obtain ⟨w, e, q⟩ := r1.atI h
      exact .inl ⟨p, vs, i, w, rfl, rfl, hx, e, k.now hm q⟩
    · cases rx; cases ry
      exact .inr (.inl ⟨z, i, c, rfl, rfl, hz, h, k.now hm (.str _)⟩)
    · obtain ⟨p, vs, rfl, hx, r1⟩ := lstR_rep hm rx h1
      cases ry
      obtain ⟨w, e, q⟩ := r1.atI h
      exact .inr (.inr ⟨p, vs, i, w, rfl, rfl, hx, e, k.now hm q⟩)
/-! a[b] = e -/
def orS (r q : TSet) : TSet := fun o i v H Q => r o i v H Q ∨ q o i v H Q
theorem set_or {r q : TSet} (h1 : PSet X r) (h2 : PSet X q) : PSet X (orS r q) := by
  intro pins s σ H o i v ov iv u Q I ro ri rv h
  rcases h with h | h
  · exact h1 pins s σ H o i v ov iv u Q I ro ri rv h
  · exact h2 pins s σ H o i v ov iv u Q I ro ri rv h
def setO (o : O) (y d : D) : Option O := match o, y with
  | .lst ds, .int k => (L2.ixN ds.length k).map fun j => .lst (ds.set j d)
  | .dic ks vs, y => if headOk ks y ∧ ks.length < sizeLine then some (.dic (dPutK ks y) (dPutV ks vs y d)) else none
  | _, _ => none
def setM (m : M) (x y d : D) : Option M := match x with
  | .ref n => ((m[n]?).bind fun o => setO o y d).map fun o => m.set n o
  | _ => none
def gSetA (o i : EF) : GF := fun d ρ m => bd (o ρ m) fun x m1 => bd (i ρ m1) fun y m2 => (setM m2 x y d).map fun m3 => (ρ, m3)
theorem dg_subA {i : Expr} {fo fi : EF} {k : Nat} (gd : Gd k X) (ho : DE X o fo) (hi : DE X i fi) (hx : ∀ v, assign (.Subscript o i pos) X.env v = (do
      let ov ← holding [v] (eval o X.env)
      let iv ← holding [v, ov] (eval i X.env)
      standAt pos
      holding [v, ov, iv] (setItem ov iv v)
      release [v, ov, iv] []) := by intro _; rfl) : DG X (.Subscript o i pos) (gSetA fo fi) := by
  obtain ⟨to, po, ro⟩ := ho.ex; obtain ⟨ti, pi, ri⟩ := hi.ex
  refine ⟨_, pg_sub po pi (set_or set_list (set_or (set_F gd) (set_N gd))) hx, fun T σ H ρ m d v ρ' m' hm hs r hf Q k => ?_⟩
  obtain ⟨x, m1, e1, hf1⟩ := bd_some hf
  obtain ⟨y, m2, e2, hf2⟩ := bd_some hf1
  clear hf hf1
  refine ro T σ H ρ m x m1 hm hs e1 _ fun u T1 H1 l1 hm1 r1 => ?_
  refine ri T1 σ H1 ρ m1 y m2 hm1 (hs.le l1) e2 _ fun w T2 H2 l2 hm2 r2 => ?_
  obtain ⟨m3, h3, h4⟩ := Option.map_eq_some_iff.mp hf2
  obtain ⟨rfl, rfl⟩ : ρ = ρ' ∧ m3 = m' := by injection h4 with a b; exact ⟨a, b⟩
  have r1' := r1.le l2
  have rd := r.le (l1.trans l2)
  have fin : ∀ H3, Le T2 H2 T2 H3 → RepH (gx X) T2 H3 m3 → Q σ H3 := fun H3 l hm3 => k σ T2 H3 (l1.trans (l2.trans l)) hm3 (hs.le (l1.trans (l2.trans l)))
  cases r1' with
  | @ref n a ea =>
    obtain ⟨ob', h5, h6⟩ := Option.map_eq_some_iff.mp h3
    obtain ⟨ob, h7, h8⟩ := Option.bind_eq_some_iff.mp h5
    subst h6
    have hrep := hm2.at_ _ _ _ ea h7
    cases ob with
    | lst ds =>
      cases hrep with
      | @lst _ vs hH rl =>
        cases r2 with
        | int kk =>
          obtain ⟨j, hj, rfl⟩ := Option.map_eq_some_iff.mp h8
          refine .inl ⟨a, vs, kk, j, rfl, rfl, hH, by rw [← rl.length]; exact hj, ?_⟩
          obtain ⟨l3, hm3⟩ := hm2.put (u := .lst (vs.set j v)) (o := .lst (ds.set j d)) ea fun l => .lst upd_same ((rl.le l).setAt (rd.le l))
          exact fin _ l3 hm3
        | _ => cases h8
    | dic ks vs =>
      have h8' : (if headOk ks y = true ∧ ks.length < sizeLine then some (O.dic (dPutK ks y) (dPutV ks vs y d)) else none) = some ob' := by
        cases y <;> exact h8
      obtain ⟨⟨hk, hz⟩, h9⟩ := ite_some h8'
      cases h9
      have dr : DicR X T2 H2 a ks vs := by
        cases hrep with
        | dicF f r q => exact .flat (.inl f) r q
        | dicN f k r q => exact .nest (.inl f) k r q
      have nofrz : ∀ u, Rd H2 a u → Mu u ∨ True → (∀ ob w, H2 a = some (.frz ob w) → False) → H2 a = some u := fun u h _ nf => by
        rcases h with h | ⟨ob, h⟩
        · exact h
        · exact (nf ob u h).elim
      have nf : ∀ ob w, H2 a = some (.frz ob w) → False := fun ob w h => by
        obtain ⟨u, e, q⟩ := hrep.has
        rw [h] at e
        cases e
        exact q
      clear h3
      rcases dic_cases dr hk r2 with ⟨kvs, κ, h1, h2, h3, rfl, rfl⟩ | ⟨kvs, b, κ, h1, h2, h3, h4, rfl, h5, h6, hor⟩
      · have hH := nofrz _ h1 (.inr trivial) nf
        refine .inr (.inl ⟨a, kvs, κ, rfl, rfl, hH, by have := h2.length; simp at this; omega, ?_⟩)
        obtain ⟨l3, hm3⟩ := hm2.put (u := .dK (putK kvs κ v)) (o := .dic (dPutK ks (keyD κ)) (dPutV ks vs (keyD κ) d)) ea fun l => by
          obtain ⟨z1, z2⟩ := flat_put (κ := κ) (h2.le l) (h3.le l) (rd.le l)
          exact .dicF upd_same z1 z2
        exact fin _ l3 hm3
      · refine .inr (.inr ⟨a, b, kvs, κ, rfl, rfl, hor.elim (fun h => .inl (nofrz _ h (.inr trivial) nf)) (fun h => .inr ⟨h.1, nofrz _ h.2 (.inr trivial) nf⟩), nkAts h2 h3, h6, by have := h3.length; simp at this; omega, ?_⟩)
        obtain ⟨l3, hm3⟩ := hm2.put (u := dnO (gx X) a (nPut kvs κ b v)) (o := .dic (dPutK ks y) (dPutV ks vs y d)) ea fun l => by
          obtain ⟨z1, z2, z3⟩ := nest_put h5 (r2.le l) (rd.le l) h2 (h3.le l) (h4.le l)
          refine .dicN upd_same ⟨z1, ?_⟩ z2 z3
          unfold nPut
          split
          · next hh => intro e; cases kvs with
            | nil => cases hh
            | cons _ _ => cases e
          · simp
        exact fin _ l3 hm3
    | ins c ns vs => cases y <;> cases h8
  | _ => cases h3
end
end L4

namespace L4
open PySem PySem.Spec PyProof.Rows L2
/-! class methods -/
structure PCm (P : Program) (w : World) (K : PySem.W.Frag) (mg : Str → Option Value) (base : Heap) (k : Nat) (c m : Str) (n : Nat) (F : List D → Option D) : Prop where
  len : ∀ ds d, F ds = some d → ds.length = n + 1
  ex : ∃ p f fd ps, FnG P w K mg base CX0 k f fd ps (spP ⟨P, w, K⟩ (n + 1) F) ∧ ClX.CRead K (He.ga K c) (.type "type") ∧ ClX.CMet K (He.ga K c) (.type "type") m p f ∧ Binds K fd ps []
section
variable {P : Program} {w : World} {K : PySem.W.Frag} {mg : Str → Option Value} {base : Heap} {k : Nat} {x q m c p0 : Str} {ps N : List Str} {st : Stmt} {b : SF}
theorem pcm_md (D : L3.Cmd K (He.ga K c) m q st) (S : FnScope N (p0 :: ps) (defScope st))
    (hb : ∀ (kV doc pm : Value) (an : Option Addr) (cdv ct : Value) (us : List Value), us.length = (p0 :: ps).length → bindArgs (PySem.W.fnOf m q (defArgs st) (defBody st) (defScope st) .none kV doc pm an cdv ct) ⟨us, []⟩ = pure ((p0 :: ps).zip us))
    (hbody : ∀ (f : Addr) (cdv : Value) (A : Around) (outer : List Env) (s : Shared) (H : Hp) (E : XK), Gd k (cxOf CX0 P w K mg base N q (defScope st) f cdv A outer s H E).nox →
      DSs (cxOf CX0 P w K mg base N q (defScope st) f cdv A outer s H E).nox (defBody st) b) : PCm P w K mg base (k + 1) c m ps.length (runP (ps.length + 1) N.length b) := by
  obtain ⟨p, g, fd, F, r, cm⟩ := D.ex
  exact ⟨fun ds d h => runP_len h, p, g, fd, p0 :: ps, fnG_all F S (fun vs H Q E h => h.1) (fun r => spP_run r) (hbody g), r, cm, F.binds hb⟩
end
section
variable {X : Cx} {g : G} {T T' : Tk} {H : Hp} {m : M} {Q : VK} {pos p apos : Pos} {e o : Expr} {es : List Expr} {k n : Nat} {x c nm : Str}
theorem FnG.code {f : Addr} {fd : FuncData} {ps : List Str} {sp : Sp} {pins : List (Addr × Obj)} {σ : L2.St} {s : Shared} {us : List Value} {vs : List V} (F : FnG X.prog X.w X.K X.mg X.base CX0 k f fd ps sp) (hr : Gd k X) (hb : Binds X.K fd ps []) (I : Inv X pins σ H s) (r : Vals vs us) (h : sp vs H Q E0) :
    codeAny (model X.prog X.w) X.A (.call (.ref f) ⟨us, []⟩) (fun r s' => match r with | .ok (.ret v) => EP X pins σ Q v s' | .ok _ => False | .error e => X.xe e s') s := by
  have hl : us.length = ps.length := by rw [← r.length]; exact F.len _ _ _ _ h
  have b := hb s us I.kIn (by rw [List.append_nil]; exact hl)
  rw [List.append_nil] at b
  refine codeAny_mono (F.run X.A X.stack s H ⟨us, []⟩ us vs Q E0 hr.g hr.r I.env0 b r h) fun r s' hq => ?_
  match r, hq with
  | .error _, z => exact z.elim
  | .ok (.ret u), z => exact I.after z
def tCmR (C : Addr) (r : List V → Hp → VK → Prop) (ta : TE) (t : TA) : TE := fun σ H Q => ta σ H fun x H1 => x = .ref C ∧ t σ H1 fun vs H2 => r (.ref C :: vs) H2 Q
theorem de_pcm {pl : Sem Bool} {F : List D → Option D} {f : AF} {p1 : Pos} (hF : PCm X.prog X.w X.K X.mg X.base k c nm n F) (gd : Gd k X) (hg : Gl X c) (hm : X.mg c = some (.ref (He.ga X.K c))) (ha : DA X (e :: es) f)
    (hdb : (c == ("__debug__" : Str)) = false := by decide) (hst : starEach (e :: es) X.env = (false, eval e X.env) :: starEach es X.env := by rfl) (hpl : (backTo pos (starEach es X.env)).any (·.1) = false := by rfl)
    (ht : eval (.Call (.Attribute (.Name c p1) nm apos) (e :: es) [] pos) X.env = (do
      let ov ← eval (.Name c p1) X.env
      standAt apos.atName
      let (f, first) ← holding [ov] (getMethod ov nm pl)
      callWith pos f first (backTo pos (starEach (e :: es) X.env)) (backToKw pos (keywordEach [] X.env))) := by rfl) : DE X (.Call (.Attribute (.Name c p1) nm apos) (e :: es) [] pos) (eCall (callP fun ds => F (.glo c :: ds)) f) := by
  obtain ⟨q, fa, fd, ps, G, rd, cm, b⟩ := hF.ex
  obtain ⟨t, pa, ra⟩ := ha.ex
  refine ⟨tCB (fun vs H Q => spP (gx X) (n + 1) F (.ref (He.ga X.K c) :: vs) H Q E0) t, ⟨fun pins s σ H Q I h => ?_⟩, ?_⟩
  · refine PySem.W.methodCall_KW (pl := pl) (ld_glob I hg hm ?_ hdb) ht
    refine ClX.getmethcm_ok I rd cm fun s2 I2 => ClX.callwith_cm I2 (ClX.base_none I (Nat.le_refl _)) cm.fi (thn (pa.run pos _ s2 σ H _ I2 h) fun us s3 ⟨vs, H2, I3, rv, q2⟩ => ⟨⟨ClX.pin_at I3, I3.kIn⟩, ?_⟩) hst hpl
    exact thn (wpAny_call (PySem.W.method_call (ClX.pin_at I3) (G.code (vs := .ref (He.ga X.K c) :: vs) (us := .ref (He.ga X.K c) :: us) gd b I3 (.cons rfl rv) q2))) fun _ _ y => ClX.unpinE y
  · refine rf_call (fun T H m xs vs d hm r hf Q k => ?_) ra
    have z := rf_callP (g := gx X) (n := n) (F := fun ds => F (.glo c :: ds)) (fun ds d h => by have := hF.len _ _ h; simpa using this) T H m xs vs d hm r hf Q k
    obtain ⟨hl, ν, ds, d', h1, h2, h3, h4⟩ := z
    exact ⟨by simp [hl], ν, .glo c :: ds, d', h1, .cons (.glo c) h2, h3, h4⟩
/-- cls(*a, ..): a local that holds a class -/
def eNewPL (i : Nat) (c : Str) (F : List D → M → Option (D × M)) (a : AF) : EF := fun ρ m => match ρ.getD i none with
  | some (.glo c') => if c' = c then eCall (pureC (newP c F)) a ρ m else none
  | _ => none
theorem de_newPL {F : List D → M → Option (D × M)} {f : AF} {i : Nat} {e2 : Expr} {p2 : Pos} {a2 : Bool × Sem Value} {r2 : List (Bool × Sem Value)} (hF : MNw X.prog X.w X.K X.mg X.base k c n F) (gd : Gd (k + 1) X) (hN : X.N[i]? = some x) (hv : Vis X.env.scope x) (ha : DA X (.Starred e p2 :: e2 :: es) f)
    (hdb : (x == ("__debug__" : Str)) = false := by decide) (hcd : (x == ("__classdict__" : Str)) = false := by decide)
    (he : starEach (.Starred e p2 :: e2 :: es) X.env = (true, eval e X.env) :: a2 :: r2 := by rfl) : DE X (.Call (.Name x p) (.Starred e p2 :: e2 :: es) [] pos) (eNewPL i c F f) := by
  obtain ⟨fa, fd, ps, G, M, b⟩ := hF.ex
  obtain ⟨t, pa, ra⟩ := ha.ex
  have hc := G.make M gd b
  refine ⟨fun σ H Q => σ[i]? = some (some (.ref (He.ga X.K c))) ∧ tCB (fun vs H Q => ∀ x dx, H x = none → H dx = none → dx ≠ x → spM (gx X) n F (.ref x :: vs) (upd (upd H dx (.own x)) x (.ins (He.ga X.K c) dx [])) (fun v H2 => v = .non ∧ Q (.ref x) H2) E0) t σ H Q, ⟨fun pins s σ H Q I h => ?_⟩, fun T σ H ρ m d m' hm hs hf Q k => ?_⟩
  · obtain ⟨hs, ht⟩ := h
    refine wpAny_Call_Name_kw (thn ((pe_var (pos := p) hN hv hdb hcd).run pins s σ H (fun v H1 => v = .ref (He.ga X.K c) ∧ H1 = H) I ⟨_, hs, rfl, rfl⟩) fun u s1 ⟨v, H1, I1, r1, q1⟩ => ?_)
    obtain ⟨e1, e2⟩ := q1
    subst e1 e2
    cases r1
    have hrun := pa.run pos pins s1 σ _ _ I1 ht
    rw [he] at hrun
    show wpAny _ _ (callWith pos (.ref (He.ga X.K c)) [] (backTo pos (starEach (.Starred e p2 :: _ :: es) X.env)) []) _ _ _
    rw [he]
    refine PySem.W.ks_call (P := fun h => X.K.In h) rfl (PySem.W.keeps_K M.kp) (L3.evalArgs_star (thn hrun fun us s2 ⟨vs, H2, I2, r, q⟩ => ⟨I2.kIn, ?_⟩))
    exact hc pins s2 σ H2 vs us Q I2 r q
  · unfold eNewPL at hf
    split at hf
    · next c' hc' =>
      obtain ⟨ec, hf⟩ := ite_some hf
      subst ec
      obtain ⟨v, ev, rv⟩ := hs.at_ i (.glo c') (by
        rw [List.getD_eq_getElem?_getD] at hc'
        cases h : ρ[i]? with
        | none => rw [h] at hc'; cases hc'
        | some o => rw [h] at hc'; cases hc'; rfl)
      cases rv
      exact ⟨ev, rf_call (rf_newP hF.len) ra T σ H ρ m d m' hm hs hf Q k⟩
    · cases hf
/-! all, any, sum, max, min of lists -/
def allD : M → List D → Option D
  | m, [x] => ((lstR m x).bind bools).map fun bs => .bl (bs.all id)
  | _, _ => none
def anyD : M → List D → Option D
  | m, [x] => ((lstR m x).bind bools).map fun bs => .bl (bs.any id)
  | _, _ => none
theorem call_all' (hc : X.calm = true) : CallD X (.builtin "all") allD := ⟨_, cr_all hc, fun T H m xs vs d hm r hf Q k => by
  unfold allD at hf; split at hf
  · obtain ⟨bs, h1, rfl⟩ := Option.map_eq_some_iff.mp hf
    obtain ⟨ds, h2, h3⟩ := Option.bind_eq_some_iff.mp h1
    obtain ⟨v, rfl, q⟩ := r.one
    obtain ⟨a, ws, rfl, hx, rl⟩ := lstR_rep hm q h2
    rw [bools_rep h3 rl] at hx
    exact ⟨a, bs, rfl, hx, k.now hm (.bl _)⟩
  · cases hf⟩
theorem call_any' (hc : X.calm = true) : CallD X (.builtin "any") anyD := ⟨_, cr_any hc, fun T H m xs vs d hm r hf Q k => by
  unfold anyD at hf; split at hf
  · obtain ⟨bs, h1, rfl⟩ := Option.map_eq_some_iff.mp hf
    obtain ⟨ds, h2, h3⟩ := Option.bind_eq_some_iff.mp h1
    obtain ⟨v, rfl, q⟩ := r.one
    obtain ⟨a, ws, rfl, hx, rl⟩ := lstR_rep hm q h2
    rw [bools_rep h3 rl] at hx
    exact ⟨a, bs, rfl, hx, k.now hm (.bl _)⟩
  · cases hf⟩
/-! a dict of the top -/
def tblGet (tb : List (Str × D)) (y : D) : Option D := match y with
  | .str z => tb.lookup z
  | _ => none
structure Tbl (X : Cx) (x : Str) (tb : List (Str × D)) : Prop where
  ex : ∃ es n, KDict X.K X.w (He.ga X.K x) es n
  val : ∀ q ∈ tb, ∃ u v, PySem.W.nsIn X.K (He.ga X.K x) q.1 = some (some u) ∧ RelV v u ∧ ∀ T H, Rep (gx X) T H q.2 v
  no : ∀ z, tb.lookup z = none → PySem.W.nsIn X.K (He.ga X.K x) z = some none
theorem lookup_mem {tb : List (Str × D)} {z : Str} {d : D} (h : tb.lookup z = some d) : (z, d) ∈ tb := by
  induction tb with
  | nil => cases h
  | cons p tb ih =>
    simp only [List.lookup] at h
    split at h
    · next hz => cases h; rw [beq_iff_eq.mp hz]; exact List.mem_cons_self ..
    · exact List.mem_cons_of_mem _ (ih h)
def eTbl (tb : List (Str × D)) (a : EF) : EF := fun ρ m => bd (a ρ m) fun y m1 => pu (tblGet tb y) m1
theorem de_tbl {tb : List (Str × D)} {b : Expr} {fb : EF} {p1 : Pos} (ht : Tbl X x tb) (hg : Gl X x) (hm : X.mg x = some (.ref (He.ga X.K x))) (hb : DE X b fb) (hd : (x == ("__debug__" : Str)) = false := by decide) (hs : PlainIx b := by exact fun _ _ => rfl) : DE X (.Subscript (.Name x p1) b pos) (eTbl tb fb) := by
  obtain ⟨tb', pb, rb⟩ := hb.ex
  refine ⟨_, pe_ix ix_kdict (pe_glob (v := .ref (He.ga X.K x)) hg hm rfl hd) pb hs, fun T σ H ρ m d m' hm hs hf Q k => ?_⟩
  obtain ⟨y, m1, e1, hf⟩ := bd_some hf
  obtain ⟨e2, rfl⟩ := pu_some hf
  refine rb T σ H ρ m y _ hm hs e1 _ fun v T1 H1 l1 hm1 r1 => ?_
  cases r1 with
  | str z =>
    obtain ⟨es, n, D⟩ := ht.ex
    obtain ⟨u, w, h1, h2, h3⟩ := ht.val (z, d) (lookup_mem e2)
    exact ⟨_, z, w, rfl, rfl, L3.kdct_of D h1 h2, k _ T1 H1 l1 hm1 (h3 _ _)⟩
  | _ => cases e2
def eTblNin (tb : List (Str × D)) (a : EF) : EF := fun ρ m => bd (a ρ m) fun y m1 => match y with
  | .str z => some (.bl (!(tb.lookup z).isSome), m1)
  | _ => none
def eTblIn (tb : List (Str × D)) (a : EF) : EF := fun ρ m => bd (a ρ m) fun y m1 => match y with
  | .str z => some (.bl (tb.lookup z).isSome, m1)
  | _ => none
theorem Tbl.ns {tb : List (Str × D)} (ht : Tbl X x tb) (z : Str) : ∃ r, PySem.W.nsIn X.K (He.ga X.K x) z = some r ∧ r.isSome = (tb.lookup z).isSome := by
  cases h : tb.lookup z with
  | none => exact ⟨none, ht.no z h, rfl⟩
  | some d =>
    obtain ⟨u, w, h1, _⟩ := ht.val (z, d) (lookup_mem h)
    exact ⟨some u, h1, rfl⟩
theorem rf_tblNin {tb : List (Str × D)} {t : TE} {f : EF} (ht : Tbl X x tb) (ra : RfE (gx X) t f) : RfE (gx X) (tOp (L3.rInKD X.K (He.ga X.K x) true) t (tC (.ref (He.ga X.K x)))) (eTblNin tb f) := by
  intro T σ H ρ m d m' hm hs hf Q k
  obtain ⟨y, m1, e1, hf1⟩ := bd_some hf
  refine ra T σ H ρ m y m1 hm hs e1 _ fun v T1 H1 l1 hm1 r1 => ?_
  clear hf
  cases r1 with
  | str z =>
    cases hf1
    obtain ⟨r, h1, h2⟩ := ht.ns z
    exact ⟨z, r, rfl, rfl, h1, by simp only [if_true]; rw [h2]; exact k _ T1 H1 l1 hm1 (.bl _)⟩
  | _ => cases hf1
theorem de_tblNin {tb : List (Str × D)} {a : Expr} {f : EF} {p1 : Pos} (ht : Tbl X x tb) (hg : Gl X x) (hm : X.mg x = some (.ref (He.ga X.K x))) (ha : DE X a f) (hd : (x == ("__debug__" : Str)) = false := by decide) : DE X (.Compare a [.NotIn] [.Name x p1] pos) (eTblNin tb f) := by
  obtain ⟨t, pa, ra⟩ := ha.ex
  obtain ⟨es, n, D⟩ := ht.ex
  exact ⟨_, pe_cmpR (L3.op_notIn_kd' D) pa (pe_glob (v := .ref (He.ga X.K x)) hg hm rfl hd) (by rfl), rf_tblNin ht ra⟩
theorem dt_tblNin {tb : List (Str × D)} {a : Expr} {f : EF} {p1 : Pos} (ht : Tbl X x tb) (hg : Gl X x) (hm : X.mg x = some (.ref (He.ga X.K x))) (ha : DE X a f) (hd : (x == ("__debug__" : Str)) = false := by decide) : DT X (.Compare a [.NotIn] [.Name x p1] pos) (tVal (eTblNin tb f)) := by
  obtain ⟨t, pa, ra⟩ := ha.ex
  obtain ⟨es, n, D⟩ := ht.ex
  exact ⟨_, pt_cmpR (L3.op_notIn_kd' D) pa (pe_glob (v := .ref (He.ga X.K x)) hg hm rfl hd) (by rfl), rf_test (rf_tblNin ht ra)⟩
/-! zip -/
theorem itok_Z {J : It} {ds es : List D} (hgo : ∀ T1 H1, Le T H T1 H1 → ∀ (i : Nat) d e, ds[i]? = some d → es[i]? = some e → J.go i H1 ∧ ∀ x H2, J.yld i H1 x H2 → ∃ t v w, x = .ref t ∧ H1 t = none ∧ H2 = upd H1 t (.tup [v, w]) ∧ Rep g T1 H1 d v ∧ Rep g T1 H1 e w)
    (hst : ∀ T1 H1, Le T H T1 H1 → ∀ i, (ds.zip es).length = i → J.stop i H1) : ItOk g T H J ((ds.zip es).map fun p => .tup [p.1, p.2]) := by
  intro T1 H1 l m1 hm1 i
  refine ⟨fun d hd => ?_, fun hl => hst T1 H1 l i (by simpa using hl)⟩
  rw [List.getElem?_map] at hd
  obtain ⟨⟨a, b⟩, hp, rfl⟩ := Option.map_eq_some_iff.mp hd
  obtain ⟨h1, h2⟩ := List.getElem?_zip_eq_some.mp hp
  obtain ⟨go, yl⟩ := hgo T1 H1 l i a b h1 h2
  refine ⟨go, fun x H2 hy => ?_⟩
  obtain ⟨t, v, w, rfl, ht, rfl, r1, r2⟩ := yl x H2 hy
  obtain ⟨l2, hm2⟩ := hm1.fresh (u := .tup [v, w]) ht
  exact ⟨T1, l2, hm2, .tup (.inl ⟨hm1.nope ht, upd_same⟩) ((RepL.cons r1 (.cons r2 .nil)).le l2)⟩
theorem yld_L {a : Addr} {i : Nat} {vs : List V} {v x : V} (h : SqL g.K H a vs) (hv : vs[i]? = some v) (hy : ∀ xs, SqL g.K H a xs → xs[i]? = some x) : x = v := by
  have := hy vs h
  rw [hv] at this
  exact (Option.some.inj this).symm
theorem yld_T {a : Addr} {i : Nat} {vs : List V} {v x : V} (h : SqT g.K H a vs) (hv : vs[i]? = some v) (hy : ∀ xs, SqT g.K H a xs → xs[i]? = some x) : x = v := by
  have := hy vs h
  rw [hv] at this
  exact (Option.some.inj this).symm
/-- a list or a tuple that stays as it is: what is walked -/
def frzItems : D → Option (Bool × List D)
  | .tup ds => some (true, ds)
  | .lst ds => some (false, ds)
  | .scr ds => some (false, ds)
  | _ => none
theorem frz_T {d : D} {v : V} {ds : List D} (r : Rep g T H d v) (h : frzItems d = some (true, ds)) : ∃ a, v = .ref a ∧ ∀ T1 H1, Le T H T1 H1 → ∃ vs, SqT g.K H1 a vs ∧ RepL g T1 H1 ds vs := by
  cases r with
  | tup f q => cases h; exact ⟨_, rfl, fun T1 H1 l => ⟨_, (f.le l).sq, q.le l⟩⟩
  | _ => cases h
theorem frz_L {d : D} {v : V} {ds : List D} (r : Rep g T H d v) (h : frzItems d = some (false, ds)) : ∃ a, v = .ref a ∧ ∀ T1 H1, Le T H T1 H1 → ∃ vs, SqL g.K H1 a vs ∧ RepL g T1 H1 ds vs := by
  cases r with
  | lst f q => cases h; exact ⟨_, rfl, fun T1 H1 l => ⟨_, (f.le l).sq, q.le l⟩⟩
  | scr f q => cases h; exact ⟨_, rfl, fun T1 H1 l => ⟨_, (f.le l).sq, q.le l⟩⟩
  | _ => cases h
def zipD (ds es : List D) : List D := (ds.zip es).map fun p => .tup [p.1, p.2]
/-- zip of a tuple and a list -/
def iZpM (a : AF) : AF := fun ρ m => bd (a ρ m) fun xs m1 => match xs with
  | [x, y] => match frzItems x, frzItems y with
    | some (true, ds), some (false, es) => some (zipD ds es, m1)
    | _, _ => none
  | _ => none
/-- zip of two lists, of two tuples -/
def iZpA (a : AF) : AF := fun ρ m => bd (a ρ m) fun xs m1 => match xs with
  | [x, y] => match frzItems x, frzItems y with
    | some (true, ds), some (true, es) => some (zipD ds es, m1)
    | some (false, ds), some (false, es) => some (zipD ds es, m1)
    | _, _ => none
  | _ => none
theorem di_zipM {e2 : Expr} {f : AF} {tpos : Pos} {elts : List Expr} {kk : Nat} (hg : Gl X "zip") (hm : X.mg "zip" = none) (ha : DA X [e, e2] f)
    (hs : starEach [e, e2] X.env = (false, eval e X.env) :: starEach [e2] X.env := by rfl) (hpl : (backTo pos (starEach [e2] X.env)).any (·.1) = false := by rfl) : DI X (.Tuple elts kk tpos) (.Call (.Name "zip" p) [e, e2] [] pos) (iZpM f) := by
  obtain ⟨t, pa, ra⟩ := ha.ex
  refine ⟨_, L3.pi_zipM hg hm pa hs hpl, fun T σ H ρ m ds m' hm hs hf R k => ?_⟩
  obtain ⟨xs, m1, e1, hf1⟩ := bd_some hf
  refine ra T σ H ρ m xs m1 hm hs e1 _ fun vs T1 H1 l1 hm1 r1 => ?_
  clear hf
  split at hf1
  · next x y =>
    split at hf1
    · next ds es h1 h2 =>
      cases hf1
      obtain ⟨v, w, rfl, q1, q2⟩ := r1.two
      obtain ⟨a, rfl, ha⟩ := frz_T q1 h1
      obtain ⟨b, rfl, hb⟩ := frz_L q2 h2
      obtain ⟨us, hu, _⟩ := ha T1 H1 .refl
      obtain ⟨ws, hw, _⟩ := hb T1 H1 .refl
      refine ⟨a, b, us, ws, rfl, hu, hw, k _ T1 H1 l1 hm1 (itok_Z (fun T2 H2 l2 i d e hd he => ?_) fun T2 H2 l2 i hi => ?_)⟩
      · obtain ⟨us2, hu2, ru⟩ := ha T2 H2 l2
        obtain ⟨ws2, hw2, rw2⟩ := hb T2 H2 l2
        obtain ⟨u, eu, qu⟩ := ru.get hd
        obtain ⟨w, ew, qw⟩ := rw2.get he
        refine ⟨⟨us2, ws2, u, w, hu2, hw2, eu, ew⟩, fun x H3 ⟨t, x1, y1, h3, h4, h5, h6, h7⟩ => ?_⟩
        rw [yld_T (g := gx X) hu2 eu h6, yld_L (g := gx X) hw2 ew h7] at h5
        exact ⟨t, u, w, h3, h4, h5, qu, qw⟩
      · obtain ⟨us2, hu2, ru⟩ := ha T2 H2 l2
        obtain ⟨ws2, hw2, rw2⟩ := hb T2 H2 l2
        exact ⟨us2, ws2, hu2, hw2, by rw [← hi, List.length_zip, ru.length, rw2.length]⟩
    · cases hf1
  · cases hf1
theorem di_zipA {e2 : Expr} {f : AF} {tpos : Pos} {elts : List Expr} {kk : Nat} (hg : Gl X "zip") (hm : X.mg "zip" = none) (ha : DA X [e, e2] f)
    (hs : starEach [e, e2] X.env = (false, eval e X.env) :: starEach [e2] X.env := by rfl) (hpl : (backTo pos (starEach [e2] X.env)).any (·.1) = false := by rfl) : DI X (.Tuple elts kk tpos) (.Call (.Name "zip" p) [e, e2] [] pos) (iZpA f) := by
  obtain ⟨t, pa, ra⟩ := ha.ex
  refine ⟨_, RZ.pi_zipA hg hm pa hs hpl, fun T σ H ρ m ds m' hm hs hf R k => ?_⟩
  obtain ⟨xs, m1, e1, hf1⟩ := bd_some hf
  refine ra T σ H ρ m xs m1 hm hs e1 _ fun vs T1 H1 l1 hm1 r1 => ?_
  clear hf
  split at hf1
  · next x y =>
    split at hf1
    · next ds es h1 h2 =>
      cases hf1
      obtain ⟨v, w, rfl, q1, q2⟩ := r1.two
      obtain ⟨a, rfl, ha⟩ := frz_T q1 h1
      obtain ⟨b, rfl, hb⟩ := frz_T q2 h2
      obtain ⟨us, hu, _⟩ := ha T1 H1 .refl
      obtain ⟨ws, hw, _⟩ := hb T1 H1 .refl
      refine ⟨a, b, us, ws, rfl, .inr ⟨hu, hw, k _ T1 H1 l1 hm1 (itok_Z (fun T2 H2 l2 i d e hd he => ?_) fun T2 H2 l2 i hi => ?_)⟩⟩
      · obtain ⟨us2, hu2, ru⟩ := ha T2 H2 l2
        obtain ⟨ws2, hw2, rw2⟩ := hb T2 H2 l2
        obtain ⟨u, eu, qu⟩ := ru.get hd
        obtain ⟨w, ew, qw⟩ := rw2.get he
        refine ⟨⟨us2, ws2, u, w, hu2, hw2, eu, ew⟩, fun x H3 ⟨t, x1, y1, h3, h4, h5, h6, h7⟩ => ?_⟩
        rw [yld_T (g := gx X) hu2 eu h6, yld_T (g := gx X) hw2 ew h7] at h5
        exact ⟨t, u, w, h3, h4, h5, qu, qw⟩
      · obtain ⟨us2, hu2, ru⟩ := ha T2 H2 l2
        obtain ⟨ws2, hw2, rw2⟩ := hb T2 H2 l2
        exact ⟨us2, ws2, hu2, hw2, by rw [← ru.length, ← rw2.length, ← hi, List.length_zip]; omega⟩
    · next ds es h1 h2 =>
      cases hf1
      obtain ⟨v, w, rfl, q1, q2⟩ := r1.two
      obtain ⟨a, rfl, ha⟩ := frz_L q1 h1
      obtain ⟨b, rfl, hb⟩ := frz_L q2 h2
      obtain ⟨us, hu, _⟩ := ha T1 H1 .refl
      obtain ⟨ws, hw, _⟩ := hb T1 H1 .refl
      refine ⟨a, b, us, ws, rfl, .inl ⟨hu, hw, k _ T1 H1 l1 hm1 (itok_Z (fun T2 H2 l2 i d e hd he => ?_) fun T2 H2 l2 i hi => ?_)⟩⟩
      · obtain ⟨us2, hu2, ru⟩ := ha T2 H2 l2
        obtain ⟨ws2, hw2, rw2⟩ := hb T2 H2 l2
        obtain ⟨u, eu, qu⟩ := ru.get hd
        obtain ⟨w, ew, qw⟩ := rw2.get he
        refine ⟨⟨us2, ws2, u, w, hu2, hw2, eu, ew⟩, fun x H3 ⟨t, x1, y1, h3, h4, h5, h6, h7⟩ => ?_⟩
        rw [yld_L (g := gx X) hu2 eu h6, yld_L (g := gx X) hw2 ew h7] at h5
        exact ⟨t, u, w, h3, h4, h5, qu, qw⟩
      · obtain ⟨us2, hu2, ru⟩ := ha T2 H2 l2
        obtain ⟨ws2, hw2, rw2⟩ := hb T2 H2 l2
        exact ⟨us2, ws2, hu2, hw2, by rw [← ru.length, ← rw2.length, ← hi, List.length_zip]; omega⟩
    · cases hf1
  · cases hf1
end
end L4

namespace L4
open PySem PySem.Spec PyProof.Rows L2
section
variable {X : Cx} {g : G} {T T' : Tk} {H : Hp} {m : M} {Q : VK} {pos p apos : Pos} {e o : Expr} {es : List Expr} {k n : Nat} {x c nm : Str}
/-! xs.pop(i) -/
def popAtL (ds ys : List D) : Option (D × List D) := match ys with
  | [.int i] => if -(2 ^ 63) ≤ i ∧ i < 2 ^ 63 then match seqIndex? i ds.length with
      | some k => match ds[k]? with
        | some y => some (y, ds.eraseIdx k)
        | none => none
      | none => none
    else none
  | _ => none
theorem RepL.erase {ds : List D} {vs : List V} (k : Nat) (r : RepL g T H ds vs) : RepL g T H (ds.eraseIdx k) (vs.eraseIdx k) := by
  rw [List.eraseIdx_eq_take_drop_succ, List.eraseIdx_eq_take_drop_succ]
  exact (r.take _).append (r.drop _)
theorem rfl_popAt : RfLm g rPopAt (fun _ => popAtL) := by
  intro T H m l xs ds ys vs d es hm hl rd ry hf Q k
  change popAtL ds ys = some (d, es) at hf
  unfold popAtL at hf
  split at hf
  · next i =>
    obtain ⟨⟨h1, h2⟩, hf⟩ := ite_some hf
    split at hf
    · next j hj =>
      split at hf
      · next y hy =>
        cases hf
        obtain ⟨v, rfl, q⟩ := ry.one
        cases q
        obtain ⟨w, ew, qw⟩ := rd.get hy
        exact ⟨l, xs, i, j, w, rfl, rfl, hl, h1, h2, by rw [← rd.length]; exact hj, ew, k _ _ (rd.erase j) qw⟩
      · cases hf
    · cases hf
  · cases hf
theorem de_popAt {fo : EF} {f : AF} (ho : DE X o fo) (ha : DA X [e] f) (hbase : attributeBase o "pop" X.env (eval o X.env) = eval o X.env := by rfl) (hline : (apos.endLine == pos.line) = true := by rfl) (hs : starEach [e] X.env = [(false, eval e X.env)] := by rfl)
    (hfew : ((backTo pos (starEach [e] X.env)).all (fun x => !x.1) && (backToKw pos (keywordEach [] X.env)).all (fun x => x.1.isSome) && decide ([e].length + ([] : List Keyword).length + (if ([] : List Keyword).isEmpty then 0 else 1) < 30)) = true := by rfl) :
    DE X (.Call (.Attribute o "pop" apos) [e] [] pos) (eLm0 (fun _ => popAtL) fo f) := de_lm PySem.F.slot_list_pop PySem.F.type_list_pop mt_popAt rfl_popAt ho ha hbase hfew hline hs rfl
end
end L4
namespace L4
open PySem PySem.Spec PyProof.Rows L2
/-! dicts of the top, told by a check of the written part -/
def atomB : D → Value → Bool
  | .bl b, .bool c => b == c
  | .int i, .int j _ => i == j
  | .str x, .str y _ => decide (x = y)
  | .non, .none => true
  | _, _ => false
def atomsB : List D → List Value → Bool
  | [], [] => true
  | d :: ds, u :: us => atomB d u && atomsB ds us
  | _, _ => false
def valB (K : PySem.W.Frag) (d : D) (u : Value) : Bool := match d, u with
  | .tup ds, .ref r => match K.lookup r with
    | some ⟨.type "tuple", _, .seq its _, _⟩ => decide (its.size ≤ sizeLine) && atomsB ds its.toList
    | _ => false
  | d, u => atomB d u
def tblB (K : PySem.W.Frag) (a : Addr) (tb : List (Str × D)) : Bool := tb.all fun q => match PySem.W.nsIn K a q.1 with
  | some (some u) => valB K q.2 u
  | _ => false
def nsOnly (K : PySem.W.Frag) (a : Addr) (names : List Str) : Bool := match K.lookup a with
  | some ⟨_, _, .dict es _, _⟩ => es.toList.all fun e => match e.key with
    | .str z _ => names.contains z
    | _ => false
  | _ => false
theorem atomB_ok {g : G} {d : D} {u : Value} (h : atomB d u = true) : ∃ v, RelV v u ∧ ∀ T H, Rep g T H d v := by
  unfold atomB at h
  split at h
  · exact ⟨.bl _, by rw [beq_iff_eq.mp h]; rfl, fun _ _ => .bl _⟩
  · exact ⟨.int _, ⟨_, by rw [beq_iff_eq.mp h]⟩, fun _ _ => .int _⟩
  · exact ⟨.str _, ⟨_, by rw [of_decide_eq_true h]⟩, fun _ _ => .str _⟩
  · exact ⟨.non, rfl, fun _ _ => .non⟩
  · cases h
theorem atomsB_ok {g : G} : ∀ {ds : List D} {us : List Value}, atomsB ds us = true → ∃ vs, Vals vs us ∧ ∀ T H, RepL g T H ds vs
  | [], [], _ => ⟨[], .nil, fun _ _ => .nil⟩
  | [], _ :: _, h => by cases h
  | _ :: _, [], h => by cases h
  | d :: ds, u :: us, h => by
    obtain ⟨h1, h2⟩ := and2 (show (atomB d u && atomsB ds us) = true from h)
    obtain ⟨v, r, q⟩ := atomB_ok (g := g) h1
    obtain ⟨vs, rs, qs⟩ := atomsB_ok (g := g) h2
    exact ⟨v :: vs, .cons r rs, fun T H => .cons (q T H) (qs T H)⟩
theorem valB_ok {g : G} {d : D} {u : Value} (h : valB g.K d u = true) : ∃ v, RelV v u ∧ ∀ T H, Rep g T H d v := by
  unfold valB at h
  split at h
  · next ds r =>
    split at h
    · next dd its n sl hl =>
      obtain ⟨h1, h2⟩ := and2 h
      obtain ⟨vs, rs, qs⟩ := atomsB_ok (g := g) h2
      exact ⟨.ref r, rfl, fun T H => .tup (.inr (.inr ⟨_, its, n, hl, rfl, rfl, of_decide_eq_true h1, rs⟩)) (qs T H)⟩
    · cases h
  · exact atomB_ok h
theorem tbl_of {X : Cx} {x : Str} {tb : List (Str × D)} {names : List Str} {K : PySem.W.Frag} {w : World} (hK : X.K = K) (hW : X.w = w) (h0 : ∃ es n, KDict K w (He.ga K x) es n) (h1 : tblB K (He.ga K x) tb = true) (h2 : nsOnly K (He.ga K x) names = true) (h3 : ∀ z ∈ names, (tb.lookup z).isSome = true := by decide +kernel) : Tbl X x tb := by
  subst hK hW
  refine ⟨h0, fun q hq => ?_, fun z hz => ?_⟩
  · have := List.all_eq_true.mp h1 q hq
    split at this
    · next u hu =>
      obtain ⟨v, r, s⟩ := valB_ok (g := gx X) this
      exact ⟨u, v, hu, r, s⟩
    · cases this
  · unfold nsOnly at h2
    unfold PySem.W.nsIn
    split at h2
    · next es n sl hl =>
      rw [hl]
      have key : ∀ e ∈ es.toList, ∃ y t, e.key = .str y t ∧ y ∈ names := fun e he => by
        have := List.all_eq_true.mp h2 e he
        split at this
        · next y t hy => exact ⟨y, t, hy, by simpa using this⟩
        · cases this
      have hn : z ∉ names := fun hz' => absurd (h3 z hz') (by rw [hz]; decide)
      have e1 : es.toList.find? (·.key.isStr z) = none := by
        rw [List.find?_eq_none]
        intro e he
        obtain ⟨y, t, ey, hy⟩ := key e he
        rw [ey]
        intro hh
        have : y = z := by simpa [Value.isStr] using hh
        exact hn (this ▸ hy)
      have e2 : es.toList.any (·.refKey) = false := by
        rw [List.any_eq_false]
        intro e he
        obtain ⟨y, t, ey, hy⟩ := key e he
        simp [DictEntry.refKey, ey]
      simp only [e1, e2]
      rfl
    · cases h2
end L4

namespace L4
open PySem PySem.Spec PyProof.Rows L2
section
variable {X : Cx} {g : G} {T T' : Tk} {H : Hp} {m : M} {Q : VK} {pos p apos : Pos} {e o : Expr} {es : List Expr} {k n : Nat} {x c nm : Str}
/-! a loop over a list that is tracked: as it stands at each turn -/
def forRef (f : GF) (b : SF) (n : Nat) : Nat → Nat → SF
  | 0, _ => fun _ _ => none
  | k + 1, i => fun ρ m => match (m[n]?).bind lstO with
    | none => none
    | some ds => match ds[i]? with
      | none => some (.nx ρ, m)
      | some x => bd (f x ρ m) fun ρ1 m1 => bd (b ρ1 m1) fun r m2 => match r with
        | .nx ρ2 => forRef f b n k (i + 1) ρ2 m2
        | .ct ρ2 => forRef f b n k (i + 1) ρ2 m2
        | .bk ρ2 => some (.nx ρ2, m2)
        | .rt d => some (.rt d, m2)
def sForA (fuel : Nat) (a : EF) (f : GF) (b : SF) : SF := fun ρ m => bd (a ρ m) fun x m1 => match x with
  | .ref n => forRef f b n fuel 0 ρ m1
  | x => match items x with
    | some xs => forGo f b xs ρ m1
    | none => none
theorem ds_forA {tg : Expr} {body : List Stmt} {fi : EF} {fg : GF} {fb : SF} (fuel : Nat) (hp : PassesOwn (model X.prog X.w) X.A X.env X.xe) (hc : X.calm = true) (hi : DE X e fi) (hg : DG X tg fg) (hb : DSs X body fb)
    (hs : ∀ x, foldedSetIterable e X.env x = pure x := by intro _; rfl) : DS X (.For tg e body [] pos) (sForA fuel fi fg fb) := by
  obtain ⟨ti, pi, ri⟩ := hi.ex; obtain ⟨tg', pg, rg⟩ := hg.ex; obtain ⟨tb, pb, rb⟩ := hb.ex
  obtain ⟨_, _, rI⟩ := (di_any (tg := tg) hi).ex
  obtain ⟨t2, p2, r2⟩ := (ds_for (pos := pos) hp hc (di_any (tg := tg) hi) hg hb hs).ex
  refine ⟨fun D σ H => tFor (iAny X.K ti) tg' tb D σ H ∨ t2 D σ H, ⟨fun pins s σ H D I h => ?_⟩, fun T σ H ρ m r m' hm hs hf D k => ?_⟩
  · rcases h with h | h
    · exact (ps_for hp hc (pi_any pi) pg pb hs).run pins s σ H D I h
    · exact p2.run pins s σ H D I h
  · obtain ⟨x, m1, e1, hf1⟩ := bd_some hf
    clear hf
    by_cases hx : ∃ n, x = .ref n
    · obtain ⟨n, rfl⟩ := hx
      left
      refine ri T σ H ρ m _ m1 hm hs e1 _ fun v T0 H0 l0 hm0 r0 => ?_
      cases r0 with
      | @ref _ a ea =>
        cases fuel with
        | zero => cases hf1
        | succ fuel =>
          change forRef fg fb n (fuel + 1) 0 ρ m1 = some (r, m') at hf1
          have hf1' := hf1
          unfold forRef at hf1
          split at hf1
          · cases hf1
          · next ds hds =>
            obtain ⟨ob, h1, h2⟩ := Option.bind_eq_some_iff.mp hds
            have hro := hm0.at_ _ _ _ ea h1
            cases hro with
            | @lst _ vs hH rl =>
              cases h2
              refine .inl ⟨a, rfl, ⟨_, SqL.of hH⟩, ?_⟩
              refine ⟨fun i j σ1 H1 => ∃ T1 ρ1 m1, Le T0 H0 T1 H1 ∧ RepH (gx X) T1 H1 m1 ∧ RepS (gx X) T1 H1 σ1 ρ1 ∧ forRef fg fb n j i ρ1 m1 = some (r, m'), ⟨fuel + 1, T0, ρ, m1, .refl, hm0, hs.le l0, hf1'⟩, ?_⟩
              rintro i j σ1 H1 ⟨T1, ρ1, m2, l1, hm1, hs1, hfj⟩
              cases j with
              | zero => cases hfj
              | succ j =>
                unfold forRef at hfj
                split at hfj
                · cases hfj
                · next ds1 hd1 =>
                  obtain ⟨ob1, h3, h4⟩ := Option.bind_eq_some_iff.mp hd1
                  have ea1 := l1.get ea
                  cases hm1.at_ _ _ _ ea1 h3 with
                  | @lst _ vs1 hH1 rl1 =>
                    cases h4
                    split at hfj
                    · next hn =>
                      cases hfj
                      left
                      refine ⟨⟨vs1, SqL.of hH1, ?_⟩, k σ1 T1 H1 (l0.trans l1) hm1 hs1⟩
                      rw [← rl1.length]
                      exact List.getElem?_eq_none_iff.mp hn
                    · next y hy =>
                      right
                      obtain ⟨w, ew, qw⟩ := rl1.get hy
                      refine ⟨⟨vs1, w, SqL.of hH1, ew⟩, _, fun _ _ q => q, fun z H2 ⟨eH, hz⟩ => ?_⟩
                      subst eH
                      have : z = w := by
                        have := hz vs1 (SqL.of hH1)
                        rw [ew] at this
                        exact (Option.some.inj this).symm
                      subst this
                      obtain ⟨ρ3, m3, e3, hf3⟩ := bd_some hfj
                      refine rg T1 σ1 _ ρ1 m2 y z ρ3 m3 hm1 hs1 qw e3 _ fun σ3 T3 H3 l3 hm3 hs3 => ?_
                      obtain ⟨fl, m4, e4, hf4⟩ := bd_some hf3
                      refine rb T3 σ3 H3 ρ3 m3 fl m4 hm3 hs3 e4 _ ?_
                      have l13 := l1.trans l3
                      cases fl with
                      | nx ρ4 => exact fun σ4 T4 H4 l4 hm4 hs4 => ⟨j, Nat.lt_succ_self _, T4, ρ4, m4, l13.trans l4, hm4, hs4, hf4⟩
                      | ct ρ4 => exact fun σ4 T4 H4 l4 hm4 hs4 => ⟨j, Nat.lt_succ_self _, T4, ρ4, m4, l13.trans l4, hm4, hs4, hf4⟩
                      | bk ρ4 => cases hf4; exact KS.le (l0.trans l13) k
                      | rt d => cases hf4; exact KV.le (l0.trans l13) k
                  | _ => cases h4
            | _ => cases h2
    · right
      refine r2 T σ H ρ m r m' hm hs ?_ D k
      unfold sFor iIt
      rw [e1]
      simp only [bd_go]
      cases x with
      | ref n => exact absurd ⟨n, rfl⟩ hx
      | tup ds => exact hf1
      | lst ds => exact hf1
      | scr ds => exact hf1
      | str ds => exact hf1
      | _ => cases hf1
end
end L4

namespace L4
open PySem PySem.Spec PyProof.Rows L2
/-! the end: a law's own call -/
theorem fs_of {K : PySem.W.Frag} {H : Hp} {a : Addr} {xs : List V} {T : Tk} (hT : T.ν = []) (hO : Only H) (h : SqL K H a xs) : FS K T H a xs := by
  rcases h with h | h
  · rcases hO a with z | ⟨ob, ys, z⟩
    · rcases h with h | ⟨o, h⟩ <;> rw [z] at h <;> cases h
    · rcases h with h | ⟨o, h⟩
      · rw [z] at h; cases h
      · exact .inl ⟨by rw [hT]; exact List.not_mem_nil, o, h⟩
  · exact .inr (.inr h)
theorem repL_ints {g : G} {T : Tk} {H : Hp} (ns : List Int) : RepL g T H (ns.map D.int) (ns.map V.int) := by
  induction ns with
  | nil => exact .nil
  | cons n ns ih => exact .cons (.int n) ih
theorem law_sp {P : Program} {w : World} {K : PySem.W.Frag} {F : List D → Option D} {H : Hp} {a : Addr} {ns : List Int} (hF : F [.scr (ns.map D.int)] = some (.bl true)) (hO : Only H) (h : SqL K H a (ns.map V.int)) :
    spP ⟨P, w, K⟩ 1 F [.ref a] H (fun v _ => v = .bl true) fun _ _ _ => False :=
  ⟨rfl, [], [.scr (ns.map D.int)], .bl true, fun a h => (List.not_mem_nil h).elim, .cons (.scr (fs_of rfl hO h) (repL_ints ns)) .nil, hF, fun v H' _ r => by cases r; rfl⟩
theorem law_df {P : Program} {w : World} {K : PySem.W.Frag} {mg : Str → Option Value} {base : Heap} {k : Nat} {ps N : List Str} {st : Stmt} {b : SF} {x q : Str} {f : Addr} {fd : FuncData} (F : Fun K x q st f fd) (S : FnScope N ps (defScope st))
    (hbody : ∀ (f : Addr) (cdv : Value) (A : Around) (outer : List Env) (s : Shared) (H : Hp) (E : XK), Gd k (cxOf CX0 P w K mg base N q (defScope st) f cdv A outer s H E).nox →
      DSs (cxOf CX0 P w K mg base N q (defScope st) f cdv A outer s H E).nox (defBody st) b) : FnG P w K mg base CX0 (k + 1) f fd ps (spP ⟨P, w, K⟩ ps.length (runP ps.length N.length b)) :=
  fnG_all F S (fun vs H Q E h => h.1) (fun r => spP_run r) (hbody f)
theorem FnG.to3 {P : Program} {w : World} {K : PySem.W.Frag} {mg : Str → Option Value} {base : Heap} {k : Nat} {f : Addr} {fd : FuncData} {ps : List Str} {sp : Sp} (F : FnG P w K mg base CX0 k f fd ps sp) : L3.FnG P w K mg base k f fd ps sp := ⟨F.len, F.run⟩
theorem walkL {l : PySem.W.OpenLaw} {n k : Nat} {q : Program} {loose : List Str} {XP : (Str → Option Value) → Heap → Prop} {YP : World → Heap → Prop} {d : DefRec} {x : Str} {FL : List D → Option D}
    (hn : l.most = some n) (hn2 : n ≤ sizeLine) (hdf : d.params.defaults = []) (hr : Room k callerA) (hF : ∀ ns : List Int, ns.length ≤ n → FL [.scr (ns.map D.int)] = some (.bl true))
    (F : ∀ (w : World) (mg : Str → Option Value) (fa : Addr) (h : Heap), YP w h → h.Ns mainGlobals mg → mg d.name = some (.ref fa) →
      ∃ (K : PySem.W.Frag) (fd : FuncData), K.In h ∧ (∀ (s : Shared) (u : Value), BindsTo s fd ⟨[u], []⟩ [(x, u)]) ∧ ∀ base : Heap, K.In base → base.Ns mainGlobals mg → FnG l.prog w K mg base CX0 k fa fd [x] (spP ⟨l.prog, w, K⟩ 1 FL)) :
    PySem.W.WalkO q loose XP YP l.row.toRowW d [] (fun f vs => PySem.call f vs) := by
  refine Att.attach_call hn hdf ?_
  intro w s₀ s₁ mg mb fa o pm cd doc a vs ns G Y ho hd hcd hmg hobj hints hlen hg
  obtain ⟨K, fd, KX, hb, hX⟩ := F w mg fa _ Y G.T.g hmg
  exact L3.callG (n := n) KX G.T.g G.T.b G.T.builtins G.T.nolimit hg hobj hints (Nat.le_trans hlen hn2) hr (fun base h1 h2 => (hX base h1 h2).to3) hb fun H hO hS => law_sp (hF ns hlen) hO hS
end L4

namespace L4
open PySem
/-! plain facts of the functions -/
theorem ixA_ref {m : M} {n : Nat} {ds : List D} {i : Int} (h : m[n]? = some (.lst ds)) : ixA m (.ref n) (.int i) = L2.atI ds i := by
  simp [ixA, dicOf, h, dicO, ixD, lstR, lstOf, lstO]
theorem setM_ref {m : M} {n : Nat} {ds : List D} {i : Int} {d : D} (h : m[n]? = some (.lst ds)) : setM m (.ref n) (.int i) d = (L2.ixN ds.length i).map fun j => m.set n (.lst (ds.set j d)) := by
  simp [setM, h, setO]
  cases L2.ixN ds.length i <;> rfl
theorem ixA_scr {m : M} {ds : List D} {i : Int} : ixA m (.scr ds) (.int i) = L2.atI ds i := by
  simp [ixA, dicOf, ixD, lstR]
theorem ixA_lst {m : M} {ds : List D} {i : Int} : ixA m (.lst ds) (.int i) = L2.atI ds i := by
  simp [ixA, dicOf, ixD, lstR, lstOf]
theorem ixA_tup {m : M} {ds : List D} {i : Int} : ixA m (.tup ds) (.int i) = L2.atI ds i := by
  simp [ixA, dicOf, ixD]
theorem lenD_scr {m : M} {ds : List D} : lenD m [.scr ds] = some (.int ds.length) := by simp [lenD, lstR]
theorem lenD_lst {m : M} {ds : List D} : lenD m [.lst ds] = some (.int ds.length) := by simp [lenD, lstR, lstOf]
theorem lenD_tup {m : M} {ds : List D} : lenD m [.tup ds] = some (.int ds.length) := by simp [lenD]
theorem lenD_ref {m : M} {n : Nat} {ds : List D} (h : m[n]? = some (.lst ds)) : lenD m [.ref n] = some (.int ds.length) := by simp [lenD, lstR, lstOf, h, lstO]
theorem atI_ints {ns : List Int} {k : Nat} (h : k < ns.length) : L2.atI (ns.map D.int) (k : Int) = some (.int ns[k]) := L2.atI_nat (by simp [h])
theorem at2 {m : M} {a b : Int} {c : Prop} [Decidable c] : (ixA m (.lst [.int a, .int b]) (.int (if c then 1 else 0))) = some (.int (if c then b else a)) := by
  rw [ixA_lst]
  by_cases h : c
  · rw [if_pos h, if_pos h]; rfl
  · rw [if_neg h, if_neg h]; rfl
theorem pow18 (m : M) : powD m (.int 10) (.int 18) = some (.int 1000000000000000000) := by
  have h : (match powD [] (.int 10) (.int 18) with | some (.int i) => decide (i = 1000000000000000000) | _ => false) = true := by decide +kernel
  have e : powD m (.int 10) (.int 18) = powD [] (.int 10) (.int 18) := rfl
  rw [e]
  revert h
  generalize powD [] (.int 10) (.int 18) = z
  intro h
  split at h
  · rw [of_decide_eq_true h]
  · cases h
theorem sz1 : (1 : Nat) ≤ sizeLine := by decide +kernel
theorem sz2 : (2 : Nat) ≤ sizeLine := by decide +kernel
theorem sz3 : (3 : Nat) ≤ sizeLine := by decide +kernel
/-- a loop by what holds at each turn -/
theorem forGo_inv {f : GF} {b : SF} (I : Nat → Ss → M → Prop) : ∀ (xs : List D) (i : Nat) (ρ : Ss) (m : M), I i ρ m →
    (∀ j x ρ m, xs[j]? = some x → I (i + j) ρ m → ∃ ρ1 m1, f x ρ m = some (ρ1, m1) ∧ ∃ r m2, b ρ1 m1 = some (r, m2) ∧ ∃ ρ2, (r = .nx ρ2 ∨ r = .ct ρ2) ∧ I (i + j + 1) ρ2 m2) →
    ∃ ρ' m', forGo f b xs ρ m = some (.nx ρ', m') ∧ I (i + xs.length) ρ' m'
  | [], i, ρ, m, h0, _ => ⟨ρ, m, rfl, h0⟩
  | x :: xs, i, ρ, m, h0, hs => by
    obtain ⟨ρ1, m1, e1, r, m2, e2, ρ2, hr, h2⟩ := hs 0 x ρ m rfl h0
    obtain ⟨ρ', m', e3, h3⟩ := forGo_inv I xs (i + 1) ρ2 m2 h2 fun j y ρ m hj hI => by
      have := hs (j + 1) y ρ m (by simpa using hj) (by rw [show i + (j + 1) = i + 1 + j by omega]; exact hI)
      rw [show i + (j + 1) + 1 = i + 1 + j + 1 by omega] at this
      exact this
    refine ⟨ρ', m', ?_, by rw [List.length_cons, show i + (xs.length + 1) = i + 1 + xs.length by omega]; exact h3⟩
    simp only [forGo, e1, bd_go, e2]
    rcases hr with rfl | rfl <;> exact e3
/-- .. over a tracked list that stays -/
theorem forRef_inv {f : GF} {b : SF} {n : Nat} {ds : List D} (I : Nat → Ss → M → Prop) (hI : ∀ i ρ m, I i ρ m → m[n]? = some (.lst ds)) : ∀ (k i : Nat) (ρ : Ss) (m : M), ds.length < i + k → i ≤ ds.length → I i ρ m →
    (∀ j x ρ m, ds[j]? = some x → I j ρ m → ∃ ρ1 m1, f x ρ m = some (ρ1, m1) ∧ ∃ r m2, b ρ1 m1 = some (r, m2) ∧ ∃ ρ2, (r = .nx ρ2 ∨ r = .ct ρ2) ∧ I (j + 1) ρ2 m2) →
    ∃ ρ' m', forRef f b n k i ρ m = some (.nx ρ', m') ∧ I ds.length ρ' m'
  | 0, i, ρ, m, hk, hi, _, _ => by omega
  | k + 1, i, ρ, m, hk, hi, h0, hs => by
    by_cases hlt : i < ds.length
    · obtain ⟨ρ1, m1, e1, r, m2, e2, ρ2, hr, h2⟩ := hs i ds[i] ρ m (List.getElem?_eq_getElem hlt) h0
      obtain ⟨ρ', m', e3, h3⟩ := forRef_inv I hI k (i + 1) ρ2 m2 (by omega) (by omega) h2 hs
      refine ⟨ρ', m', ?_, h3⟩
      simp only [forRef, hI i ρ m h0, Option.bind_some, lstO, List.getElem?_eq_getElem hlt, e1, bd_go, e2]
      rcases hr with rfl | rfl <;> exact e3
    · have e : i = ds.length := by omega
      subst e
      exact ⟨ρ, m, by simp [forRef, hI _ ρ m h0, lstO], h0⟩
end L4

namespace L4
open PySem L2 TL
def tb_ROUNDS : List (Str × D) := [("down", .bl false), ("up", .bl true)]
def f__law_box_1 : SF := sRet (eNewL (aCons (eOp ixA (eLst (aCons (eC (.int 0)) (aCons (eVar 2) (aNil)))) (eCall intD (aCons (eOp geD (eVar 2) (eOp powD (eC (.int 10)) (eC (.int 18)))) (aNil)))) (aCons (eVar 3) (aCons (eC (.int 0)) (aNil)))))
def f__law_box_2 : SF := sSeq (sAsg (eOp addD (eOp modD (eCall intD (aCons (eOp addD (eOp addD (eOp mulD (eOp modD (eCall intD (aCons (eVar 2) (aNil))) (eC (.int 2147483629))) (eC (.int 45427))) (eOp mulD (eC (.int 38201)) (eVar 1))) (eC (.int 17))) (aNil))) (eC (.int 2147483629))) (eC (.int 1))) (gNm 3)) (f__law_box_1)
def f__law_box_3 : SF := sSeq (sIf (tVal (eOp ltD (eVar 1) (eCall lenD (aCons (eVar 0) (aNil))))) (sAsg (eCall absD (aCons (eCall intD (aCons (eOp ixA (eVar 0) (eVar 1)) (aNil))) (aNil))) (gNm 2)) (sIf (tVal (eOp gtD (eCall lenD (aCons (eVar 0) (aNil))) (eC (.int 0)))) (sAsg (eOp addD (eVar 2) (eOp mulD (eOp modD (eCall intD (aCons (eOp ixA (eVar 0) (eOp modD (eCall intD (aCons (eVar 1) (aNil))) (eCall lenD (aCons (eVar 0) (aNil))))) (aNil))) (eC (.int 2147483629))) (eC (.int 82373)))) (gNm 2)) (sNop))) (f__law_box_2)
def f__law_box : SF := sSeq (sAsg (eOp addD (eOp mulD (eC (.int 6421)) (eVar 1)) (eC (.int 71))) (gNm 2)) (f__law_box_3)
def F__law_box := runM 2 4 f__law_box
def f__law_take_1 : SF := sSeq (sAsg (eOp fdivD (eOp ixA (eVar 0) (eC (.int 0))) (eVar 1)) (gSetA (eVar 0) (eC (.int 0)))) (sRet (eVar 2))
def f__law_take_2 : SF := sRet (eOp modD (eCall intD (aCons (eOp fdivD (eOp addD (eOp mulD (eVar 3) (eC (.int 2147483647))) (eOp ixA (eVar 0) (eC (.int 1)))) (eC (.int 8191))) (aNil))) (eVar 1))
def f__law_take_3 : SF := sSeq (sAsg (eOp addD (eOp modD (eCall intD (aCons (eOp addD (eOp mulD (eVar 3) (eC (.int 46021))) (eC (.int 28051))) (aNil))) (eC (.int 2147483629))) (eC (.int 1))) (gSetA (eVar 0) (eC (.int 1)))) (f__law_take_2)
def f__law_take_4 : SF := sSeq (sAsg (eOp modD (eCall intD (aCons (eOp mulD (eOp addD (eOp ixA (eVar 0) (eC (.int 1))) (eOp mulD (eC (.int 98641)) (eOp ixA (eVar 0) (eC (.int 2))))) (eC (.int 70381))) (aNil))) (eC (.int 2147483647))) (gNm 3)) (f__law_take_3)
def f__law_take_5 : SF := sSeq (sAsg (eOp addD (eOp ixA (eVar 0) (eC (.int 2))) (eC (.int 1))) (gSetA (eVar 0) (eC (.int 2)))) (f__law_take_4)
def f__law_take : SF := sSeq (sIf (tVal (eOp gtD (eOp ixA (eVar 0) (eC (.int 0))) (eC (.int 0)))) (sSeq (sAsg (eOp modD (eCall intD (aCons (eOp ixA (eVar 0) (eC (.int 0))) (aNil))) (eVar 1)) (gNm 2)) (f__law_take_1)) (sNop)) (f__law_take_5)
def F__law_take := runM 2 4 f__law_take
def f__law_shuffled_1 : SF := sDrop (eLm0 (fun _ => appL) (eVar 3) (aCons (eLm0 (fun _ => popAtL) (eVar 2) (aCons (eCallM F__law_take (aCons (eVar 0) (aCons (eCall lenD (aCons (eVar 2) (aNil))) (aNil)))) (aNil))) (aNil)))
def f__law_shuffled_2 : SF := sSeq (sFor (iR1 (aCons (eCall lenD (aCons (eVar 2) (aNil))) (aNil))) (gTgt (.one 4)) (f__law_shuffled_1)) (sRet (eVar 3))
def f__law_shuffled : SF := sSeq (sPar [2, 3] (aCons (eLisN (eVar 1)) (aCons (eNewL (aNil)) (aNil)))) (f__law_shuffled_2)
def F__law_shuffled := runM 2 5 f__law_shuffled
def f_number_in_1 : SF := sRet (eIf (tOr (tVal (eOp eqD (eVar 0) (eC (.str "0")))) (tVal (eOp neD (eOp ixA (eVar 0) (eC (.int 0))) (eC (.str "0"))))) (eCall intD (aCons (eVar 0) (aNil))) (eC .non))
def f_number_in : SF := sSeq (sIf (tOr (tNot (tVal (eChain leD leD (eC (.int 1)) (eCall lenD (aCons (eVar 0) (aNil))) (eVar 1)))) (tNot (tVal (eCall allD (aCons (eLc (iIt (eVar 0)) (.one 2) (tTrue) (eOp inA (eVar 2) (eC (.str "0123456789")))) (aNil)))))) (sRet (eC .non)) (sNop)) (f_number_in_1)
def F_number_in := runP 2 3 f_number_in
def f_numbers_in_1 : SF := sRet (eIf (tVal (eOp inA (eC .non) (eVar 1))) (eC .non) (eVar 1))
def f_numbers_in : SF := sSeq (sAsg (eLc (iIt (eVar 0)) (.one 2) (tTrue) (eCall (callP F_number_in) (aCons (eVar 2) (aCons (eC (.int 2)) (aNil))))) (gNm 1)) (f_numbers_in_1)
def F_numbers_in := runP 1 3 f_numbers_in
def f_share_in_1 : SF := sRet (eIf (tVal (eOp eqD (eCall lenD (aCons (eVar 1) (aNil))) (eC (.int 2)))) (eCall (callP F_numbers_in) (aCons (eVar 1) (aNil))) (eC .non))
def f_share_in : SF := sSeq (sAsg (eM1 splitD (eVar 0) (eC (.str "/"))) (gNm 1)) (f_share_in_1)
def F_share_in := runP 1 2 f_share_in
def f_is_word : SF := sRet (eAnd (eCall isiD (aCons (eVar 0) (aCons (eC (.ty "str")) (aNil)))) (eOp inA (eVar 0) (eVar 1)))
def F_is_word := runP 2 2 f_is_word
def f_words_between_1 : SF := sRet (eIf (tAnd (tVal (eCall (callP F_is_word) (aCons (eOp ixA (eVar 0) (eC (.int 13))) (aCons (eC (.tup [.str "half", .str "open", .str "trial"])) (aNil))))) (tVal (eCall (callP F_is_word) (aCons (eOp ixA (eVar 0) (eC (.int 18))) (aCons (eC (.tup [.str "fault", .str "no", .str "out"])) (aNil)))))) (eVar 1) (eLst (aNil)))
def f_words_between_2 : SF := sSeq (sFor (iZpM (aCons (eTup (aCons (eC (.int 0)) (aCons (eC (.int 2)) (aCons (eC (.int 4)) (aCons (eC (.int 6)) (aCons (eC (.int 8)) (aCons (eC (.int 10)) (aCons (eC (.int 12)) (aCons (eC (.int 14)) (aCons (eC (.int 17)) (aNil))))))))))) (aCons (eM1 splitD (eC (.str "leave of out more most calm back share hears")) (eC (.str " "))) (aNil)))) (gTgt (.many [2, 3])) (sAsg (eVar 3) (gSetA (eVar 1) (eVar 2)))) (f_words_between_1)
def f_words_between : SF := sSeq (sAsg (eLisN (eVar 0)) (gNm 1)) (f_words_between_2)
def F_words_between := runP 1 4 f_words_between
def f_is_integer : SF := sRet (eAnd (eCall isiD (aCons (eVar 0) (aCons (eC (.ty "int")) (aNil)))) (eNot (eCall isiD (aCons (eVar 0) (aCons (eC (.ty "bool")) (aNil))))))
def F_is_integer := runP 1 1 f_is_integer
def f_is_from : SF := sRet (eAnd (eCall (callP F_is_integer) (aCons (eVar 0) (aNil))) (eOp geD (eVar 0) (eVar 1)))
def F_is_from := runP 2 2 f_is_from
def f_is_number : SF := sRet (eAnd (eCall (callP F_is_integer) (aCons (eVar 0) (aNil))) (eOp geD (eVar 0) (eC (.int 0))))
def F_is_number := runP 1 1 f_is_number
def f_wrong_number_1 : SF := sRet (eIf (tVal (eCall (callP F_is_number) (aCons (eVar 5) (aNil)))) (eC .non) (eC (.str "calm")))
def f_wrong_number_2 : SF := sSeq (sIf (tNot (tVal (eCall (callP F_is_from) (aCons (eVar 4) (aCons (eVar 2) (aNil)))))) (sRet (eC (.str "most"))) (sNop)) (f_wrong_number_1)
def f_wrong_number_3 : SF := sSeq (sIf (tNot (tVal (eCall (callP F_is_number) (aCons (eVar 3) (aNil))))) (sRet (eC (.str "more"))) (sNop)) (f_wrong_number_2)
def f_wrong_number_4 : SF := sSeq (sIf (tNot (tVal (eCall (callP F_is_from) (aCons (eVar 2) (aCons (eC (.int 1)) (aNil)))))) (sRet (eC (.str "base"))) (sNop)) (f_wrong_number_3)
def f_wrong_number_5 : SF := sSeq (sIf (tNot (tVal (eCall (callP F_is_from) (aCons (eVar 1) (aCons (eVar 0) (aNil)))))) (sRet (eC (.str "of"))) (sNop)) (f_wrong_number_4)
def f_wrong_number : SF := sSeq (sIf (tNot (tVal (eCall (callP F_is_from) (aCons (eVar 0) (aCons (eC (.int 1)) (aNil)))))) (sRet (eC (.str "need"))) (sNop)) (f_wrong_number_5)
def F_wrong_number := runP 6 6 f_wrong_number
def f_wrong_word_1 : SF := sRet (eIf (tVal (eCall (callP F_is_word) (aCons (eVar 4) (aCons (eC (.tup [.str "fault", .str "no", .str "out"])) (aNil))))) (eC .non) (eC (.str "hears")))
def f_wrong_word_2 : SF := sSeq (sIf (tNot (tVal (eCall isiD (aCons (eVar 3) (aCons (eC (.ty "bool")) (aNil)))))) (sRet (eC (.str "up"))) (sNop)) (f_wrong_word_1)
def f_wrong_word_3 : SF := sSeq (sIf (tOr (tNot (tVal (eCall (callP F_is_integer) (aCons (eVar 2) (aNil))))) (tOr (tVal (eOp ltD (eVar 2) (eC (.int 1)))) (tVal (eOp ltD (eVar 2) (eVar 1))))) (sRet (eC (.str "under"))) (sNop)) (f_wrong_word_2)
def f_wrong_word_4 : SF := sSeq (sIf (tNot (tVal (eCall (callP F_is_number) (aCons (eVar 1) (aNil))))) (sRet (eC (.str "top"))) (sNop)) (f_wrong_word_3)
def f_wrong_word : SF := sSeq (sIf (tNot (tVal (eCall (callP F_is_word) (aCons (eVar 0) (aCons (eC (.tup [.str "half", .str "open", .str "trial"])) (aNil)))))) (sRet (eC (.str "back"))) (sNop)) (f_wrong_word_4)
def F_wrong_word := runP 5 5 f_wrong_word
def f_Rule___init___1 : SF := sFldM ["Rule"] "cap" (eVar 0) (eIf (tVal (eOp eqD (eVar 4) (eC (.int 0)))) (eC (.int 1)) (eOp addD (eC (.int 1)) (eOp fdivD (eOp subD (eOp addD (eOp subD (eVar 5) (eVar 3)) (eVar 4)) (eC (.int 1))) (eVar 4))))
def f_Rule___init___2 : SF := sSeq (sFldM ["Rule"] "hears" (eVar 0) (eVar 11)) (f_Rule___init___1)
def f_Rule___init___3 : SF := sSeq (sFldM ["Rule"] "up" (eVar 0) (eVar 10)) (f_Rule___init___2)
def f_Rule___init___4 : SF := sSeq (sFldM ["Rule"] "under" (eVar 0) (eVar 9)) (f_Rule___init___3)
def f_Rule___init___5 : SF := sSeq (sFldM ["Rule"] "top" (eVar 0) (eVar 8)) (f_Rule___init___4)
def f_Rule___init___6 : SF := sSeq (sFldM ["Rule"] "back" (eVar 0) (eVar 7)) (f_Rule___init___5)
def f_Rule___init___7 : SF := sSeq (sFldM ["Rule"] "calm" (eVar 0) (eVar 6)) (f_Rule___init___6)
def f_Rule___init___8 : SF := sSeq (sFldM ["Rule"] "most" (eVar 0) (eVar 5)) (f_Rule___init___7)
def f_Rule___init___9 : SF := sSeq (sFldM ["Rule"] "more" (eVar 0) (eVar 4)) (f_Rule___init___8)
def f_Rule___init___10 : SF := sSeq (sFldM ["Rule"] "base" (eVar 0) (eVar 3)) (f_Rule___init___9)
def f_Rule___init___11 : SF := sSeq (sFldM ["Rule"] "of" (eVar 0) (eVar 2)) (f_Rule___init___10)
def f_Rule___init___12 : SF := sSeq (sFldM ["Rule"] "need" (eVar 0) (eVar 1)) (f_Rule___init___11)
def f_Rule___init___13 : SF := sSeq (sIf (tVal (eNotN (eVar 12))) (sNo) (sNop)) (f_Rule___init___12)
def f_Rule___init___14 : SF := sSeq (sIf (tVal (eIsN (eVar 12))) (sAsg (eCall (callP F_wrong_word) (aCons (eVar 7) (aCons (eVar 8) (aCons (eVar 9) (aCons (eVar 10) (aCons (eVar 11) (aNil))))))) (gNm 12)) (sNop)) (f_Rule___init___13)
def f_Rule___init__ : SF := sSeq (sAsg (eCall (callP F_wrong_number) (aCons (eVar 1) (aCons (eVar 2) (aCons (eVar 3) (aCons (eVar 4) (aCons (eVar 5) (aCons (eVar 6) (aNil)))))))) (gNm 12)) (f_Rule___init___14)
def F_Rule___init__ := runM 12 13 f_Rule___init__
def f_Rule_read_1 : SF := sRet (eNewPL 0 "Rule" F_Rule___init__ (aStar (eVar 3) (aCons (eVar 5) (aStar (eVar 4) (aCons (eVar 6) (aCons (eVar 7) (aNil)))))))
def f_Rule_read_2 : SF := sSeq (sPar [5, 6, 7] (aCons (eOp ixA (eVar 2) (eC (.int 13))) (aCons (eTbl tb_ROUNDS (eOp ixA (eVar 2) (eC (.int 16)))) (aCons (eOp ixA (eVar 2) (eC (.int 18))) (aNil))))) (f_Rule_read_1)
def f_Rule_read_3 : SF := sSeq (sIf (tVal (eOp neD (eVar 2) (eCall (callP F_words_between) (aCons (eVar 2) (aNil))))) (sNo) (sNop)) (f_Rule_read_2)
def f_Rule_read_4 : SF := sSeq (sIf (tOr (tVal (eIsN (eVar 3))) (tOr (tVal (eIsN (eVar 4))) (tVal (eTblNin tb_ROUNDS (eOp ixA (eVar 2) (eC (.int 16))))))) (sNo) (sNop)) (f_Rule_read_3)
def f_Rule_read_5 : SF := sSeq (sAsg (eCall (callP F_share_in) (aCons (eOp ixA (eVar 2) (eC (.int 15))) (aNil))) (gNm 4)) (f_Rule_read_4)
def f_Rule_read_6 : SF := sSeq (sAsg (eCall (callP F_numbers_in) (aCons (eLc (iIt (eTup (aCons (eC (.int 1)) (aCons (eC (.int 3)) (aCons (eC (.int 5)) (aCons (eC (.int 7)) (aCons (eC (.int 9)) (aCons (eC (.int 11)) (aNil))))))))) (.one 8) (tTrue) (eOp ixA (eVar 2) (eVar 8))) (aNil))) (gNm 3)) (f_Rule_read_5)
def f_Rule_read_7 : SF := sSeq (sIf (tVal (eOp neD (eCall lenD (aCons (eVar 2) (aNil))) (eC (.int 19)))) (sNo) (sNop)) (f_Rule_read_6)
def f_Rule_read : SF := sSeq (sAsg (eM1 splitD (eVar 1) (eC (.str " "))) (gNm 2)) (f_Rule_read_7)
def F_Rule_read := runP 2 9 f_Rule_read
def f__law_pick : SF := sRet (eOp ixA (eVar 1) (eCallM F__law_take (aCons (eVar 0) (aCons (eCall lenD (aCons (eVar 1) (aNil))) (aNil)))))
def F__law_pick := runM 2 2 f__law_pick
def f_need_goal : SF := sIf (tOr (tNot (tVal (eCall isiD (aCons (eVar 0) (aCons (eC (.ty "str")) (aNil)))))) (tVal (eOp ninA (eVar 0) (eC (.tup [.str "all", .str "kept", .str "swap"]))))) (sNo) (sNop)
def F_need_goal := runP 1 1 f_need_goal
def f_up_to : SF := sRet (eUn negD (eOp fdivD (eUn negD (eVar 0)) (eVar 1)))
def F_up_to := runP 2 2 f_up_to
def f_least_short : SF := sRet (eIf (tVal (eFld ["Rule"] "up" (eVar 0))) (eCall (callP F_up_to) (aCons (eFld ["Rule"] "under" (eVar 0)) (aCons (eOp subD (eFld ["Rule"] "under" (eVar 0)) (eFld ["Rule"] "top" (eVar 0))) (aNil)))) (eC (.int 1)))
def F_least_short := runP 1 1 f_least_short
def f_Rule_time : SF := sRet (eCall min2D (aCons (eCall intD (aCons (eOp addD (eFld ["Rule"] "base" (eVar 0)) (eOp mulD (eFld ["Rule"] "more" (eVar 0)) (eOp subD (eVar 1) (eC (.int 1))))) (aNil))) (aCons (eCall intD (aCons (eFld ["Rule"] "most" (eVar 0)) (aNil))) (aNil))))
def F_Rule_time := runP 2 2 f_Rule_time
def f_is_lasting : SF := sRet (eOr (eOp eqD (eFld ["Rule"] "back" (eVar 0)) (eC (.str "trial"))) (eOp gtD (eMth "Rule" "time" (callP F_Rule_time) (eVar 0) (aCons (eFld ["Rule"] "cap" (eVar 0)) (aNil))) (eC (.int 1))))
def F_is_lasting := runP 1 1 f_is_lasting
def f_is_missable : SF := sRet (eOr (eCall (callP F_is_lasting) (aCons (eVar 0) (aNil))) (eOp neD (eFld ["Rule"] "hears" (eVar 0)) (eC (.str "no"))))
def F_is_missable := runP 1 1 f_is_missable
def f_numbers_1 : SF := sRet (eIf (tAnd (tVal (eFld ["Rule"] "up" (eVar 0))) (tVal (eOp gtD (eFld ["Rule"] "top" (eVar 0)) (eC (.int 0))))) (eTup (aCons (eC (.int 1)) (aCons (eOp subD (eCall (callP F_least_short) (aCons (eVar 0) (aNil))) (eC (.int 1))) (aNil)))) (eC .non))
def f_numbers_2 : SF := sRet (eTup (aCons (eIf (tOr (tVal (eOp eqD (eVar 1) (eC (.str "kept")))) (tVal (eFld ["Rule"] "up" (eVar 0)))) (eVar 3) (eCall (callP F_up_to) (aCons (eFld ["Rule"] "under" (eVar 0)) (aCons (eFld ["Rule"] "top" (eVar 0)) (aNil))))) (aCons (eC .non) (aNil))))
def f_numbers_3 : SF := sSeq (sAsg (eCall (callP F_least_short) (aCons (eVar 0) (aNil))) (gNm 3)) (f_numbers_2)
def f_numbers_4 : SF := sSeq (sIf (tOr (tVal (eVar 2)) (tAnd (tVal (eOp eqD (eVar 1) (eC (.str "swap")))) (tOr (tVal (eOp eqD (eFld ["Rule"] "top" (eVar 0)) (eC (.int 0)))) (tNot (tVal (eCall (callP F_is_missable) (aCons (eVar 0) (aNil)))))))) (sRet (eC .non)) (sNop)) (f_numbers_3)
def f_numbers_5 : SF := sSeq (sIf (tVal (eOp eqD (eVar 1) (eC (.str "all")))) (sSeq (sIf (tVal (eVar 2)) (sRet (eTup (aCons (eC (.int 1)) (aCons (eC .non) (aNil))))) (sNop)) (f_numbers_1)) (sNop)) (f_numbers_4)
def f_numbers_6 : SF := sSeq (sAsg (eOp eqD (eFld ["Rule"] "top" (eVar 0)) (eFld ["Rule"] "under" (eVar 0))) (gNm 2)) (f_numbers_5)
def f_numbers : SF := sSeq (sDrop (eCall (callP F_need_goal) (aCons (eVar 1) (aNil)))) (f_numbers_6)
def F_numbers := runP 2 4 f_numbers
def f_law_1 : SF := sIf (tVal (eOp neD (eCall (callP F_numbers) (aCons (eCall (callP fun ds => F_Rule_read (.glo "Rule" :: ds)) (aCons (eOp addD (eOp addD (eOp addD (eOp addD (eVar 8) (eC (.str " share "))) (eVar 4)) (eC (.str " hears "))) (eVar 11)) (aNil))) (aCons (eC (.str "swap")) (aNil)))) (eOp ixA (eVar 6) (eC (.int 2))))) (sRet (eC (.bl false))) (sNop)
def f_law_2 : SF := sIf (tVal (eOp neD (eCall (callP F_numbers) (aCons (eCall (callP fun ds => F_Rule_read (.glo "Rule" :: ds)) (aCons (eOp addD (eOp addD (eOp addD (eVar 8) (eC (.str " share "))) (eVar 4)) (eC (.str " hears no"))) (aNil))) (aCons (eC (.str "swap")) (aNil)))) (eOp ixA (eVar 6) (eC (.int 2))))) (sRet (eC (.bl false))) (sNop)
def f_law_3 : SF := sSeq (sAsg (eOp addD (eC (.str "leave 1 of 1 out 1 more 1 most 2 calm 0 back ")) (eVar 5)) (gNm 8)) (f_law_2)
def f_law_4 : SF := sSeq (sFor (iIt (eTup (aCons (eC (.str "fault")) (aCons (eC (.str "out")) (aNil))))) (gTgt (.one 11)) (f_law_1)) (f_law_3)
def f_law_5 : SF := sSeq (sIf (tVal (eOp neD (eTup (aCons (eCall (callP F_numbers) (aCons (eVar 10) (aCons (eC (.str "all")) (aNil)))) (aCons (eCall (callP F_numbers) (aCons (eVar 10) (aCons (eC (.str "kept")) (aNil)))) (aNil)))) (eSl (eVar 6) (oNo) (oYes (eC (.int 2)))))) (sRet (eC (.bl false))) (sNop)) (f_law_4)
def f_law_6 : SF := sSeq (sIf (tVal (eOp neD (eCall (callP F_numbers) (aCons (eVar 10) (aCons (eC (.str "swap")) (aNil)))) (eIf (tVal (eOp eqD (eVar 5) (eC (.str "trial")))) (eOp ixA (eVar 6) (eC (.int 2))) (eC .non)))) (sRet (eC (.bl false))) (sNop)) (f_law_5)
def f_law_7 : SF := sSeq (sAsg (eCall (callP fun ds => F_Rule_read (.glo "Rule" :: ds)) (aCons (eOp addD (eOp addD (eOp addD (eVar 8) (eC (.str " share "))) (eVar 4)) (eC (.str " hears no"))) (aNil))) (gNm 10)) (f_law_6)
def f_law_8 : SF := sSeq (sAsg (eOp addD (eC (.str "leave 1 of 1 out 1 more 0 most 5 calm 0 back ")) (eVar 5)) (gNm 8)) (f_law_7)
def f_law_9 : SF := sSeq (sIf (tVal (eOp neD (eTup (aCons (eCall (callP F_numbers) (aCons (eVar 9) (aCons (eC (.str "all")) (aNil)))) (aCons (eCall (callP F_numbers) (aCons (eVar 9) (aCons (eC (.str "kept")) (aNil)))) (aCons (eCall (callP F_numbers) (aCons (eVar 9) (aCons (eC (.str "swap")) (aNil)))) (aNil))))) (eVar 6))) (sRet (eC (.bl false))) (sNop)) (f_law_8)
def f_law_10 : SF := sSeq (sAsg (eCall (callP fun ds => F_Rule_read (.glo "Rule" :: ds)) (aCons (eOp addD (eOp addD (eOp addD (eOp addD (eVar 8) (eC (.str " share "))) (eVar 4)) (eC (.str " hears "))) (eCallM F__law_pick (aCons (eVar 3) (aCons (eLst (aCons (eC (.str "no")) (aCons (eC (.str "fault")) (aCons (eC (.str "out")) (aNil))))) (aNil))))) (aNil))) (gNm 9)) (f_law_9)
def f_law_11 : SF := sSeq (sAsg (eOp addD (eOp addD (eVar 8) (eC (.str " calm 1 back "))) (eVar 5)) (gNm 8)) (f_law_10)
def f_law_12 : SF := sSeq (sAsg (eOp addD (eOp addD (eOp addD (eC (.str "leave 2 of 3 out ")) (eCall strD (aCons (eVar 7) (aNil)))) (eC (.str " more 0 most "))) (eCall strD (aCons (eVar 7) (aNil)))) (gNm 8)) (f_law_11)
def f_law_13 : SF := sSeq (sAsg (eOp addD (eC (.int 2)) (eCallM F__law_take (aCons (eVar 3) (aCons (eC (.int 4)) (aNil))))) (gNm 7)) (f_law_12)
def f_law_14 : SF := sForA big (eCallM F__law_shuffled (aCons (eVar 3) (aCons (eVar 1) (aNil)))) (gTgt (.many [4, 5, 6])) (f_law_13)
def f_law_15 : SF := sSeq (sAsg (eCallM F__law_box (aCons (eVar 0) (aCons (eVar 2) (aNil)))) (gNm 3)) (f_law_14)
def f_law_16 : SF := sSeq (sFor (iR1 (aCons (eCall max2D (aCons (eC (.int 1)) (aCons (eCall min2D (aCons (eC (.int 3)) (aCons (eCall lenD (aCons (eVar 0) (aNil))) (aNil)))) (aNil)))) (aNil))) (gTgt (.one 2)) (f_law_15)) (sRet (eC (.bl true)))
def f_law_17 : SF := sSeq (sDrop (eLm0 (fun _ => appL) (eVar 1) (aCons (eTup (aCons (eC (.str "2/3 down")) (aCons (eC (.str "open")) (aCons (eTup (aCons (eC .non) (aCons (eTup (aCons (eC (.int 1)) (aCons (eC .non) (aNil)))) (aCons (eTup (aCons (eC (.int 2)) (aCons (eC .non) (aNil)))) (aNil))))) (aNil))))) (aNil)))) (f_law_16)
def f_law_18 : SF := sSeq (sDrop (eLm0 (fun _ => appL) (eVar 1) (aCons (eTup (aCons (eC (.str "2/3 up")) (aCons (eC (.str "open")) (aCons (eTup (aCons (eTup (aCons (eC (.int 1)) (aCons (eC (.int 2)) (aNil)))) (aCons (eTup (aCons (eC (.int 3)) (aCons (eC .non) (aNil)))) (aCons (eTup (aCons (eC (.int 3)) (aCons (eC .non) (aNil)))) (aNil))))) (aNil))))) (aNil)))) (f_law_17)
def f_law_19 : SF := sSeq (sDrop (eLm0 (fun _ => appL) (eVar 1) (aCons (eTup (aCons (eC (.str "2/4 up")) (aCons (eC (.str "half")) (aCons (eTup (aCons (eTup (aCons (eC (.int 1)) (aCons (eC (.int 1)) (aNil)))) (aCons (eTup (aCons (eC (.int 2)) (aCons (eC .non) (aNil)))) (aCons (eTup (aCons (eC (.int 2)) (aCons (eC .non) (aNil)))) (aNil))))) (aNil))))) (aNil)))) (f_law_18)
def f_law_20 : SF := sSeq (sDrop (eLm0 (fun _ => appL) (eVar 1) (aCons (eTup (aCons (eC (.str "1/1 up")) (aCons (eC (.str "trial")) (aCons (eTup (aCons (eTup (aCons (eC (.int 1)) (aCons (eC .non) (aNil)))) (aCons (eC .non) (aCons (eC .non) (aNil))))) (aNil))))) (aNil)))) (f_law_19)
def f_law_21 : SF := sSeq (sDrop (eLm0 (fun _ => appL) (eVar 1) (aCons (eTup (aCons (eC (.str "5/5 down")) (aCons (eC (.str "open")) (aCons (eTup (aCons (eTup (aCons (eC (.int 1)) (aCons (eC .non) (aNil)))) (aCons (eC .non) (aCons (eC .non) (aNil))))) (aNil))))) (aNil)))) (f_law_20)
def f_law_22 : SF := sSeq (sDrop (eLm0 (fun _ => appL) (eVar 1) (aCons (eTup (aCons (eC (.str "0/1 down")) (aCons (eC (.str "trial")) (aCons (eTup (aCons (eC .non) (aCons (eTup (aCons (eC (.int 1)) (aCons (eC .non) (aNil)))) (aCons (eC .non) (aNil))))) (aNil))))) (aNil)))) (f_law_21)
def f_law_23 : SF := sSeq (sDrop (eLm0 (fun _ => appL) (eVar 1) (aCons (eTup (aCons (eC (.str "0/5 up")) (aCons (eC (.str "open")) (aCons (eTup (aCons (eC .non) (aCons (eTup (aCons (eC (.int 1)) (aCons (eC .non) (aNil)))) (aCons (eC .non) (aNil))))) (aNil))))) (aNil)))) (f_law_22)
def f_law_24 : SF := sSeq (sDrop (eLm0 (fun _ => appL) (eVar 1) (aCons (eTup (aCons (eC (.str "1/20 down")) (aCons (eC (.str "trial")) (aCons (eTup (aCons (eC .non) (aCons (eTup (aCons (eC (.int 1)) (aCons (eC .non) (aNil)))) (aCons (eTup (aCons (eC (.int 20)) (aCons (eC .non) (aNil)))) (aNil))))) (aNil))))) (aNil)))) (f_law_23)
def f_law_25 : SF := sSeq (sDrop (eLm0 (fun _ => appL) (eVar 1) (aCons (eTup (aCons (eC (.str "19/20 up")) (aCons (eC (.str "trial")) (aCons (eTup (aCons (eTup (aCons (eC (.int 1)) (aCons (eC (.int 19)) (aNil)))) (aCons (eTup (aCons (eC (.int 20)) (aCons (eC .non) (aNil)))) (aCons (eTup (aCons (eC (.int 20)) (aCons (eC .non) (aNil)))) (aNil))))) (aNil))))) (aNil)))) (f_law_24)
def f_law_26 : SF := sSeq (sDrop (eLm0 (fun _ => appL) (eVar 1) (aCons (eTup (aCons (eC (.str "3/4 up")) (aCons (eC (.str "half")) (aCons (eTup (aCons (eTup (aCons (eC (.int 1)) (aCons (eC (.int 3)) (aNil)))) (aCons (eTup (aCons (eC (.int 4)) (aCons (eC .non) (aNil)))) (aCons (eTup (aCons (eC (.int 4)) (aCons (eC .non) (aNil)))) (aNil))))) (aNil))))) (aNil)))) (f_law_25)
def f_law_27 : SF := sSeq (sDrop (eLm0 (fun _ => appL) (eVar 1) (aCons (eTup (aCons (eC (.str "3/4 down")) (aCons (eC (.str "half")) (aCons (eTup (aCons (eC .non) (aCons (eTup (aCons (eC (.int 1)) (aCons (eC .non) (aNil)))) (aCons (eTup (aCons (eC (.int 2)) (aCons (eC .non) (aNil)))) (aNil))))) (aNil))))) (aNil)))) (f_law_26)
def f_law : SF := sSeq (sAsg (eNewL (aCons (eTup (aCons (eC (.str "1/2 down")) (aCons (eC (.str "open")) (aCons (eTup (aCons (eC .non) (aCons (eTup (aCons (eC (.int 1)) (aCons (eC .non) (aNil)))) (aCons (eTup (aCons (eC (.int 2)) (aCons (eC .non) (aNil)))) (aNil))))) (aNil))))) (aCons (eTup (aCons (eC (.str "1/2 up")) (aCons (eC (.str "open")) (aCons (eTup (aCons (eTup (aCons (eC (.int 1)) (aCons (eC (.int 1)) (aNil)))) (aCons (eTup (aCons (eC (.int 2)) (aCons (eC .non) (aNil)))) (aCons (eTup (aCons (eC (.int 2)) (aCons (eC .non) (aNil)))) (aNil))))) (aNil))))) (aNil)))) (gNm 1)) (f_law_27)
def F_law := runP 1 12 f_law
end L4
namespace L4
open PySem
theorem take_ok {m : M} {b : Nat} {x0 x1 x2 n : Int} (hb : m[b]? = some (.lst [.int x0, .int x1, .int x2])) (h0 : 0 < n) (h1 : n < 1073741824) :
    ∃ k y0 y1 y2, F__law_take [.ref b, .int n] m = some (.int k, m.set b (.lst [.int y0, .int y1, .int y2])) ∧ 0 ≤ k ∧ k < n := by
  have hl : b < m.length := (List.getElem?_eq_some_iff.mp hb).1
  by_cases hx : 0 < x0
  · refine ⟨x0 % n, x0 / n, x1, x2, ?_, Int.emod_nonneg _ (by omega), Int.emod_lt_of_pos _ h0⟩
    simp [F__law_take, f__law_take, f__law_take_1, f__law_take_2, f__law_take_3, f__law_take_4, f__law_take_5, runM, sSeq, sIf, tVal, eOp, eVar, eC, startD, ixA_ref hb, L2.atI, L2.ixN, gtD, hx, sAsg, modD, intD, eCall, aCons, aNil, fdivD, h0, h1, gNm, gSetA, setM_ref hb, sRet, endM]
  · have hs : ∀ o, (m.set b o)[b]? = some o := fun o => List.getElem?_set_self hl
    have h2 : ∀ ds i, ixA (m.set b (.lst ds)) (.ref b) (.int i) = L2.atI ds i := fun ds i => ixA_ref (hs _)
    have h3 : ∀ ds i d, setM (m.set b (.lst ds)) (.ref b) (.int i) d = (L2.ixN ds.length i).map fun j => m.set b (.lst (ds.set j d)) := fun ds i d => by rw [setM_ref (hs _)]; simp
    refine ⟨(((x1 + 98641 * (x2 + 1)) * 70381 % 2147483647) * 2147483647 + (((x1 + 98641 * (x2 + 1)) * 70381 % 2147483647) * 46021 + 28051) % 2147483629 + 1) / 8191 % n, x0, (((x1 + 98641 * (x2 + 1)) * 70381 % 2147483647) * 46021 + 28051) % 2147483629 + 1, x2 + 1, ?_, Int.emod_nonneg _ (by omega), Int.emod_lt_of_pos _ h0⟩
    simp [F__law_take, f__law_take, f__law_take_1, f__law_take_2, f__law_take_3, f__law_take_4, f__law_take_5, runM, sSeq, sIf, tVal, eOp, eVar, eC, startD, ixA_ref hb, h2, h3, L2.atI, L2.ixN, gtD, hx, sAsg, modD, intD, eCall, aCons, aNil, fdivD, h0, gNm, gSetA, setM_ref hb, sRet, endM, addD, sNop, mulD, Int.add_assoc]
def bx0 (g : Int) : Int := if 1000000000000000000 ≤ g then g else 0
theorem box_tail {ds : List D} {k g : Int} (m : M) : f__law_box_2 [some (.scr ds), some (.int k), some (.int g), none] m = some (.rt (.ref m.length), m ++ [.lst [.int (bx0 g), .int ((g % 2147483629 * 45427 + 38201 * k + 17) % 2147483629 + 1), .int 0]]) := by
  simp [f__law_box_1, f__law_box_2, sSeq, eOp, eVar, eC, sAsg, modD, intD, eCall, aCons, aNil, gNm, addD, mulD, sRet, eNewL, eLst, geD, pow18, at2, sz3, sz2, bx0]
theorem box_mid {ns : List Int} {k : Nat} {g0 : Int} (m : M) : ∃ g : Int, f__law_box_3 [some (.scr (ns.map D.int)), some (.int k), some (.int g0), none] m = f__law_box_2 [some (.scr (ns.map D.int)), some (.int k), some (.int g), none] m := by
  by_cases h1 : k < ns.length
  · refine ⟨if ns[k] < 0 then -ns[k] else ns[k], ?_⟩
    simp [f__law_box_3, sSeq, sIf, tVal, eOp, eVar, eC, sAsg, intD, eCall, aCons, aNil, gNm, ltD, cmpI, lenD_scr, ixA_scr, atI_ints h1, absD, h1]
  · by_cases h2 : 0 < ns.length
    · have h3 : k % ns.length < ns.length := Nat.mod_lt _ h2
      have h4 : ((k : Int) % (ns.length : Int)) = ((k % ns.length : Nat) : Int) := by simp
      have h5 : (0 : Int) < (ns.length : Int) := by omega
      have h6 : L2.atI (ns.map D.int) ((k : Int) % (ns.length : Int)) = some (.int ns[k % ns.length]) := by rw [h4]; exact atI_ints h3
      refine ⟨g0 + ns[k % ns.length] % 2147483629 * 82373, ?_⟩
      simp [f__law_box_3, sSeq, sIf, tVal, eOp, eVar, eC, sAsg, intD, eCall, aCons, aNil, gNm, ltD, gtD, cmpI, lenD_scr, ixA_scr, h6, absD, h1, h2, h5, modD, addD, mulD]
    · refine ⟨g0, ?_⟩
      have h5 : ¬ (0 : Int) < (ns.length : Int) := by omega
      have h6 : ¬ (k : Int) < (ns.length : Int) := by omega
      simp [f__law_box_3, sSeq, sIf, tVal, eOp, eVar, eC, sAsg, eCall, aCons, aNil, gNm, ltD, gtD, cmpI, lenD_scr, h1, h2, h5, h6, sNop]
theorem box_ok {ns : List Int} {k : Nat} (m : M) : ∃ x0 x1 x2, F__law_box [.scr (ns.map D.int), .int k] m = some (.ref m.length, m ++ [.lst [.int x0, .int x1, .int x2]]) := by
  obtain ⟨g, hg⟩ := box_mid (ns := ns) (k := k) (g0 := 6421 * k + 71) m
  refine ⟨bx0 g, (g % 2147483629 * 45427 + 38201 * k + 17) % 2147483629 + 1, 0, ?_⟩
  have e : f__law_box (startD 4 [.scr (ns.map D.int), .int k]) m = f__law_box_3 [some (.scr (ns.map D.int)), some (.int k), some (.int (6421 * k + 71)), none] m := by
    simp [f__law_box, sSeq, sAsg, eOp, eVar, eC, startD, mulD, addD, gNm]
  unfold F__law_box runM
  rw [e, hg, box_tail]
  rfl
theorem shuf_turn {ρ : Ss} {m : M} {b r f : Nat} {x0 x1 x2 : Int} {rest found : List D} (h0 : ρ[0]? = some (some (.ref b))) (h2 : ρ[2]? = some (some (.ref r))) (h3 : ρ[3]? = some (some (.ref f))) (hbr : b ≠ r) (hbf : b ≠ f) (hrf : r ≠ f)
    (hb : m[b]? = some (.lst [.int x0, .int x1, .int x2])) (hr : m[r]? = some (.lst rest)) (hf : m[f]? = some (.lst found)) (hn : rest ≠ []) (hz : rest.length < 1000) (hz2 : found.length < 1000) :
    ∃ y0 y1 y2 k d, f__law_shuffled_1 ρ m = some (.nx ρ, ((m.set b (.lst [.int y0, .int y1, .int y2])).set r (.lst (rest.eraseIdx k))).set f (.lst (found ++ [d]))) ∧ rest[k]? = some d := by
  have hp : 0 < rest.length := List.length_pos_iff.mpr hn
  obtain ⟨k, y0, y1, y2, ht, hk0, hk1⟩ := take_ok (n := (rest.length : Int)) hb (by omega) (by omega)
  have hkn : k.toNat < rest.length := by omega
  have hq : seqIndex? k rest.length = some k.toNat := seqIndex_of hk0 hk1
  have hsz : found.length < sizeLine := by rw [sizeLine_eq]; omega
  refine ⟨y0, y1, y2, k.toNat, rest[k.toNat], ?_, List.getElem?_eq_getElem hkn⟩
  have g0 : ρ.getD 0 none = some (.ref b) := by rw [List.getD_eq_getElem?_getD, h0]; rfl
  have g2 : ρ.getD 2 none = some (.ref r) := by rw [List.getD_eq_getElem?_getD, h2]; rfl
  have g3 : ρ.getD 3 none = some (.ref f) := by rw [List.getD_eq_getElem?_getD, h3]; rfl
  have e1 : (m.set b (.lst [.int y0, .int y1, .int y2]))[r]? = some (.lst rest) := by rw [List.getElem?_set_ne hbr]; exact hr
  have e2 : ((m.set b (.lst [.int y0, .int y1, .int y2])).set r (.lst (rest.eraseIdx k.toNat)))[f]? = some (.lst found) := by rw [List.getElem?_set_ne hrf, List.getElem?_set_ne hbf]; exact hf
  have p1 : popAtL rest [.int k] = some (rest[k.toNat], rest.eraseIdx k.toNat) := by
    have c : -(2 ^ 63) ≤ k ∧ k < 2 ^ 63 := by omega
    simp only [popAtL, if_pos c, hq, List.getElem?_eq_getElem hkn]
  simp only [f__law_shuffled_1, sDrop, eLm0, eVar, g0, g2, g3, pu_go, bd_go, hf, hr, aCons, aNil, eCallM, eCall, lenD_ref hr, ht, e1, p1, Option.map_some, e2, appL, if_pos hsz]
end L4

namespace L4
open PySem
/-! the cases of k37 and what reading their texts gives -/
def same : D → D → Bool
  | .non, .non => true
  | .tup [.int a, .non], .tup [.int b, .non] => a == b
  | .tup [.int a, .int c], .tup [.int b, .int d] => a == b && c == d
  | _, _ => false
theorem same_eq {x y : D} (h : same x y = true) : x = y := by
  unfold same at h
  split at h
  · rfl
  · simp at h; rw [h]
  · simp at h; rw [h.1, h.2]
  · cases h
def rd (t : Str) : Option D := F_Rule_read [.glo "Rule", .str t]
def isO (o : Option D) (y : D) : Bool := match o with
  | some x => same x y
  | none => false
theorem isO_eq {o : Option D} {y : D} (h : isO o y = true) : o = some y := by
  unfold isO at h
  split at h
  · rw [same_eq h]
  · cases h
def nm3 (t : Str) (a b c : D) : Bool := decide (t.length ≤ 200) && match rd t with
  | some r => pureD r && (isO (F_numbers [r, .str "all"]) a && (isO (F_numbers [r, .str "kept"]) b && isO (F_numbers [r, .str "swap"]) c))
  | none => false
theorem nm3_ok {t : Str} {a b c : D} (h : nm3 t a b c = true) : t.length ≤ 200 ∧ ∃ r, F_Rule_read [.glo "Rule", .str t] = some r ∧ pureD r = true ∧ F_numbers [r, .str "all"] = some a ∧ F_numbers [r, .str "kept"] = some b ∧ F_numbers [r, .str "swap"] = some c := by
  unfold nm3 at h
  rw [Bool.and_eq_true, decide_eq_true_eq] at h
  obtain ⟨h1, h2⟩ := h
  split at h2
  · next r hr =>
    simp only [Bool.and_eq_true] at h2
    exact ⟨h1, r, hr, h2.1, isO_eq h2.2.1, isO_eq h2.2.2.1, isO_eq h2.2.2.2⟩
  · cases h2
def tx1 (n : Int) (s b h : Str) : Str := catS (catS (catS (catS (catS (catS (catS (catS (catS "leave 2 of 3 out " (toString n)) " more 0 most ") (toString n)) " calm 1 back ") b) " share ") s) " hears ") h
def tx2 (s b : Str) : Str := catS (catS (catS (catS "leave 1 of 1 out 1 more 0 most 5 calm 0 back " b) " share ") s) " hears no"
def tx3 (s b h : Str) : Str := catS (catS (catS (catS (catS "leave 1 of 1 out 1 more 0 most 5 calm 0 back " b) " share ") s) " hears ") h
def tx4 (s b : Str) : Str := catS (catS (catS (catS "leave 1 of 1 out 1 more 1 most 2 calm 0 back " b) " share ") s) " hears no"
abbrev Cs := Str × Str × D × D × D
def css : List Cs := [("1/2 down", "open", .non, .tup [.int 1, .non], .tup [.int 2, .non]),
  ("1/2 up", "open", .tup [.int 1, .int 1], .tup [.int 2, .non], .tup [.int 2, .non]),
  ("3/4 down", "half", .non, .tup [.int 1, .non], .tup [.int 2, .non]),
  ("3/4 up", "half", .tup [.int 1, .int 3], .tup [.int 4, .non], .tup [.int 4, .non]),
  ("19/20 up", "trial", .tup [.int 1, .int 19], .tup [.int 20, .non], .tup [.int 20, .non]),
  ("1/20 down", "trial", .non, .tup [.int 1, .non], .tup [.int 20, .non]),
  ("0/5 up", "open", .non, .tup [.int 1, .non], .non),
  ("0/1 down", "trial", .non, .tup [.int 1, .non], .non),
  ("5/5 down", "open", .tup [.int 1, .non], .non, .non),
  ("1/1 up", "trial", .tup [.int 1, .non], .non, .non),
  ("2/4 up", "half", .tup [.int 1, .int 1], .tup [.int 2, .non], .tup [.int 2, .non]),
  ("2/3 up", "open", .tup [.int 1, .int 2], .tup [.int 3, .non], .tup [.int 3, .non]),
  ("2/3 down", "open", .non, .tup [.int 1, .non], .tup [.int 2, .non])]
def dOf (c : Cs) : D := .tup [.str c.1, .str c.2.1, .tup [c.2.2.1, c.2.2.2.1, c.2.2.2.2]]
def sw (b : Str) (c : D) : D := if b = "trial" then c else .non
theorem tab1 : (css.all fun c => [(2 : Int), 3, 4, 5].all fun n => [("no" : Str), "fault", "out"].all fun h => nm3 (tx1 n c.1 c.2.1 h) c.2.2.1 c.2.2.2.1 c.2.2.2.2) = true := by decide +kernel
def sm (t : Str) (c : D) : Bool := decide (t.length ≤ 200) && match rd t with
  | some r => pureD r && isO (F_numbers [r, .str "swap"]) c
  | none => false
theorem sm_ok {t : Str} {c : D} (h : sm t c = true) : t.length ≤ 200 ∧ ∃ r, F_Rule_read [.glo "Rule", .str t] = some r ∧ pureD r = true ∧ F_numbers [r, .str "swap"] = some c := by
  unfold sm at h
  rw [Bool.and_eq_true, decide_eq_true_eq] at h
  obtain ⟨h1, h2⟩ := h
  split at h2
  · next r hr =>
    simp only [Bool.and_eq_true] at h2
    exact ⟨h1, r, hr, h2.1, isO_eq h2.2⟩
  · cases h2
theorem tab2 : (css.all fun c => nm3 (tx2 c.1 c.2.1) c.2.2.1 c.2.2.2.1 (sw c.2.1 c.2.2.2.2)) = true := by decide +kernel
theorem tab3 : (css.all fun c => [("fault" : Str), "out"].all fun h => sm (tx3 c.1 c.2.1 h) c.2.2.2.2) = true := by decide +kernel
theorem tab4 : (css.all fun c => sm (tx4 c.1 c.2.1) c.2.2.2.2) = true := by decide +kernel
theorem catS_len (a b : Str) : (catS a b).length = a.length + b.length := by
  simp [catS, Str.length]
theorem addS {m : M} {a b : Str} (h : a.length + b.length ≤ 200) : addD m (.str a) (.str b) = some (.str (catS a b)) := by
  have : a.length + b.length ≤ sizeLine := by rw [sizeLine_eq]; omega
  simp only [addD, if_pos this]
theorem callP_pure {F : List D → Option D} {m : M} {ds : List D} (h : pureL ds = true) : callP F m ds = F ds := by simp only [callP, if_pos h]
theorem ne_pure {m : M} {x y : D} (hx : pureD x = true) (hy : pureD y = true) : neD m x y = neD [] x y := by
  simp only [neD, pdM, frz, if_pos hx, if_pos hy]
end L4

namespace L4
open PySem
structure Ok (s b : Str) (A B C : D) : Prop where
  t1 : ∀ n : Int, 2 ≤ n → n ≤ 5 → ∀ h : Str, (h = "no" ∨ h = "fault" ∨ h = "out") → nm3 (tx1 n s b h) A B C = true
  t2 : nm3 (tx2 s b) A B (sw b C) = true
  t3 : ∀ h : Str, (h = "fault" ∨ h = "out") → sm (tx3 s b h) C = true
  t4 : sm (tx4 s b) C = true
  pA : pureD A = true
  pB : pureD B = true
  pC : pureD C = true
  nC : neD [] C C = some (.bl false)
  nS : neD [] (sw b C) (sw b C) = some (.bl false)
  n2 : neD [] (.tup [A, B]) (.tup [A, B]) = some (.bl false)
  n3 : neD [] (.tup [A, B, C]) (.tup [A, B, C]) = some (.bl false)
  tr : eqD [] (.str b) (.str "trial") = some (.bl (decide (b = "trial")))
def lst5 (A B C : D) (b : Str) : Bool := pureD A && (pureD B && (pureD C && ((match neD [] C C with | some (.bl false) => true | _ => false) && ((match neD [] (sw b C) (sw b C) with | some (.bl false) => true | _ => false) && ((match neD [] (.tup [A, B]) (.tup [A, B]) with | some (.bl false) => true | _ => false) &&
  ((match neD [] (.tup [A, B, C]) (.tup [A, B, C]) with | some (.bl false) => true | _ => false) && (match eqD [] (.str b) (.str "trial") with | some (.bl x) => x == decide (b = "trial") | _ => false)))))))
theorem tab5 : (css.all fun c => lst5 c.2.2.1 c.2.2.2.1 c.2.2.2.2 c.2.1) = true := by decide +kernel
theorem isF {o : Option D} (h : (match o with | some (.bl false) => true | _ => false) = true) : o = some (.bl false) := by
  split at h
  · rfl
  · cases h
theorem isX {o : Option D} {y : Bool} (h : (match o with | some (.bl x) => x == y | _ => false) = true) : o = some (.bl y) := by
  split at h
  · rw [beq_iff_eq.mp h]
  · cases h
theorem ok_of {c : Cs} (hc : c ∈ css) : Ok c.1 c.2.1 c.2.2.1 c.2.2.2.1 c.2.2.2.2 := by
  have h1 := List.all_eq_true.mp tab1 c hc
  have h2 := List.all_eq_true.mp tab2 c hc
  have h3 := List.all_eq_true.mp tab3 c hc
  have h4 := List.all_eq_true.mp tab4 c hc
  have h5 := List.all_eq_true.mp tab5 c hc
  simp only [lst5, Bool.and_eq_true] at h5
  obtain ⟨a1, a2, a3, a4, a5, a6, a7, a8⟩ := h5
  refine ⟨fun n l u h hh => ?_, h2, fun h hh => ?_, h4, a1, a2, a3, isF a4, isF a5, isF a6, isF a7, isX a8⟩
  · have g := List.all_eq_true.mp h1 n (by
      have : n = 2 ∨ n = 3 ∨ n = 4 ∨ n = 5 := by omega
      rcases this with rfl | rfl | rfl | rfl <;> simp)
    exact List.all_eq_true.mp g h (by rcases hh with rfl | rfl | rfl <;> simp)
  · exact List.all_eq_true.mp h3 h (by rcases hh with rfl | rfl <;> simp)
variable {s b : Str} {A B C : D} {a0 a1 a2 a3 a7 a8 a9 a10 a11 : Option D} {m : M}
theorem law1 (k : Ok s b A B C) {h : Str} (hh : h = "fault" ∨ h = "out") :
    f_law_1 [a0, a1, a2, a3, some (.str s), some (.str b), some (.tup [A, B, C]), a7, some (.str (catS "leave 1 of 1 out 1 more 0 most 5 calm 0 back " b)), a9, a10, some (.str h)] m =
     some (.nx [a0, a1, a2, a3, some (.str s), some (.str b), some (.tup [A, B, C]), a7, some (.str (catS "leave 1 of 1 out 1 more 0 most 5 calm 0 back " b)), a9, a10, some (.str h)], m) := by
  obtain ⟨hl, r, e1, pr, e2⟩ := sm_ok (k.t3 h hh)
  have pl : pureL [r, .str "swap"] = true := by simp [pureL, pr, pureD]
  unfold tx3 at hl e1
  generalize catS "leave 1 of 1 out 1 more 0 most 5 calm 0 back " b = w at hl e1 ⊢
  have l4 := catS_len (catS (catS (catS w " share ") s) " hears ") h
  have l3 := catS_len (catS (catS w " share ") s) " hears "
  have l2 := catS_len (catS w " share ") s
  have l1 := catS_len w " share "
  have q1 : addD m (.str w) (.str " share ") = some (.str (catS w " share ")) := addS (by omega)
  have q2 : addD m (.str (catS w " share ")) (.str s) = some (.str (catS (catS w " share ") s)) := addS (by omega)
  have q3 : addD m (.str (catS (catS w " share ") s)) (.str " hears ") = some (.str (catS (catS (catS w " share ") s) " hears ")) := addS (by omega)
  have q4 : addD m (.str (catS (catS (catS w " share ") s) " hears ")) (.str h) = some (.str (catS (catS (catS (catS w " share ") s) " hears ") h)) := addS (by omega)
  have c1 : callP (fun ds => F_Rule_read (.glo "Rule" :: ds)) m [.str (catS (catS (catS (catS w " share ") s) " hears ") h)] = some r := by rw [callP_pure (by simp [pureL, pureD])]; exact e1
  have c2 : callP F_numbers m [r, .str "swap"] = some C := by rw [callP_pure pl]; exact e2
  have c3 : neD m C C = some (.bl false) := by rw [ne_pure k.pC k.pC]; exact k.nC
  have c4 : ixA m (.tup [A, B, C]) (.int 2) = some C := by rw [ixA_tup]; rfl
  simp [f_law_1, sIf, tVal, eOp, eVar, eC, eCall, aCons, aNil, q1, q2, q3, q4, c1, c2, c3, c4, sNop]
end L4

namespace L4
open PySem
variable {s b : Str} {A B C : D} {a0 a1 a2 a3 a7 a8 a9 a10 a11 : Option D} {m : M}
theorem law2 (k : Ok s b A B C) :
    f_law_2 [a0, a1, a2, a3, some (.str s), some (.str b), some (.tup [A, B, C]), a7, some (.str (catS "leave 1 of 1 out 1 more 1 most 2 calm 0 back " b)), a9, a10, a11] m =
     some (.nx [a0, a1, a2, a3, some (.str s), some (.str b), some (.tup [A, B, C]), a7, some (.str (catS "leave 1 of 1 out 1 more 1 most 2 calm 0 back " b)), a9, a10, a11], m) := by
  obtain ⟨hl, r, e1, pr, e2⟩ := sm_ok k.t4
  have pl : pureL [r, .str "swap"] = true := by simp [pureL, pr, pureD]
  unfold tx4 at hl e1
  generalize catS "leave 1 of 1 out 1 more 1 most 2 calm 0 back " b = w at hl e1 ⊢
  have l3 := catS_len (catS (catS w " share ") s) " hears no"
  have l2 := catS_len (catS w " share ") s
  have l1 := catS_len w " share "
  have q1 : addD m (.str w) (.str " share ") = some (.str (catS w " share ")) := addS (by omega)
  have q2 : addD m (.str (catS w " share ")) (.str s) = some (.str (catS (catS w " share ") s)) := addS (by omega)
  have q3 : addD m (.str (catS (catS w " share ") s)) (.str " hears no") = some (.str (catS (catS (catS w " share ") s) " hears no")) := addS (by omega)
  have c1 : callP (fun ds => F_Rule_read (.glo "Rule" :: ds)) m [.str (catS (catS (catS w " share ") s) " hears no")] = some r := by rw [callP_pure (by simp [pureL, pureD])]; exact e1
  have c2 : callP F_numbers m [r, .str "swap"] = some C := by rw [callP_pure pl]; exact e2
  have c3 : neD m C C = some (.bl false) := by rw [ne_pure k.pC k.pC]; exact k.nC
  have c4 : ixA m (.tup [A, B, C]) (.int 2) = some C := by rw [ixA_tup]; rfl
  simp [f_law_2, sIf, tVal, eOp, eVar, eC, eCall, aCons, aNil, q1, q2, q3, c1, c2, c3, c4, sNop]
theorem law3 (k : Ok s b A B C) :
    f_law_3 [a0, a1, a2, a3, some (.str s), some (.str b), some (.tup [A, B, C]), a7, a8, a9, a10, a11] m =
     some (.nx [a0, a1, a2, a3, some (.str s), some (.str b), some (.tup [A, B, C]), a7, some (.str (catS "leave 1 of 1 out 1 more 1 most 2 calm 0 back " b)), a9, a10, a11], m) := by
  have hl := (sm_ok k.t4).1
  unfold tx4 at hl
  rw [catS_len, catS_len, catS_len, catS_len] at hl
  have q1 : addD m (.str "leave 1 of 1 out 1 more 1 most 2 calm 0 back ") (.str b) = some (.str (catS "leave 1 of 1 out 1 more 1 most 2 calm 0 back " b)) := addS (by omega)
  have q := law2 (a0 := a0) (a1 := a1) (a2 := a2) (a3 := a3) (a7 := a7) (a9 := a9) (a10 := a10) (a11 := a11) (m := m) k
  simp only [f_law_3, sSeq, sAsg, eOp, eVar, eC, gNm, List.getD_eq_getElem?_getD, List.getElem?_cons_succ, List.getElem?_cons_zero, Option.getD_some, List.set_cons_succ, List.set_cons_zero, bd_go, q1, pu_go, q]
theorem law4 (k : Ok s b A B C) :
    f_law_4 [a0, a1, a2, a3, some (.str s), some (.str b), some (.tup [A, B, C]), a7, some (.str (catS "leave 1 of 1 out 1 more 0 most 5 calm 0 back " b)), a9, a10, a11] m =
     some (.nx [a0, a1, a2, a3, some (.str s), some (.str b), some (.tup [A, B, C]), a7, some (.str (catS "leave 1 of 1 out 1 more 1 most 2 calm 0 back " b)), a9, a10, some (.str "out")], m) := by
  have q1 := law1 (a0 := a0) (a1 := a1) (a2 := a2) (a3 := a3) (a7 := a7) (a9 := a9) (a10 := a10) (m := m) k (h := "fault") (.inl rfl)
  have q2 := law1 (a0 := a0) (a1 := a1) (a2 := a2) (a3 := a3) (a7 := a7) (a9 := a9) (a10 := a10) (m := m) k (h := "out") (.inr rfl)
  have q := law3 (a0 := a0) (a1 := a1) (a2 := a2) (a3 := a3) (a7 := a7) (a8 := some (.str (catS "leave 1 of 1 out 1 more 0 most 5 calm 0 back " b))) (a9 := a9) (a10 := a10) (a11 := some (.str "out")) (m := m) k
  have z : 2 ≤ sizeLine := by rw [sizeLine_eq]; omega
  simp only [f_law_4, sSeq, sFor, iIt, eTup, aCons, aNil, eC, bd_go, pu_go, List.length_cons, List.length_nil, Nat.zero_add, Nat.reduceAdd, if_pos z, items, forGo, gTgt, Tgt.un, Tgt.is, setMany, List.set_cons_succ, List.set_cons_zero, q1, q2, q]
theorem law5 (k : Ok s b A B C) {r : D} (e1 : F_numbers [r, .str "all"] = some A) (e2 : F_numbers [r, .str "kept"] = some B) (pr : pureD r = true) :
    f_law_5 [a0, a1, a2, a3, some (.str s), some (.str b), some (.tup [A, B, C]), a7, some (.str (catS "leave 1 of 1 out 1 more 0 most 5 calm 0 back " b)), a9, some r, a11] m =
     some (.nx [a0, a1, a2, a3, some (.str s), some (.str b), some (.tup [A, B, C]), a7, some (.str (catS "leave 1 of 1 out 1 more 1 most 2 calm 0 back " b)), a9, some r, some (.str "out")], m) := by
  have q := law4 (a0 := a0) (a1 := a1) (a2 := a2) (a3 := a3) (a7 := a7) (a9 := a9) (a10 := some r) (a11 := a11) (m := m) k
  have c1 : callP F_numbers m [r, .str "all"] = some A := by rw [callP_pure (by simp [pureL, pr, pureD])]; exact e1
  have c2 : callP F_numbers m [r, .str "kept"] = some B := by rw [callP_pure (by simp [pureL, pr, pureD])]; exact e2
  have pp : pureD (.tup [A, B]) = true := by simp [pureD, pureL, k.pA, k.pB]
  have c3 : neD m (.tup [A, B]) (.tup [A, B]) = some (.bl false) := by rw [ne_pure pp pp]; exact k.n2
  have z : 2 ≤ sizeLine := by rw [sizeLine_eq]; omega
  have c4 : slD m (.tup [A, B, C]) none (some 2) = some (.tup [A, B]) := rfl
  simp only [f_law_5, sSeq, sIf, tVal, eOp, eTup, eVar, eC, eCall, aCons, aNil, eSl, oNo, oYes, List.getD_eq_getElem?_getD, List.getElem?_cons_succ, List.getElem?_cons_zero, Option.getD_some, bd_go, pu_go, c1, c2, c3, c4, List.length_cons, List.length_nil, Nat.zero_add, Nat.reduceAdd, if_pos z, sNop, Bool.false_eq_true, if_false, q]
theorem law6 (k : Ok s b A B C) {r : D} (e1 : F_numbers [r, .str "all"] = some A) (e2 : F_numbers [r, .str "kept"] = some B) (e3 : F_numbers [r, .str "swap"] = some (sw b C)) (pr : pureD r = true) :
    f_law_6 [a0, a1, a2, a3, some (.str s), some (.str b), some (.tup [A, B, C]), a7, some (.str (catS "leave 1 of 1 out 1 more 0 most 5 calm 0 back " b)), a9, some r, a11] m =
     some (.nx [a0, a1, a2, a3, some (.str s), some (.str b), some (.tup [A, B, C]), a7, some (.str (catS "leave 1 of 1 out 1 more 1 most 2 calm 0 back " b)), a9, some r, some (.str "out")], m) := by
  have q := law5 (a0 := a0) (a1 := a1) (a2 := a2) (a3 := a3) (a7 := a7) (a9 := a9) (a11 := a11) (m := m) k e1 e2 pr
  have c1 : callP F_numbers m [r, .str "swap"] = some (sw b C) := by rw [callP_pure (by simp [pureL, pr, pureD])]; exact e3
  have ps : pureD (sw b C) = true := by unfold sw; split; exact k.pC; simp [pureD]
  have c3 : neD m (sw b C) (sw b C) = some (.bl false) := by rw [ne_pure ps ps]; exact k.nS
  have c4 : ixA m (.tup [A, B, C]) (.int 2) = some C := by rw [ixA_tup]; rfl
  have c5 : eqD m (.str b) (.str "trial") = some (.bl (decide (b = "trial"))) := by
    have : eqD m (.str b) (.str "trial") = eqD [] (.str b) (.str "trial") := by simp [eqD, pdM, frz, pureD]
    rw [this]; exact k.tr
  by_cases hb : b = "trial"
  · have c6 : sw b C = C := if_pos hb
    rw [c6] at c1 c3
    simp only [f_law_6, sSeq, sIf, tVal, eOp, eIf, eVar, eC, eCall, aCons, aNil, List.getD_eq_getElem?_getD, List.getElem?_cons_succ, List.getElem?_cons_zero, Option.getD_some, bd_go, pu_go, c1, c3, c4, c5, decide_eq_true hb, if_true, sNop, Bool.false_eq_true, if_false, q]
  · have c6 : sw b C = .non := if_neg hb
    rw [c6] at c1 c3
    simp only [f_law_6, sSeq, sIf, tVal, eOp, eIf, eVar, eC, eCall, aCons, aNil, List.getD_eq_getElem?_getD, List.getElem?_cons_succ, List.getElem?_cons_zero, Option.getD_some, bd_go, pu_go, c1, c3, c4, c5, decide_eq_false hb, sNop, Bool.false_eq_true, if_false, q]
end L4

namespace L4
open PySem
variable {s b : Str} {A B C : D} {a0 a1 a2 a3 a7 a8 a9 a10 a11 : Option D} {m : M}
abbrev Out (a0 a1 a2 a3 : Option D) (s b : Str) (A B C : D) (ρ : Ss) : Prop := ∃ a7 a8 a9 a10 a11, ρ = [a0, a1, a2, a3, some (.str s), some (.str b), some (.tup [A, B, C]), a7, a8, a9, a10, a11]
theorem law7 (k : Ok s b A B C) :
    ∃ ρ, f_law_7 [a0, a1, a2, a3, some (.str s), some (.str b), some (.tup [A, B, C]), a7, some (.str (catS "leave 1 of 1 out 1 more 0 most 5 calm 0 back " b)), a9, a10, a11] m = some (.nx ρ, m) ∧ Out a0 a1 a2 a3 s b A B C ρ := by
  obtain ⟨hl, r, e1, pr, e2, e3, e4⟩ := nm3_ok k.t2
  have q := law6 (a0 := a0) (a1 := a1) (a2 := a2) (a3 := a3) (a7 := a7) (a9 := a9) (a11 := a11) (m := m) k e2 e3 e4 pr
  refine ⟨_, ?_, a7, some (.str (catS "leave 1 of 1 out 1 more 1 most 2 calm 0 back " b)), a9, some r, some (.str "out"), rfl⟩
  unfold tx2 at hl e1
  generalize catS "leave 1 of 1 out 1 more 0 most 5 calm 0 back " b = w at hl e1 q ⊢
  have l3 := catS_len (catS (catS w " share ") s) " hears no"
  have l2 := catS_len (catS w " share ") s
  have l1 := catS_len w " share "
  have q1 : addD m (.str w) (.str " share ") = some (.str (catS w " share ")) := addS (by omega)
  have q2 : addD m (.str (catS w " share ")) (.str s) = some (.str (catS (catS w " share ") s)) := addS (by omega)
  have q3 : addD m (.str (catS (catS w " share ") s)) (.str " hears no") = some (.str (catS (catS (catS w " share ") s) " hears no")) := addS (by omega)
  have c1 : callP (fun ds => F_Rule_read (.glo "Rule" :: ds)) m [.str (catS (catS (catS w " share ") s) " hears no")] = some r := by rw [callP_pure (by simp [pureL, pureD])]; exact e1
  simp only [f_law_7, sSeq, sAsg, eOp, eVar, eC, eCall, aCons, aNil, gNm, List.getD_eq_getElem?_getD, List.getElem?_cons_succ, List.getElem?_cons_zero, Option.getD_some, List.set_cons_succ, List.set_cons_zero, bd_go, pu_go, q1, q2, q3, c1, q]
theorem law8 (k : Ok s b A B C) :
    ∃ ρ, f_law_8 [a0, a1, a2, a3, some (.str s), some (.str b), some (.tup [A, B, C]), a7, a8, a9, a10, a11] m = some (.nx ρ, m) ∧ Out a0 a1 a2 a3 s b A B C ρ := by
  have hl := (nm3_ok k.t2).1
  unfold tx2 at hl
  rw [catS_len, catS_len, catS_len, catS_len] at hl
  have q1 : addD m (.str "leave 1 of 1 out 1 more 0 most 5 calm 0 back ") (.str b) = some (.str (catS "leave 1 of 1 out 1 more 0 most 5 calm 0 back " b)) := addS (by omega)
  obtain ⟨ρ, q, o⟩ := law7 (a0 := a0) (a1 := a1) (a2 := a2) (a3 := a3) (a7 := a7) (a9 := a9) (a10 := a10) (a11 := a11) (m := m) k
  refine ⟨ρ, ?_, o⟩
  simp only [f_law_8, sSeq, sAsg, eOp, eVar, eC, gNm, List.getD_eq_getElem?_getD, List.getElem?_cons_succ, List.getElem?_cons_zero, Option.getD_some, List.set_cons_succ, List.set_cons_zero, bd_go, q1, pu_go, q]
theorem law9 (k : Ok s b A B C) {r : D} (e1 : F_numbers [r, .str "all"] = some A) (e2 : F_numbers [r, .str "kept"] = some B) (e3 : F_numbers [r, .str "swap"] = some C) (pr : pureD r = true) :
    ∃ ρ, f_law_9 [a0, a1, a2, a3, some (.str s), some (.str b), some (.tup [A, B, C]), a7, a8, some r, a10, a11] m = some (.nx ρ, m) ∧ Out a0 a1 a2 a3 s b A B C ρ := by
  obtain ⟨ρ, q, o⟩ := law8 (a0 := a0) (a1 := a1) (a2 := a2) (a3 := a3) (a7 := a7) (a8 := a8) (a9 := some r) (a10 := a10) (a11 := a11) (m := m) k
  refine ⟨ρ, ?_, o⟩
  have c1 : callP F_numbers m [r, .str "all"] = some A := by rw [callP_pure (by simp [pureL, pr, pureD])]; exact e1
  have c2 : callP F_numbers m [r, .str "kept"] = some B := by rw [callP_pure (by simp [pureL, pr, pureD])]; exact e2
  have c5 : callP F_numbers m [r, .str "swap"] = some C := by rw [callP_pure (by simp [pureL, pr, pureD])]; exact e3
  have pp : pureD (.tup [A, B, C]) = true := by simp [pureD, pureL, k.pA, k.pB, k.pC]
  have c3 : neD m (.tup [A, B, C]) (.tup [A, B, C]) = some (.bl false) := by rw [ne_pure pp pp]; exact k.n3
  have z : 3 ≤ sizeLine := by rw [sizeLine_eq]; omega
  simp only [f_law_9, sSeq, sIf, tVal, eOp, eTup, eVar, eC, eCall, aCons, aNil, List.getD_eq_getElem?_getD, List.getElem?_cons_succ, List.getElem?_cons_zero, Option.getD_some, bd_go, pu_go, c1, c2, c3, c5, List.length_cons, List.length_nil, Nat.zero_add, Nat.reduceAdd, if_pos z, sNop, Bool.false_eq_true, if_false, q]
theorem pick_ok {bx : Nat} {x0 x1 x2 : Int} (hb : m[bx]? = some (.lst [.int x0, .int x1, .int x2])) :
    ∃ (h : Str) (y0 y1 y2 : Int), F__law_pick [.ref bx, .lst [.str "no", .str "fault", .str "out"]] m = some (.str h, m.set bx (.lst [.int y0, .int y1, .int y2])) ∧ (h = "no" ∨ h = "fault" ∨ h = "out") := by
  obtain ⟨k, y0, y1, y2, ht, hk0, hk1⟩ := take_ok (n := 3) hb (by omega) (by omega)
  have hk : k = 0 ∨ k = 1 ∨ k = 2 := by omega
  have e : F__law_pick [.ref bx, .lst [.str "no", .str "fault", .str "out"]] m = endM ((pu (ixA (m.set bx (.lst [.int y0, .int y1, .int y2])) (.lst [.str "no", .str "fault", .str "out"]) (.int k)) (m.set bx (.lst [.int y0, .int y1, .int y2]))).bind fun r => some (.rt r.1, r.2)) := by
    simp [F__law_pick, f__law_pick, runM, startD, sRet, eOp, eVar, eCallM, eCall, aCons, aNil, lenD_lst, ht, ixA_lst]
    rcases hk with rfl | rfl | rfl <;> rfl
  rw [e, ixA_lst]
  rcases hk with rfl | rfl | rfl
  · exact ⟨"no", y0, y1, y2, rfl, .inl rfl⟩
  · exact ⟨"fault", y0, y1, y2, rfl, .inr (.inl rfl)⟩
  · exact ⟨"out", y0, y1, y2, rfl, .inr (.inr rfl)⟩
end L4

namespace L4
open PySem
variable {s b : Str} {A B C : D} {a0 a1 a2 a3 a7 a8 a9 a10 a11 : Option D} {m : M}
theorem law10 (k : Ok s b A B C) {bx : Nat} {x0 x1 x2 n : Int} (hb : m[bx]? = some (.lst [.int x0, .int x1, .int x2])) (n1 : 2 ≤ n) (n2 : n ≤ 5) :
    ∃ ρ y0 y1 y2, f_law_10 [a0, a1, a2, some (.ref bx), some (.str s), some (.str b), some (.tup [A, B, C]), a7, some (.str (catS (catS (catS (catS (catS "leave 2 of 3 out " (toString n)) " more 0 most ") (toString n)) " calm 1 back ") b)), a9, a10, a11] m = some (.nx ρ, m.set bx (.lst [.int y0, .int y1, .int y2])) ∧ Out a0 a1 a2 (some (.ref bx)) s b A B C ρ := by
  obtain ⟨h, y0, y1, y2, hp, hh⟩ := pick_ok hb
  obtain ⟨hl, r, e1, pr, e2, e3, e4⟩ := nm3_ok (k.t1 n n1 n2 h hh)
  unfold tx1 at hl e1
  generalize catS (catS (catS (catS (catS "leave 2 of 3 out " (toString n)) " more 0 most ") (toString n)) " calm 1 back ") b = w at hl e1 ⊢
  obtain ⟨ρ, q, o⟩ := law9 (a0 := a0) (a1 := a1) (a2 := a2) (a3 := some (.ref bx)) (a7 := a7) (a8 := some (.str w)) (a10 := a10) (a11 := a11) (m := m.set bx (.lst [.int y0, .int y1, .int y2])) k e2 e3 e4 pr
  refine ⟨ρ, y0, y1, y2, ?_, o⟩
  have l4 := catS_len (catS (catS (catS w " share ") s) " hears ") h
  have l3 := catS_len (catS (catS w " share ") s) " hears "
  have l2 := catS_len (catS w " share ") s
  have l1 := catS_len w " share "
  have q1 : addD m (.str w) (.str " share ") = some (.str (catS w " share ")) := addS (by omega)
  have q2 : addD m (.str (catS w " share ")) (.str s) = some (.str (catS (catS w " share ") s)) := addS (by omega)
  have q3 : addD m (.str (catS (catS w " share ") s)) (.str " hears ") = some (.str (catS (catS (catS w " share ") s) " hears ")) := addS (by omega)
  have q4 : ∀ m', addD m' (.str (catS (catS (catS w " share ") s) " hears ")) (.str h) = some (.str (catS (catS (catS (catS w " share ") s) " hears ") h)) := fun m' => addS (by omega)
  have c1 : ∀ m', callP (fun ds => F_Rule_read (.glo "Rule" :: ds)) m' [.str (catS (catS (catS (catS w " share ") s) " hears ") h)] = some r := fun m' => by rw [callP_pure (by simp [pureL, pureD])]; exact e1
  have z : 3 ≤ sizeLine := by rw [sizeLine_eq]; omega
  simp only [f_law_10, sSeq, sAsg, eOp, eVar, eC, eCall, eCallM, eLst, aCons, aNil, gNm, List.getD_eq_getElem?_getD, List.getElem?_cons_succ, List.getElem?_cons_zero, Option.getD_some, List.set_cons_succ, List.set_cons_zero, List.length_cons, List.length_nil, Nat.zero_add, Nat.reduceAdd, if_pos z, bd_go, pu_go, hp, q1, q2, q3, q4, c1, q]
theorem law12 (k : Ok s b A B C) {bx : Nat} {x0 x1 x2 n : Int} (hb : m[bx]? = some (.lst [.int x0, .int x1, .int x2])) (n1 : 2 ≤ n) (n2 : n ≤ 5) :
    ∃ ρ y0 y1 y2, f_law_12 [a0, a1, a2, some (.ref bx), some (.str s), some (.str b), some (.tup [A, B, C]), some (.int n), a8, a9, a10, a11] m = some (.nx ρ, m.set bx (.lst [.int y0, .int y1, .int y2])) ∧ Out a0 a1 a2 (some (.ref bx)) s b A B C ρ := by
  have hl := (nm3_ok (k.t1 n n1 n2 "no" (.inl rfl))).1
  unfold tx1 at hl
  simp only [catS_len] at hl
  obtain ⟨ρ, y0, y1, y2, q, o⟩ := law10 (a0 := a0) (a1 := a1) (a2 := a2) (a7 := some (.int n)) (a9 := a9) (a10 := a10) (a11 := a11) k hb n1 n2
  refine ⟨ρ, y0, y1, y2, ?_, o⟩
  have hs : strD m [.int n] = some (.str (toString n)) := by
    have hn : n = 2 ∨ n = 3 ∨ n = 4 ∨ n = 5 := by omega
    have : n.natAbs.log2 < 1920 := by rcases hn with rfl | rfl | rfl | rfl <;> decide
    simp only [strD, if_pos this]
  have q1 : addD m (.str "leave 2 of 3 out ") (.str (toString n)) = some (.str (catS "leave 2 of 3 out " (toString n))) := addS (by omega)
  have q2 : addD m (.str (catS "leave 2 of 3 out " (toString n))) (.str " more 0 most ") = some (.str (catS (catS "leave 2 of 3 out " (toString n)) " more 0 most ")) := addS (by simp only [catS_len]; omega)
  have q3 : addD m (.str (catS (catS "leave 2 of 3 out " (toString n)) " more 0 most ")) (.str (toString n)) = some (.str (catS (catS (catS "leave 2 of 3 out " (toString n)) " more 0 most ") (toString n))) := addS (by simp only [catS_len]; omega)
  have q4 : addD m (.str (catS (catS (catS "leave 2 of 3 out " (toString n)) " more 0 most ") (toString n))) (.str " calm 1 back ") = some (.str (catS (catS (catS (catS "leave 2 of 3 out " (toString n)) " more 0 most ") (toString n)) " calm 1 back ")) := addS (by simp only [catS_len]; omega)
  have q5 : addD m (.str (catS (catS (catS (catS "leave 2 of 3 out " (toString n)) " more 0 most ") (toString n)) " calm 1 back ")) (.str b) = some (.str (catS (catS (catS (catS (catS "leave 2 of 3 out " (toString n)) " more 0 most ") (toString n)) " calm 1 back ") b)) := addS (by simp only [catS_len]; omega)
  simp only [f_law_12, f_law_11, sSeq, sAsg, eOp, eVar, eC, eCall, aCons, aNil, gNm, List.getD_eq_getElem?_getD, List.getElem?_cons_succ, List.getElem?_cons_zero, Option.getD_some, List.set_cons_succ, List.set_cons_zero, bd_go, pu_go, hs, q1, q2, q3, q4, q5, q]
theorem law13 (k : Ok s b A B C) {bx : Nat} {x0 x1 x2 : Int} (hb : m[bx]? = some (.lst [.int x0, .int x1, .int x2])) :
    ∃ ρ y0 y1 y2, f_law_13 [a0, a1, a2, some (.ref bx), some (.str s), some (.str b), some (.tup [A, B, C]), a7, a8, a9, a10, a11] m = some (.nx ρ, m.set bx (.lst [.int y0, .int y1, .int y2])) ∧ Out a0 a1 a2 (some (.ref bx)) s b A B C ρ := by
  obtain ⟨n, y0, y1, y2, ht, h0, h1⟩ := take_ok (n := 4) hb (by omega) (by omega)
  have hl : bx < m.length := (List.getElem?_eq_some_iff.mp hb).1
  obtain ⟨ρ, z0, z1, z2, q, o⟩ := law12 (m := m.set bx (.lst [.int y0, .int y1, .int y2])) (a0 := a0) (a1 := a1) (a2 := a2) (a8 := a8) (a9 := a9) (a10 := a10) (a11 := a11) (n := 2 + n) k (List.getElem?_set_self hl) (by omega) (by omega)
  rw [List.set_set] at q
  refine ⟨ρ, z0, z1, z2, ?_, o⟩
  simp only [f_law_13, sSeq, sAsg, eOp, eVar, eC, eCallM, aCons, aNil, gNm, List.getD_eq_getElem?_getD, List.getElem?_cons_succ, List.getElem?_cons_zero, Option.getD_some, List.set_cons_succ, List.set_cons_zero, bd_go, pu_go, ht, addD, q]
end L4

namespace L4
open PySem
variable {m : M}
theorem shuf_e0 {bx c : Nat} {cs : List D} (hc : m[c]? = some (.lst cs)) : f__law_shuffled (startD 5 [.ref bx, .ref c]) m = f__law_shuffled_2 [some (.ref bx), some (.ref c), some (.ref m.length), some (.ref (m.length + 1)), none] (m ++ [.lst cs] ++ [.lst []]) := by
  have lz : lisD m [.ref c] = some (.lst cs) := by simp [lisD, lstR, lstOf, hc, lstO]
  have z0 : 0 ≤ sizeLine := Nat.zero_le _
  have ll : (m ++ [O.lst cs]).length = m.length + 1 := by simp
  simp only [f__law_shuffled, sSeq, sPar, aCons, aNil, eLisN, eVar, eNewL, startD, List.length_cons, List.length_nil, List.map_cons, List.map_nil, List.cons_append, List.nil_append, Nat.reduceAdd, Nat.reduceSub, List.replicate, List.getD_eq_getElem?_getD, List.getElem?_cons_succ, List.getElem?_cons_zero, Option.getD_some, bd_go, pu_go, lz, if_pos z0, setMany, if_true, List.set_cons_succ, List.set_cons_zero, ll]
theorem bnd62 {n : Nat} (hn : n < 1000) : -(2 ^ 62) ≤ (n : Int) ∧ (n : Int) < 2 ^ 62 := by
  have e : (2 : Int) ^ 62 = 4611686018427387904 := by decide +kernel
  rw [e]
  omega
def iR1k (xs : List D) (m1 : M) : Option (List D × M) := match xs with
  | [.int j] => if -(2 ^ 62) ≤ j ∧ j < 2 ^ 62 then some (rngD 0 j.toNat, m1) else none
  | _ => none
theorem iR1k_go {m1 : M} {n : Nat} (hn : n < 1000) : iR1k [.int n] m1 = some (rngD 0 n, m1) := by
  have c := bnd62 hn
  generalize hp : (2 : Int) ^ 62 = p at c
  unfold iR1k
  generalize (2 : Int) ^ 62 = q at hp ⊢
  subst hp
  exact if_pos c
theorem iR1_go {a : AF} {ρ : Ss} {m m1 : M} {n : Nat} (h : a ρ m = some ([.int n], m1)) (hn : n < 1000) : iR1 a ρ m = some (rngD 0 n, m1) := by
  have e : iR1 a ρ m = bd (a ρ m) iR1k := rfl
  rw [e, h, bd_go]
  exact iR1k_go hn
theorem shuf_e2 {bx c : Nat} {cs : List D} {m' : M} {ρ' : Ss} (hz : cs.length < 1000) (e : forGo (gTgt (.one 4)) f__law_shuffled_1 (rngD 0 cs.length) [some (.ref bx), some (.ref c), some (.ref m.length), some (.ref (m.length + 1)), none] (m ++ [.lst cs] ++ [.lst []]) = some (.nx ρ', m')) (h3 : ρ'.getD 3 none = some (.ref (m.length + 1))) :
    f__law_shuffled_2 [some (.ref bx), some (.ref c), some (.ref m.length), some (.ref (m.length + 1)), none] (m ++ [.lst cs] ++ [.lst []]) = some (.rt (.ref (m.length + 1)), m') := by
  have lr : lenD (m ++ [.lst cs] ++ [.lst []]) [.ref m.length] = some (.int cs.length) := lenD_ref (by simp)
  have i1 := iR1_go (a := aCons (eCall lenD (aCons (eVar 2) aNil)) aNil) (ρ := [some (.ref bx), some (.ref c), some (.ref m.length), some (.ref (m.length + 1)), none]) (m := m ++ [.lst cs] ++ [.lst []]) (m1 := m ++ [.lst cs] ++ [.lst []]) (n := cs.length) (by
    simp only [eCall, eVar, aCons, aNil, List.getD_eq_getElem?_getD, List.getElem?_cons_succ, List.getElem?_cons_zero, Option.getD_some, bd_go, pu_go, lr]) hz
  unfold f__law_shuffled_2 sSeq sFor
  rw [i1]
  simp only [bd_go, pu_go, e, sRet, eVar, h3]
theorem shuf_ok {bx c : Nat} {x0 x1 x2 : Int} {cs : List D} (hbc : bx ≠ c) (hb : m[bx]? = some (.lst [.int x0, .int x1, .int x2])) (hc : m[c]? = some (.lst cs)) (hz : cs.length < 1000) :
    ∃ m' found y0 y1 y2, F__law_shuffled [.ref bx, .ref c] m = some (.ref (m.length + 1), m') ∧ m'[bx]? = some (.lst [.int y0, .int y1, .int y2]) ∧ m'[c]? = some (.lst cs) ∧ m'[m.length + 1]? = some (.lst found) ∧ found.length = cs.length ∧ ∀ d ∈ found, d ∈ cs := by
  have lb : bx < m.length := (List.getElem?_eq_some_iff.mp hb).1
  have lc : c < m.length := (List.getElem?_eq_some_iff.mp hc).1
  let I : Nat → Ss → M → Prop := fun j ρ m' => ∃ a4 y0 y1 y2 rest found, ρ = [some (.ref bx), some (.ref c), some (.ref m.length), some (.ref (m.length + 1)), a4] ∧ m'[bx]? = some (.lst [.int y0, .int y1, .int y2]) ∧ m'[c]? = some (.lst cs) ∧
    m'[m.length]? = some (.lst rest) ∧ m'[m.length + 1]? = some (.lst found) ∧ rest.length + j = cs.length ∧ found.length = j ∧ (∀ d ∈ rest, d ∈ cs) ∧ ∀ d ∈ found, d ∈ cs
  have h0 : I 0 [some (.ref bx), some (.ref c), some (.ref m.length), some (.ref (m.length + 1)), none] (m ++ [.lst cs] ++ [.lst []]) := by
    refine ⟨none, x0, x1, x2, cs, [], rfl, ?_, ?_, ?_, ?_, rfl, rfl, fun d h => h, fun d h => (List.not_mem_nil h).elim⟩
    · rw [List.append_assoc, List.getElem?_append_left lb]; exact hb
    · rw [List.append_assoc, List.getElem?_append_left lc]; exact hc
    · simp
    · simp
  obtain ⟨ρ', m', e, hI⟩ := forGo_inv (f := gTgt (.one 4)) (b := f__law_shuffled_1) I (rngD 0 cs.length) 0 _ _ h0 fun j x ρ m1 hj hI => by
    have hjl : j < cs.length := by have := (List.getElem?_eq_some_iff.mp hj).1; simpa [rngD] using this
    obtain ⟨a4, y0, y1, y2, rest, found, rfl, g1, g2, g3, g4, g5, g6, g7, g8⟩ := hI
    have hn : rest ≠ [] := fun h => by subst h; simp at g5; omega
    obtain ⟨z0, z1, z2, i, d, et, hd⟩ := shuf_turn (ρ := [some (.ref bx), some (.ref c), some (.ref m.length), some (.ref (m.length + 1)), some x]) (b := bx) (r := m.length) (f := m.length + 1) rfl rfl rfl (by omega) (by omega) (by omega) g1 g3 g4 hn (by omega) (by omega)
    have l1 : bx < m1.length := (List.getElem?_eq_some_iff.mp g1).1
    have l3 : m.length < m1.length := (List.getElem?_eq_some_iff.mp g3).1
    have l4 : m.length + 1 < m1.length := (List.getElem?_eq_some_iff.mp g4).1
    have li : i < rest.length := (List.getElem?_eq_some_iff.mp hd).1
    have dm : d ∈ rest := List.mem_of_getElem? hd
    refine ⟨_, _, rfl, _, _, et, _, .inl rfl, some x, z0, z1, z2, rest.eraseIdx i, found ++ [d], rfl, ?_, ?_, ?_, ?_, ?_, ?_, ?_, ?_⟩
    · rw [List.getElem?_set_ne (by omega), List.getElem?_set_ne (by omega), List.getElem?_set_self l1]
    · rw [List.getElem?_set_ne (by omega), List.getElem?_set_ne (by omega), List.getElem?_set_ne hbc]; exact g2
    · rw [List.getElem?_set_ne (by omega), List.getElem?_set_self (by simpa using l3)]
    · rw [List.getElem?_set_self (by simpa using l4)]
    · rw [List.length_eraseIdx_of_lt li]; omega
    · simp; omega
    · intro e he; exact g7 e (List.mem_of_mem_eraseIdx he)
    · intro e he
      rcases List.mem_append.mp he with h | h
      · exact g8 e h
      · rw [List.mem_singleton.mp h]; exact g7 d dm
  obtain ⟨a4, y0, y1, y2, rest, found, rfl, g1, g2, g3, g4, g5, g6, g7, g8⟩ := hI
  refine ⟨m', found, y0, y1, y2, ?_, g1, g2, g4, ?_, g8⟩
  · unfold F__law_shuffled runM
    rw [if_pos (by rfl), shuf_e0 hc, shuf_e2 hz e rfl]
    rfl
  · simpa [rngD] using g6
end L4

namespace L4
open PySem
def Rw (a0 : Option D) (bx : Nat) (ρ : Ss) : Prop := ∃ a2 a4 a5 a6 a7 a8 a9 a10 a11, ρ = [a0, some (.ref 0), a2, some (.ref bx), a4, a5, a6, a7, a8, a9, a10, a11]
theorem law14 {m : M} {bx : Nat} {x0 x1 x2 : Int} {a0 : Option D} {ρ : Ss} (h : Rw a0 bx ρ) (hb0 : bx ≠ 0) (hb : m[bx]? = some (.lst [.int x0, .int x1, .int x2])) (h0 : m[0]? = some (.lst (css.map dOf))) :
    ∃ ρ' m', f_law_14 ρ m = some (.nx ρ', m') ∧ Rw a0 bx ρ' ∧ m'[0]? = some (.lst (css.map dOf)) := by
  obtain ⟨m1, found, y0, y1, y2, es, g1, g2, g3, g4, g5⟩ := shuf_ok hb0 hb h0 (by decide)
  have lb : bx < m.length := (List.getElem?_eq_some_iff.mp hb).1
  have hfl : found.length = 13 := by rw [g4]; decide
  obtain ⟨ρ', m', e, hI⟩ := forRef_inv (f := gTgt (.many [4, 5, 6])) (b := f_law_13) (n := m.length + 1) (ds := found)
    (fun _ ρ m2 => Rw a0 bx ρ ∧ (∃ z0 z1 z2 : Int, m2[bx]? = some (.lst [.int z0, .int z1, .int z2])) ∧ m2[0]? = some (.lst (css.map dOf)) ∧ m2[m.length + 1]? = some (.lst found)) (fun _ _ _ h => h.2.2.2) big 0 ρ m1 (by rw [hfl]; decide) (Nat.zero_le _) ⟨h, ⟨y0, y1, y2, g1⟩, g2, g3⟩
    fun j x ρ m2 hj hI => by
      obtain ⟨⟨a2, a4, a5, a6, a7, a8, a9, a10, a11, rfl⟩, ⟨z0, z1, z2, i1⟩, i2, i3⟩ := hI
      obtain ⟨c, hc, rfl⟩ := List.mem_map.mp (g5 x (List.mem_of_getElem? hj))
      obtain ⟨ρ2, w0, w1, w2, e2, v7, v8, v9, v10, v11, rfl⟩ := law13 (a0 := a0) (a1 := some (.ref 0)) (a2 := a2) (a7 := a7) (a8 := a8) (a9 := a9) (a10 := a10) (a11 := a11) (ok_of hc) i1
      have l1 : bx < m2.length := (List.getElem?_eq_some_iff.mp i1).1
      refine ⟨_, _, rfl, _, _, e2, _, .inl rfl, ⟨a2, _, _, _, v7, v8, v9, v10, v11, rfl⟩, ⟨w0, w1, w2, List.getElem?_set_self l1⟩, ?_, ?_⟩
      · rw [List.getElem?_set_ne hb0]; exact i2
      · rw [List.getElem?_set_ne (by omega)]; exact i3
  refine ⟨ρ', m', ?_, hI.1, hI.2.2.1⟩
  obtain ⟨a2, a4, a5, a6, a7, a8, a9, a10, a11, rfl⟩ := h
  simp only [f_law_14, sForA, eCallM, eVar, aCons, aNil, List.getD_eq_getElem?_getD, List.getElem?_cons_succ, List.getElem?_cons_zero, Option.getD_some, bd_go, pu_go, es]
  exact e
end L4

namespace L4
open PySem
def Rz (a0 : Option D) (ρ : Ss) : Prop := ∃ a2 a3 a4 a5 a6 a7 a8 a9 a10 a11, ρ = [a0, some (.ref 0), a2, a3, a4, a5, a6, a7, a8, a9, a10, a11]
theorem law15 {ns : List Int} {k : Nat} {m : M} {a3 a4 a5 a6 a7 a8 a9 a10 a11 : Option D} (h0 : m[0]? = some (.lst (css.map dOf))) :
    ∃ ρ' m', f_law_15 [some (.scr (ns.map D.int)), some (.ref 0), some (.int k), a3, a4, a5, a6, a7, a8, a9, a10, a11] m = some (.nx ρ', m') ∧ Rz (some (.scr (ns.map D.int))) ρ' ∧ m'[0]? = some (.lst (css.map dOf)) := by
  obtain ⟨x0, x1, x2, e⟩ := box_ok (ns := ns) (k := k) m
  have l0 : 0 < m.length := (List.getElem?_eq_some_iff.mp h0).1
  obtain ⟨ρ', m', q, ⟨b2, b4, b5, b6, b7, b8, b9, b10, b11, rfl⟩, q0⟩ := law14 (m := m ++ [.lst [.int x0, .int x1, .int x2]]) (bx := m.length) (x0 := x0) (x1 := x1) (x2 := x2) (a0 := some (.scr (ns.map D.int))) (ρ := [some (.scr (ns.map D.int)), some (.ref 0), some (.int k), some (.ref m.length), a4, a5, a6, a7, a8, a9, a10, a11]) ⟨_, a4, a5, a6, a7, a8, a9, a10, a11, rfl⟩ (by omega) (by simp) (by rw [List.getElem?_append_left l0]; exact h0)
  refine ⟨_, m', ?_, ⟨b2, some (.ref m.length), b4, b5, b6, b7, b8, b9, b10, b11, rfl⟩, q0⟩
  simp only [f_law_15, sSeq, sAsg, eCallM, eVar, aCons, aNil, gNm, List.getD_eq_getElem?_getD, List.getElem?_cons_succ, List.getElem?_cons_zero, Option.getD_some, List.set_cons_succ, List.set_cons_zero, bd_go, pu_go, e, q]
theorem law16 {ns : List Int} {m : M} (h0 : m[0]? = some (.lst (css.map dOf))) :
    ∃ m', f_law_16 [some (.scr (ns.map D.int)), some (.ref 0), none, none, none, none, none, none, none, none, none, none] m = some (.rt (.bl true), m') := by
  let n : Nat := max 1 (min 3 ns.length)
  obtain ⟨ρ', m', e, hI⟩ := forGo_inv (f := gTgt (.one 2)) (b := f_law_15) (fun _ ρ m => Rz (some (.scr (ns.map D.int))) ρ ∧ m[0]? = some (.lst (css.map dOf))) (rngD 0 n) 0 [some (.scr (ns.map D.int)), some (.ref 0), none, none, none, none, none, none, none, none, none, none] m ⟨⟨_, _, _, _, _, _, _, _, _, _, rfl⟩, h0⟩ fun j x ρ m1 hj hI => by
    obtain ⟨⟨a2, a3, a4, a5, a6, a7, a8, a9, a10, a11, rfl⟩, i0⟩ := hI
    have hx : ∃ k : Nat, x = .int k := by
      obtain ⟨k, _, rfl⟩ := List.mem_map.mp (List.mem_of_getElem? hj)
      exact ⟨k, by simp⟩
    obtain ⟨k, rfl⟩ := hx
    obtain ⟨ρ2, m2, e2, r2, z2⟩ := law15 (ns := ns) (k := k) (a3 := a3) (a4 := a4) (a5 := a5) (a6 := a6) (a7 := a7) (a8 := a8) (a9 := a9) (a10 := a10) (a11 := a11) i0
    exact ⟨_, _, rfl, _, _, e2, ρ2, .inl rfl, r2, z2⟩
  refine ⟨m', ?_⟩
  have hn : n < 1000 := by omega
  have hm : max2D m [.int 1, .int (if (ns.length : Int) < 3 then (ns.length : Int) else 3)] = some (.int (n : Int)) := by
    simp only [max2D]
    congr 2
    split <;> split <;> omega
  have i1 := iR1_go (a := aCons (eCall max2D (aCons (eC (.int 1)) (aCons (eCall min2D (aCons (eC (.int 3)) (aCons (eCall lenD (aCons (eVar 0) aNil)) aNil))) aNil))) aNil) (ρ := [some (.scr (ns.map D.int)), some (.ref 0), none, none, none, none, none, none, none, none, none, none]) (m := m) (m1 := m) (n := n) (by
    simp only [eCall, eC, eVar, aCons, aNil, List.getD_eq_getElem?_getD, List.getElem?_cons_zero, Option.getD_some, bd_go, pu_go, lenD_scr, List.length_map, min2D, hm]) hn
  unfold f_law_16 sSeq sFor
  rw [i1]
  simp only [bd_go, pu_go, e, sRet, eC]
end L4

namespace L4
open PySem
theorem app_step {v : EF} {d : D} {f : SF} {a0 : Option D} {ds : List D} (hv : ∀ ρ m, v ρ m = some (d, m)) (hl : ds.length < 100) :
    sSeq (sDrop (eLm0 (fun _ => appL) (eVar 1) (aCons v aNil))) f [a0, some (.ref 0), none, none, none, none, none, none, none, none, none, none] [.lst ds] = f [a0, some (.ref 0), none, none, none, none, none, none, none, none, none, none] [.lst (ds ++ [d])] := by
  have hz : ds.length < sizeLine := by rw [sizeLine_eq]; omega
  simp [sSeq, sDrop, eLm0, eVar, aCons, aNil, hv, appL, hz]
theorem tup2 {ρ : Ss} {m : M} {a b : EF} {x y : D} (ha : a ρ m = some (x, m)) (hb : b ρ m = some (y, m)) : eTup (aCons a (aCons b aNil)) ρ m = some (.tup [x, y], m) := by
  have z : 2 ≤ sizeLine := by rw [sizeLine_eq]; omega
  simp [eTup, aCons, aNil, ha, hb, z]
theorem tup3 {ρ : Ss} {m : M} {a b c : EF} {x y w : D} (ha : a ρ m = some (x, m)) (hb : b ρ m = some (y, m)) (hc : c ρ m = some (w, m)) : eTup (aCons a (aCons b (aCons c aNil))) ρ m = some (.tup [x, y, w], m) := by
  have z : 3 ≤ sizeLine := by rw [sizeLine_eq]; omega
  simp [eTup, aCons, aNil, ha, hb, hc, z]
theorem eC_go {ρ : Ss} {m : M} {d : D} : eC d ρ m = some (d, m) := rfl
theorem law_start {ns : List Int} : f_law [some (.scr (ns.map D.int)), none, none, none, none, none, none, none, none, none, none, none] [] =
    f_law_16 [some (.scr (ns.map D.int)), some (.ref 0), none, none, none, none, none, none, none, none, none, none] [.lst (css.map dOf)] := by
  have z2 : 2 ≤ sizeLine := by rw [sizeLine_eq]; omega
  have z3 : 3 ≤ sizeLine := by rw [sizeLine_eq]; omega
  have z : ∀ j : Nat, j < 100 → j < sizeLine := fun j h => by rw [sizeLine_eq]; omega
  simp [f_law, f_law_27, f_law_26, f_law_25, f_law_24, f_law_23, f_law_22, f_law_21, f_law_20, f_law_19, f_law_18, f_law_17, sSeq, sAsg, sDrop, eLm0, eVar, eC, eNewL, eTup, aCons, aNil, gNm, appL, z2, z3, z, css, dOf]
theorem law_plain : ∀ ns : List Int, ns.length ≤ 63 → F_law [.scr (ns.map D.int)] = some (.bl true) := by
  intro ns _
  obtain ⟨m', e⟩ := law16 (ns := ns) (m := [.lst (css.map dOf)]) rfl
  have h : f_law (startD 12 [.scr (ns.map D.int)]) [] = some (.rt (.bl true), m') := law_start.trans e
  unfold F_law runP
  rw [h]
  rfl
end L4

namespace L4
open PySem L2 TL
open L3 (Df Md Ki Cmd)
def top (i : Nat) : Stmt := PySem.Challenge.pw_sitout_k37_numbers_known_by_hand.main.body.getD i (.Pass ⟨0, 0, 0, 0⟩)
abbrev s__law_box : Stmt := top 32
theorem sc__law_box : FnScope ["_law_script", "_law_k", "_law_great", "_law_seed"] ["_law_script", "_law_k"] (defScope s__law_box) := ⟨rfl, rfl, rfl, by decide +kernel, rfl, by decide +kernel, by decide +kernel⟩
abbrev s__law_take : Stmt := top 33
theorem sc__law_take : FnScope ["_law_box_here", "_law_many", "_law_digit", "_law_near"] ["_law_box_here", "_law_many"] (defScope s__law_take) := ⟨rfl, rfl, rfl, by decide +kernel, rfl, by decide +kernel, by decide +kernel⟩
abbrev s__law_shuffled : Stmt := top 35
theorem sc__law_shuffled : FnScope ["_law_box_here", "_law_some", "_law_rest", "_law_found", "_law_turn"] ["_law_box_here", "_law_some"] (defScope s__law_shuffled) := ⟨rfl, rfl, rfl, by decide +kernel, rfl, by decide +kernel, by decide +kernel⟩
abbrev s_number_in : Stmt := top 13
theorem sc_number_in : FnScope ["word", "most", "sign"] ["word", "most"] (defScope s_number_in) := ⟨rfl, rfl, rfl, by decide +kernel, rfl, by decide +kernel, by decide +kernel⟩
abbrev s_numbers_in : Stmt := top 27
theorem sc_numbers_in : FnScope ["words", "found", "word"] ["words"] (defScope s_numbers_in) := ⟨rfl, rfl, rfl, by decide +kernel, rfl, by decide +kernel, by decide +kernel⟩
abbrev s_share_in : Stmt := top 28
theorem sc_share_in : FnScope ["word", "parts"] ["word"] (defScope s_share_in) := ⟨rfl, rfl, rfl, by decide +kernel, rfl, by decide +kernel, by decide +kernel⟩
abbrev s_is_word : Stmt := top 12
theorem sc_is_word : FnScope ["value", "some"] ["value", "some"] (defScope s_is_word) := ⟨rfl, rfl, rfl, by decide +kernel, rfl, by decide +kernel, by decide +kernel⟩
abbrev s_words_between : Stmt := top 30
theorem sc_words_between : FnScope ["words", "found", "at", "word"] ["words"] (defScope s_words_between) := ⟨rfl, rfl, rfl, by decide +kernel, rfl, by decide +kernel, by decide +kernel⟩
abbrev s_is_integer : Stmt := top 9
theorem sc_is_integer : FnScope ["value"] ["value"] (defScope s_is_integer) := ⟨rfl, rfl, rfl, by decide +kernel, rfl, by decide +kernel, by decide +kernel⟩
abbrev s_is_from : Stmt := top 11
theorem sc_is_from : FnScope ["value", "least"] ["value", "least"] (defScope s_is_from) := ⟨rfl, rfl, rfl, by decide +kernel, rfl, by decide +kernel, by decide +kernel⟩
abbrev s_is_number : Stmt := top 10
theorem sc_is_number : FnScope ["value"] ["value"] (defScope s_is_number) := ⟨rfl, rfl, rfl, by decide +kernel, rfl, by decide +kernel, by decide +kernel⟩
abbrev s_wrong_number : Stmt := top 25
theorem sc_wrong_number : FnScope ["need", "of", "base", "more", "most", "calm"] ["need", "of", "base", "more", "most", "calm"] (defScope s_wrong_number) := ⟨rfl, rfl, rfl, by decide +kernel, rfl, by decide +kernel, by decide +kernel⟩
abbrev s_wrong_word : Stmt := top 26
theorem sc_wrong_word : FnScope ["back", "top", "under", "up", "hears"] ["back", "top", "under", "up", "hears"] (defScope s_wrong_word) := ⟨rfl, rfl, rfl, by decide +kernel, rfl, by decide +kernel, by decide +kernel⟩
abbrev s_Rule___init__ : Stmt := inClass (top 29) 0
theorem sc_Rule___init__ : FnScope ["self", "need", "of", "base", "more", "most", "calm", "back", "top", "under", "up", "hears", "word"] ["self", "need", "of", "base", "more", "most", "calm", "back", "top", "under", "up", "hears"] (defScope s_Rule___init__) := ⟨rfl, rfl, rfl, by decide +kernel, rfl, by decide +kernel, by decide +kernel⟩
abbrev s_Rule_read : Stmt := inClass (top 29) 1
theorem sc_Rule_read : FnScope ["cls", "text", "words", "plain", "share", "back", "up", "hears", "at"] ["cls", "text"] (defScope s_Rule_read) := ⟨rfl, rfl, rfl, by decide +kernel, rfl, by decide +kernel, by decide +kernel⟩
abbrev s__law_pick : Stmt := top 34
theorem sc__law_pick : FnScope ["_law_box_here", "_law_some"] ["_law_box_here", "_law_some"] (defScope s__law_pick) := ⟨rfl, rfl, rfl, by decide +kernel, rfl, by decide +kernel, by decide +kernel⟩
abbrev s_need_goal : Stmt := top 15
theorem sc_need_goal : FnScope ["goal"] ["goal"] (defScope s_need_goal) := ⟨rfl, rfl, rfl, by decide +kernel, rfl, by decide +kernel, by decide +kernel⟩
abbrev s_up_to : Stmt := top 16
theorem sc_up_to : FnScope ["many", "by"] ["many", "by"] (defScope s_up_to) := ⟨rfl, rfl, rfl, by decide +kernel, rfl, by decide +kernel, by decide +kernel⟩
abbrev s_least_short : Stmt := top 19
theorem sc_least_short : FnScope ["rule"] ["rule"] (defScope s_least_short) := ⟨rfl, rfl, rfl, by decide +kernel, rfl, by decide +kernel, by decide +kernel⟩
abbrev s_Rule_time : Stmt := inClass (top 29) 2
theorem sc_Rule_time : FnScope ["self", "j"] ["self", "j"] (defScope s_Rule_time) := ⟨rfl, rfl, rfl, by decide +kernel, rfl, by decide +kernel, by decide +kernel⟩
abbrev s_is_lasting : Stmt := top 17
theorem sc_is_lasting : FnScope ["rule"] ["rule"] (defScope s_is_lasting) := ⟨rfl, rfl, rfl, by decide +kernel, rfl, by decide +kernel, by decide +kernel⟩
abbrev s_is_missable : Stmt := top 18
theorem sc_is_missable : FnScope ["rule"] ["rule"] (defScope s_is_missable) := ⟨rfl, rfl, rfl, by decide +kernel, rfl, by decide +kernel, by decide +kernel⟩
abbrev s_numbers : Stmt := top 20
theorem sc_numbers : FnScope ["rule", "goal", "is_whole", "least"] ["rule", "goal"] (defScope s_numbers) := ⟨rfl, rfl, rfl, by decide +kernel, rfl, by decide +kernel, by decide +kernel⟩
abbrev s_law : Stmt := top 36
theorem sc_law : FnScope ["_law_script", "_law_cases", "_law_k", "_law_box_here", "_law_share", "_law_back", "_law_due", "_law_long", "_law_head", "_law_made", "_law_short", "_law_hears"] ["_law_script"] (defScope s_law) := ⟨rfl, rfl, rfl, by decide +kernel, rfl, by decide +kernel, by decide +kernel⟩
structure Tx (w : World) (K : PySem.W.Frag) (mg : Str → Option Value) : Prop where
  b_abs : mg "abs" = none
  b_all : mg "all" = none
  b_bool : mg "bool" = none
  b_int : mg "int" = none
  b_isinstance : mg "isinstance" = none
  b_len : mg "len" = none
  b_list : mg "list" = none
  b_max : mg "max" = none
  b_min : mg "min" = none
  b_range : mg "range" = none
  b_str : mg "str" = none
  b_zip : mg "zip" = none
  c_Rule : Cls K (He.ga K "Rule")
  n_Rule_back : NoAttr K (He.ga K "Rule") "back"
  n_Rule_base : NoAttr K (He.ga K "Rule") "base"
  n_Rule_calm : NoAttr K (He.ga K "Rule") "calm"
  n_Rule_cap : NoAttr K (He.ga K "Rule") "cap"
  n_Rule_hears : NoAttr K (He.ga K "Rule") "hears"
  n_Rule_more : NoAttr K (He.ga K "Rule") "more"
  n_Rule_most : NoAttr K (He.ga K "Rule") "most"
  n_Rule_need : NoAttr K (He.ga K "Rule") "need"
  n_Rule_of : NoAttr K (He.ga K "Rule") "of"
  n_Rule_top : NoAttr K (He.ga K "Rule") "top"
  n_Rule_under : NoAttr K (He.ga K "Rule") "under"
  n_Rule_up : NoAttr K (He.ga K "Rule") "up"
  g_Rule : mg "Rule" = some (.ref (He.ga K "Rule"))
  g_BACKS : mg "BACKS" = some (.ref (He.ga K "BACKS"))
  t_BACKS : ∀ H, SqT K H (He.ga K "BACKS") [.str "half", .str "open", .str "trial"]
  g_DIGITS : ∃ t, mg "DIGITS" = some (.str "0123456789" t)
  g_GOALS : mg "GOALS" = some (.ref (He.ga K "GOALS"))
  t_GOALS : ∀ H, SqT K H (He.ga K "GOALS") [.str "all", .str "kept", .str "swap"]
  g_HEARD : mg "HEARD" = some (.ref (He.ga K "HEARD"))
  t_HEARD : ∀ H, SqT K H (He.ga K "HEARD") [.str "fault", .str "no", .str "out"]
  g_ROUNDS : mg "ROUNDS" = some (.ref (He.ga K "ROUNDS"))
  tbl_ROUNDS : ∀ X : Cx, X.K = K → X.w = w → Tbl X "ROUNDS" tb_ROUNDS
  d__law_box : Df K mg "_law_box" s__law_box
  d__law_take : Df K mg "_law_take" s__law_take
  d__law_shuffled : Df K mg "_law_shuffled" s__law_shuffled
  d_number_in : Df K mg "number_in" s_number_in
  d_numbers_in : Df K mg "numbers_in" s_numbers_in
  d_share_in : Df K mg "share_in" s_share_in
  d_is_word : Df K mg "is_word" s_is_word
  d_words_between : Df K mg "words_between" s_words_between
  d_is_integer : Df K mg "is_integer" s_is_integer
  d_is_from : Df K mg "is_from" s_is_from
  d_is_number : Df K mg "is_number" s_is_number
  d_wrong_number : Df K mg "wrong_number" s_wrong_number
  d_wrong_word : Df K mg "wrong_word" s_wrong_word
  k_Rule : Ki K mg "Rule" (He.ga K "Rule") "Rule.__init__" s_Rule___init__
  cd_Rule_read : Cmd K (He.ga K "Rule") "read" "Rule.read" s_Rule_read
  d__law_pick : Df K mg "_law_pick" s__law_pick
  d_need_goal : Df K mg "need_goal" s_need_goal
  d_up_to : Df K mg "up_to" s_up_to
  d_least_short : Df K mg "least_short" s_least_short
  d_Rule_time : Md K (He.ga K "Rule") "time" "Rule.time" s_Rule_time
  d_is_lasting : Df K mg "is_lasting" s_is_lasting
  d_is_missable : Df K mg "is_missable" s_is_missable
  d_numbers : Df K mg "numbers" s_numbers
  d_law : Df K mg "law" s_law
section
variable {P : Program} {w : World} {K : PySem.W.Frag} {mg : Str → Option Value} {base : Heap}
theorem Tx.F__law_box (T : Tx w K mg) : MFn P w K mg base 1 "_law_box" 2 F__law_box :=
  mfn_df T.d__law_box (k := 0) (b := f__law_box) sc__law_box (fun _ _ _ _ _ _ us hl => match us, hl with | [_, _], _ => rfl) fun f cdv A outer s H E gd =>
    dss_cons (ds_set (i := 2) sc__law_box.nd rfl (Or.inl rfl) (de_op op_add' (de_op op_mul' (de_int) (dv 1)) (de_int)))
    (dss_cons (ds_if (dt_cmp op_lt' (dv 1) (de_callB call_len' (by rfl) T.b_len (by decide +kernel) (da_cons (dv 0) (da_nil))) (nomark _)) (dss_one (ds_set (i := 2) sc__law_box.nd rfl (Or.inl rfl) (de_callB call_abs' (by rfl) T.b_abs (by decide +kernel) (da_cons (de_callT call_int' (by rfl) T.b_int (by decide +kernel) (da_cons (de_ixA gd (dv 0) (dv 1)) (da_nil))) (da_nil))))) (dss_one (ds_if (dt_cmp op_gt' (de_callB call_len' (by rfl) T.b_len (by decide +kernel) (da_cons (dv 0) (da_nil))) (de_int) (nomark _)) (dss_one (ds_set (i := 2) sc__law_box.nd rfl (Or.inl rfl) (de_op op_add' (dv 2) (de_op op_mul' (de_op op_mod' (de_callT call_int' (by rfl) T.b_int (by decide +kernel) (da_cons (de_ixA gd (dv 0) (de_op op_mod' (de_callT call_int' (by rfl) T.b_int (by decide +kernel) (da_cons (dv 1) (da_nil))) (de_callB call_len' (by rfl) T.b_len (by decide +kernel) (da_cons (dv 0) (da_nil))))) (da_nil))) (de_int)) (de_int))))) (dss_nil))))
    (dss_cons (ds_set (i := 3) sc__law_box.nd rfl (Or.inl rfl) (de_op op_add' (de_op op_mod' (de_callT call_int' (by rfl) T.b_int (by decide +kernel) (da_cons (de_op op_add' (de_op op_add' (de_op op_mul' (de_op op_mod' (de_callT call_int' (by rfl) T.b_int (by decide +kernel) (da_cons (dv 2) (da_nil))) (de_int)) (de_int)) (de_op op_mul' (de_int) (dv 1))) (de_int)) (da_nil))) (de_int)) (de_int)))
    (dss_one (ds_ret (de_newL (da_cons (de_ixA gd (de_lst (da_cons (de_int) (da_cons (dv 2) (da_nil)))) (de_callT call_int' (by rfl) T.b_int (by decide +kernel) (da_cons (de_cmp op_ge' (dv 2) (de_op op_pow' (de_int) (de_int)) (nomark _)) (da_nil)))) (da_cons (dv 3) (da_cons (de_int) (da_nil)))))))))
theorem Tx.F__law_take (T : Tx w K mg) : MFn P w K mg base 1 "_law_take" 2 F__law_take :=
  mfn_df T.d__law_take (k := 0) (b := f__law_take) sc__law_take (fun _ _ _ _ _ _ us hl => match us, hl with | [_, _], _ => rfl) fun f cdv A outer s H E gd =>
    dss_cons (ds_if (dt_cmp op_gt' (de_ixA gd (dv 0) (de_int)) (de_int) (nomark _)) (dss_cons (ds_set (i := 2) sc__law_take.nd rfl (Or.inl rfl) (de_op op_mod' (de_callT call_int' (by rfl) T.b_int (by decide +kernel) (da_cons (de_ixA gd (dv 0) (de_int)) (da_nil))) (dv 1)))
    (dss_cons (ds_asg (de_op op_fdiv' (de_ixA gd (dv 0) (de_int)) (dv 1)) (dg_subA gd (dv 0) (de_int)))
    (dss_one (ds_ret (dv 2))))) (dss_nil))
    (dss_cons (ds_asg (de_op op_add' (de_ixA gd (dv 0) (de_int)) (de_int)) (dg_subA gd (dv 0) (de_int)))
    (dss_cons (ds_set (i := 3) sc__law_take.nd rfl (Or.inl rfl) (de_op op_mod' (de_callT call_int' (by rfl) T.b_int (by decide +kernel) (da_cons (de_op op_mul' (de_op op_add' (de_ixA gd (dv 0) (de_int)) (de_op op_mul' (de_int) (de_ixA gd (dv 0) (de_int)))) (de_int)) (da_nil))) (de_int)))
    (dss_cons (ds_asg (de_op op_add' (de_op op_mod' (de_callT call_int' (by rfl) T.b_int (by decide +kernel) (da_cons (de_op op_add' (de_op op_mul' (dv 3) (de_int)) (de_int)) (da_nil))) (de_int)) (de_int)) (dg_subA gd (dv 0) (de_int)))
    (dss_one (ds_ret (de_op op_mod' (de_callT call_int' (by rfl) T.b_int (by decide +kernel) (da_cons (de_op op_fdiv' (de_op op_add' (de_op op_mul' (dv 3) (de_int)) (de_ixA gd (dv 0) (de_int))) (de_int)) (da_nil))) (dv 1)))))))
theorem Tx.F__law_shuffled (T : Tx w K mg) : MFn P w K mg base 2 "_law_shuffled" 2 F__law_shuffled :=
  mfn_df T.d__law_shuffled (k := 1) (b := f__law_shuffled) sc__law_shuffled (fun _ _ _ _ _ _ us hl => match us, hl with | [_, _], _ => rfl) fun f cdv A outer s H E gd =>
    dss_cons (ds_par (by rfl) sc__law_shuffled.nd (i := 2) (j := 3) rfl rfl (by decide) rfl rfl (da_cons (de_lisN (by rfl) T.b_list (dv 1)) (da_cons (de_newL (da_nil)) (da_nil))) (by rfl))
    (dss_cons (ds_for PassesOwn.never rfl (di_range1 (by rfl) T.b_range (da_cons (de_callB call_len' (by rfl) T.b_len (by decide +kernel) (da_cons (dv 2) (da_nil))) (da_nil))) (dg_of (dgn_name (i := 4) sc__law_shuffled.nd rfl (Or.inl rfl))) (dss_one (ds_expr (de_append (dv 3) (da_cons (de_popAt (dv 2) (da_cons (de_mfn T.F__law_take (gd.mono (by decide)) (by rfl) (da_cons (dv 0) (da_cons (de_callB call_len' (by rfl) T.b_len (by decide +kernel) (da_cons (dv 2) (da_nil))) (da_nil)))) (da_nil))) (da_nil))))))
    (dss_one (ds_ret (dv 3))))
theorem Tx.F_number_in (T : Tx w K mg) : PFn P w K mg base 1 "number_in" 2 F_number_in :=
  pfn_df T.d_number_in (k := 0) (b := f_number_in) sc_number_in (fun _ _ _ _ _ _ us hl => match us, hl with | [_, _], _ => rfl) fun f cdv A outer s H E gd =>
    dss_cons (ds_if (dt_w (dw_or (dt_not (dt_chain op_le' op_le' (de_int) (de_callB call_len' (by rfl) T.b_len (by decide +kernel) (da_cons (dv 0) (da_nil))) (dv 1))) (dw_or1 (dt_not (dt_val (de_callB (call_all' rfl) (by rfl) T.b_all (by decide +kernel) (da_cons (de_lc rfl sc_number_in.nd (di_any (dv 0)) (blkOk_by (own := [("sign", 2)]) (N := ["word", "most", "sign"]) (sc := defScope s_number_in) (by decide +kernel)) (fun _ _ _ _ _ => dgn_name (i := 2) sc_number_in.nd rfl (Or.inl rfl)) (fun _ _ _ _ _ => dts_nil) (fun _ _ _ _ _ => de_cmp (op_inA gd.blk) (dv 2) (de_gstr (by rfl) T.g_DIGITS) (by rfl))) (da_nil)))))))) (dss_one (ds_ret (de_non))) (dss_nil))
    (dss_one (ds_ret (de_if (dt_w (dw_or (dt_cmp (op_eq' gd) (dv 0) (de_str) (nomark _)) (dw_or1 (dt_cmp (op_ne' gd) (de_ixA gd (dv 0) (de_int)) (de_str) (nomark _))))) (de_callT call_int' (by rfl) T.b_int (by decide +kernel) (da_cons (dv 0) (da_nil))) (de_non))))
theorem Tx.F_numbers_in (T : Tx w K mg) : PFn P w K mg base 2 "numbers_in" 1 F_numbers_in :=
  pfn_df T.d_numbers_in (k := 1) (b := f_numbers_in) sc_numbers_in (fun _ _ _ _ _ _ us hl => match us, hl with | [_], _ => rfl) fun f cdv A outer s H E gd =>
    dss_cons (ds_setLc (i := 1) rfl sc_numbers_in.nd rfl rfl (sw_true rfl rfl rfl (by decide +kernel)) (di_any (dv 0)) (blkOk_by (own := [("word", 2)]) (N := ["words", "found", "word"]) (sc := defScope s_numbers_in) (by decide +kernel)) (fun _ _ _ _ _ => dgn_name (i := 2) sc_numbers_in.nd rfl (Or.inl rfl)) (fun _ _ _ _ _ => dts_nil) (fun _ _ _ _ _ => de_pfn T.F_number_in (gd.blk.mono (by decide)) (by rfl) (da_cons (dv 2) (da_cons (de_int) (da_nil)))))
    (dss_one (ds_ret (de_if (dt_cmp (op_inA gd) (de_non) (dv 1) (by rfl)) (de_non) (dv 1))))
theorem Tx.F_share_in (T : Tx w K mg) : PFn P w K mg base 3 "share_in" 1 F_share_in :=
  pfn_df T.d_share_in (k := 2) (b := f_share_in) sc_share_in (fun _ _ _ _ _ _ us hl => match us, hl with | [_], _ => rfl) fun f cdv A outer s H E gd =>
    dss_cons (ds_set (i := 1) sc_share_in.nd rfl (Or.inl rfl) (de_split (dv 0) (de_str)))
    (dss_one (ds_ret (de_if (dt_cmp (op_eq' gd) (de_callB call_len' (by rfl) T.b_len (by decide +kernel) (da_cons (dv 1) (da_nil))) (de_int) (nomark _)) (de_pfn T.F_numbers_in (gd.mono (by decide)) (by rfl) (da_cons (dv 1) (da_nil))) (de_non))))
theorem Tx.F_is_word (T : Tx w K mg) : PFn P w K mg base 1 "is_word" 2 F_is_word :=
  pfn_df T.d_is_word (k := 0) (b := f_is_word) sc_is_word (fun _ _ _ _ _ _ us hl => match us, hl with | [_, _], _ => rfl) fun f cdv A outer s H E gd =>
    dss_one (ds_ret (de_and (de_callB call_isi' (by rfl) T.b_isinstance (by decide +kernel) (da_cons (dv 0) (da_cons (de_ty (t := "str") (by rfl) T.b_str (by decide +kernel)) (da_nil)))) (de_one (de_cmp (op_inA gd) (dv 0) (dv 1) (by rfl)))))
theorem Tx.F_words_between (T : Tx w K mg) : PFn P w K mg base 2 "words_between" 1 F_words_between :=
  pfn_df T.d_words_between (k := 1) (b := f_words_between) sc_words_between (fun _ _ _ _ _ _ us hl => match us, hl with | [_], _ => rfl) fun f cdv A outer s H E gd =>
    dss_cons (ds_set (i := 1) sc_words_between.nd rfl (Or.inl rfl) (de_lisN (by rfl) T.b_list (dv 0)))
    (dss_cons (ds_for PassesOwn.never rfl (di_zipM (by rfl) T.b_zip (da_cons (de_tup (da_cons (de_int) (da_cons (de_int) (da_cons (de_int) (da_cons (de_int) (da_cons (de_int) (da_cons (de_int) (da_cons (de_int) (da_cons (de_int) (da_cons (de_int) (da_nil))))))))))) (da_cons (de_split (de_str) (de_str)) (da_nil)))) (dg_of (dgn_tup rfl (dgns_cons (i := 2) sc_words_between.nd rfl (Or.inl rfl) (dgns_cons (i := 3) sc_words_between.nd rfl (Or.inl rfl) (dgns_nil))))) (dss_one (ds_asg (dv 3) (dg_subA gd (dv 1) (dv 2)))))
    (dss_one (ds_ret (de_if (dt_w (dw_and (dt_val (de_pfn T.F_is_word (gd.mono (by decide)) (by rfl) (da_cons (de_ixA gd (dv 0) (de_int)) (da_cons (de_gtup (ds := [.str "half", .str "open", .str "trial"]) (by rfl) T.g_BACKS T.t_BACKS (fun _ _ => .cons (.str _) (.cons (.str _) (.cons (.str _) (.nil))))) (da_nil))))) (dw_and1 (dt_val (de_pfn T.F_is_word (gd.mono (by decide)) (by rfl) (da_cons (de_ixA gd (dv 0) (de_int)) (da_cons (de_gtup (ds := [.str "fault", .str "no", .str "out"]) (by rfl) T.g_HEARD T.t_HEARD (fun _ _ => .cons (.str _) (.cons (.str _) (.cons (.str _) (.nil))))) (da_nil)))))))) (dv 1) (de_lst (da_nil))))))
theorem Tx.F_is_integer (T : Tx w K mg) : PFn P w K mg base 1 "is_integer" 1 F_is_integer :=
  pfn_df T.d_is_integer (k := 0) (b := f_is_integer) sc_is_integer (fun _ _ _ _ _ _ us hl => match us, hl with | [_], _ => rfl) fun f cdv A outer s H E gd =>
    dss_one (ds_ret (de_and (de_callB call_isi' (by rfl) T.b_isinstance (by decide +kernel) (da_cons (dv 0) (da_cons (de_ty (t := "int") (by rfl) T.b_int (by decide +kernel)) (da_nil)))) (de_one (de_not (de_callB call_isi' (by rfl) T.b_isinstance (by decide +kernel) (da_cons (dv 0) (da_cons (de_ty (t := "bool") (by rfl) T.b_bool (by decide +kernel)) (da_nil))))))))
theorem Tx.F_is_from (T : Tx w K mg) : PFn P w K mg base 2 "is_from" 2 F_is_from :=
  pfn_df T.d_is_from (k := 1) (b := f_is_from) sc_is_from (fun _ _ _ _ _ _ us hl => match us, hl with | [_, _], _ => rfl) fun f cdv A outer s H E gd =>
    dss_one (ds_ret (de_and (de_pfn T.F_is_integer (gd.mono (by decide)) (by rfl) (da_cons (dv 0) (da_nil))) (de_one (de_cmp op_ge' (dv 0) (dv 1) (nomark _)))))
theorem Tx.F_is_number (T : Tx w K mg) : PFn P w K mg base 2 "is_number" 1 F_is_number :=
  pfn_df T.d_is_number (k := 1) (b := f_is_number) sc_is_number (fun _ _ _ _ _ _ us hl => match us, hl with | [_], _ => rfl) fun f cdv A outer s H E gd =>
    dss_one (ds_ret (de_and (de_pfn T.F_is_integer (gd.mono (by decide)) (by rfl) (da_cons (dv 0) (da_nil))) (de_one (de_cmp op_ge' (dv 0) (de_int) (nomark _)))))
theorem Tx.F_wrong_number (T : Tx w K mg) : PFn P w K mg base 3 "wrong_number" 6 F_wrong_number :=
  pfn_df T.d_wrong_number (k := 2) (b := f_wrong_number) sc_wrong_number (fun _ _ _ _ _ _ us hl => match us, hl with | [_, _, _, _, _, _], _ => rfl) fun f cdv A outer s H E gd =>
    dss_cons (ds_if (dt_not (dt_val (de_pfn T.F_is_from (gd.mono (by decide)) (by rfl) (da_cons (dv 0) (da_cons (de_int) (da_nil)))))) (dss_one (ds_ret (de_str))) (dss_nil))
    (dss_cons (ds_if (dt_not (dt_val (de_pfn T.F_is_from (gd.mono (by decide)) (by rfl) (da_cons (dv 1) (da_cons (dv 0) (da_nil)))))) (dss_one (ds_ret (de_str))) (dss_nil))
    (dss_cons (ds_if (dt_not (dt_val (de_pfn T.F_is_from (gd.mono (by decide)) (by rfl) (da_cons (dv 2) (da_cons (de_int) (da_nil)))))) (dss_one (ds_ret (de_str))) (dss_nil))
    (dss_cons (ds_if (dt_not (dt_val (de_pfn T.F_is_number (gd.mono (by decide)) (by rfl) (da_cons (dv 3) (da_nil))))) (dss_one (ds_ret (de_str))) (dss_nil))
    (dss_cons (ds_if (dt_not (dt_val (de_pfn T.F_is_from (gd.mono (by decide)) (by rfl) (da_cons (dv 4) (da_cons (dv 2) (da_nil)))))) (dss_one (ds_ret (de_str))) (dss_nil))
    (dss_one (ds_ret (de_if (dt_val (de_pfn T.F_is_number (gd.mono (by decide)) (by rfl) (da_cons (dv 5) (da_nil)))) (de_non) (de_str))))))))
theorem Tx.F_wrong_word (T : Tx w K mg) : PFn P w K mg base 3 "wrong_word" 5 F_wrong_word :=
  pfn_df T.d_wrong_word (k := 2) (b := f_wrong_word) sc_wrong_word (fun _ _ _ _ _ _ us hl => match us, hl with | [_, _, _, _, _], _ => rfl) fun f cdv A outer s H E gd =>
    dss_cons (ds_if (dt_not (dt_val (de_pfn T.F_is_word (gd.mono (by decide)) (by rfl) (da_cons (dv 0) (da_cons (de_gtup (ds := [.str "half", .str "open", .str "trial"]) (by rfl) T.g_BACKS T.t_BACKS (fun _ _ => .cons (.str _) (.cons (.str _) (.cons (.str _) (.nil))))) (da_nil)))))) (dss_one (ds_ret (de_str))) (dss_nil))
    (dss_cons (ds_if (dt_not (dt_val (de_pfn T.F_is_number (gd.mono (by decide)) (by rfl) (da_cons (dv 1) (da_nil))))) (dss_one (ds_ret (de_str))) (dss_nil))
    (dss_cons (ds_if (dt_w (dw_or (dt_not (dt_val (de_pfn T.F_is_integer (gd.mono (by decide)) (by rfl) (da_cons (dv 2) (da_nil))))) (dw_or (dt_cmp op_lt' (dv 2) (de_int) (nomark _)) (dw_or1 (dt_cmp op_lt' (dv 2) (dv 1) (nomark _)))))) (dss_one (ds_ret (de_str))) (dss_nil))
    (dss_cons (ds_if (dt_not (dt_val (de_callB call_isi' (by rfl) T.b_isinstance (by decide +kernel) (da_cons (dv 3) (da_cons (de_ty (t := "bool") (by rfl) T.b_bool (by decide +kernel)) (da_nil)))))) (dss_one (ds_ret (de_str))) (dss_nil))
    (dss_one (ds_ret (de_if (dt_val (de_pfn T.F_is_word (gd.mono (by decide)) (by rfl) (da_cons (dv 4) (da_cons (de_gtup (ds := [.str "fault", .str "no", .str "out"]) (by rfl) T.g_HEARD T.t_HEARD (fun _ _ => .cons (.str _) (.cons (.str _) (.cons (.str _) (.nil))))) (da_nil))))) (de_non) (de_str)))))))
theorem Tx.F_Rule___init__ (T : Tx w K mg) : MNw P w K mg base 4 "Rule" 12 F_Rule___init__ :=
  mnw_ki T.k_Rule (k := 3) (b := f_Rule___init__) sc_Rule___init__ (fun _ _ _ _ _ _ us hl => match us, hl with | [_, _, _, _, _, _, _, _, _, _, _, _], _ => rfl) fun f cdv A outer s H E gd =>
    dss_cons (ds_set (i := 12) sc_Rule___init__.nd rfl (Or.inl rfl) (de_pfn T.F_wrong_number (gd.mono (by decide)) (by rfl) (da_cons (dv 1) (da_cons (dv 2) (da_cons (dv 3) (da_cons (dv 4) (da_cons (dv 5) (da_cons (dv 6) (da_nil)))))))))
    (dss_cons (ds_if (dt_isN (dv 12)) (dss_one (ds_set (i := 12) sc_Rule___init__.nd rfl (Or.inl rfl) (de_pfn T.F_wrong_word (gd.mono (by decide)) (by rfl) (da_cons (dv 7) (da_cons (dv 8) (da_cons (dv 9) (da_cons (dv 10) (da_cons (dv 11) (da_nil))))))))) (dss_nil))
    (dss_cons (ds_if (dt_notN (dv 12)) (dss_one (ds_never)) (dss_nil))
    (dss_cons (ds_fld (na1 T.c_Rule T.n_Rule_need) (dv 0) (dv 1))
    (dss_cons (ds_fld (na1 T.c_Rule T.n_Rule_of) (dv 0) (dv 2))
    (dss_cons (ds_fld (na1 T.c_Rule T.n_Rule_base) (dv 0) (dv 3))
    (dss_cons (ds_fld (na1 T.c_Rule T.n_Rule_more) (dv 0) (dv 4))
    (dss_cons (ds_fld (na1 T.c_Rule T.n_Rule_most) (dv 0) (dv 5))
    (dss_cons (ds_fld (na1 T.c_Rule T.n_Rule_calm) (dv 0) (dv 6))
    (dss_cons (ds_fld (na1 T.c_Rule T.n_Rule_back) (dv 0) (dv 7))
    (dss_cons (ds_fld (na1 T.c_Rule T.n_Rule_top) (dv 0) (dv 8))
    (dss_cons (ds_fld (na1 T.c_Rule T.n_Rule_under) (dv 0) (dv 9))
    (dss_cons (ds_fld (na1 T.c_Rule T.n_Rule_up) (dv 0) (dv 10))
    (dss_cons (ds_fld (na1 T.c_Rule T.n_Rule_hears) (dv 0) (dv 11))
    (dss_one (ds_fld (na1 T.c_Rule T.n_Rule_cap) (dv 0) (de_if (dt_cmp (op_eq' gd) (dv 4) (de_int) (nomark _)) (de_int) (de_op op_add' (de_int) (de_op op_fdiv' (de_op op_sub' (de_op op_add' (de_op op_sub' (dv 5) (dv 3)) (dv 4)) (de_int)) (dv 4)))))))))))))))))))
theorem Tx.F_Rule_read (T : Tx w K mg) : PCm P w K mg base 6 "Rule" "read" 1 F_Rule_read :=
  pcm_md T.cd_Rule_read (k := 5) (b := f_Rule_read) sc_Rule_read (fun _ _ _ _ _ _ us hl => match us, hl with | [_, _], _ => rfl) fun f cdv A outer s H E gd =>
    dss_cons (ds_set (i := 2) sc_Rule_read.nd rfl (Or.inr rfl) (de_split (dv 1) (de_str)))
    (dss_cons (ds_if (dt_cmp (op_ne' gd) (de_callB call_len' (by rfl) T.b_len (by decide +kernel) (da_cons (dv 2) (da_nil))) (de_int) (nomark _)) (dss_one (ds_never)) (dss_nil))
    (dss_cons (ds_set (i := 3) sc_Rule_read.nd rfl (Or.inl rfl) (de_pfn T.F_numbers_in (gd.mono (by decide)) (by rfl) (da_cons (de_lc rfl sc_Rule_read.nd (di_any (de_tup (da_cons (de_int) (da_cons (de_int) (da_cons (de_int) (da_cons (de_int) (da_cons (de_int) (da_cons (de_int) (da_nil))))))))) (blkOk_by (own := [("at", 8)]) (N := ["cls", "text", "words", "plain", "share", "back", "up", "hears", "at"]) (sc := defScope s_Rule_read) (by decide +kernel)) (fun _ _ _ _ _ => dgn_name (i := 8) sc_Rule_read.nd rfl (Or.inl rfl)) (fun _ _ _ _ _ => dts_nil) (fun _ _ _ _ _ => de_ixA gd.blk (dv 2) (dv 8))) (da_nil))))
    (dss_cons (ds_set (i := 4) sc_Rule_read.nd rfl (Or.inl rfl) (de_pfn T.F_share_in (gd.mono (by decide)) (by rfl) (da_cons (de_ixA gd (dv 2) (de_int)) (da_nil))))
    (dss_cons (ds_if (dt_w (dw_or (dt_isN (dv 3)) (dw_or (dt_isN (dv 4)) (dw_or1 (dt_tblNin (T.tbl_ROUNDS _ rfl rfl) (by rfl) T.g_ROUNDS (de_ixA gd (dv 2) (de_int))))))) (dss_one (ds_never)) (dss_nil))
    (dss_cons (ds_if (dt_cmp (op_ne' gd) (dv 2) (de_pfn T.F_words_between (gd.mono (by decide)) (by rfl) (da_cons (dv 2) (da_nil))) (nomark _)) (dss_one (ds_never)) (dss_nil))
    (dss_cons (ds_par3 (by rfl) sc_Rule_read.nd (i := 5) (j := 6) (l := 7) rfl rfl rfl (by decide) (by decide) (by decide) rfl rfl rfl (da_cons (de_ixA gd (dv 2) (de_int)) (da_cons (de_tbl (T.tbl_ROUNDS _ rfl rfl) (by rfl) T.g_ROUNDS (de_ixA gd (dv 2) (de_int))) (da_cons (de_ixA gd (dv 2) (de_int)) (da_nil)))) (by rfl))
    (dss_one (ds_ret (de_newPL (i := 0) T.F_Rule___init__ (gd.mono (by decide)) rfl (Or.inl rfl) (da_star (dv 3) (da_cons (dv 5) (da_star (dv 4) (da_cons (dv 6) (da_cons (dv 7) (da_nil)))))))))))))))
theorem Tx.F__law_pick (T : Tx w K mg) : MFn P w K mg base 2 "_law_pick" 2 F__law_pick :=
  mfn_df T.d__law_pick (k := 1) (b := f__law_pick) sc__law_pick (fun _ _ _ _ _ _ us hl => match us, hl with | [_, _], _ => rfl) fun f cdv A outer s H E gd =>
    dss_one (ds_ret (de_ixA gd (dv 1) (de_mfn T.F__law_take (gd.mono (by decide)) (by rfl) (da_cons (dv 0) (da_cons (de_callB call_len' (by rfl) T.b_len (by decide +kernel) (da_cons (dv 1) (da_nil))) (da_nil))))))
theorem Tx.F_need_goal (T : Tx w K mg) : PFn P w K mg base 1 "need_goal" 1 F_need_goal :=
  pfn_df T.d_need_goal (k := 0) (b := f_need_goal) sc_need_goal (fun _ _ _ _ _ _ us hl => match us, hl with | [_], _ => rfl) fun f cdv A outer s H E gd =>
    dss_one (ds_if (dt_w (dw_or (dt_not (dt_val (de_callB call_isi' (by rfl) T.b_isinstance (by decide +kernel) (da_cons (dv 0) (da_cons (de_ty (t := "str") (by rfl) T.b_str (by decide +kernel)) (da_nil)))))) (dw_or1 (dt_cmp (op_ninA gd) (dv 0) (de_gtup (ds := [.str "all", .str "kept", .str "swap"]) (by rfl) T.g_GOALS T.t_GOALS (fun _ _ => .cons (.str _) (.cons (.str _) (.cons (.str _) (.nil))))) (by rfl))))) (dss_one (ds_never)) (dss_nil))
theorem Tx.F_up_to (T : Tx w K mg) : PFn P w K mg base 1 "up_to" 2 F_up_to :=
  pfn_df T.d_up_to (k := 0) (b := f_up_to) sc_up_to (fun _ _ _ _ _ _ us hl => match us, hl with | [_, _], _ => rfl) fun f cdv A outer s H E gd =>
    dss_one (ds_ret (de_un un_neg' (de_op op_fdiv' (de_un un_neg' (dv 0)) (dv 1))))
theorem Tx.F_least_short (T : Tx w K mg) : PFn P w K mg base 2 "least_short" 1 F_least_short :=
  pfn_df T.d_least_short (k := 1) (b := f_least_short) sc_least_short (fun _ _ _ _ _ _ us hl => match us, hl with | [_], _ => rfl) fun f cdv A outer s H E gd =>
    dss_one (ds_ret (de_if (dt_val (de_fld (na1 T.c_Rule T.n_Rule_up) (dv 0))) (de_pfn T.F_up_to (gd.mono (by decide)) (by rfl) (da_cons (de_fld (na1 T.c_Rule T.n_Rule_under) (dv 0)) (da_cons (de_op op_sub' (de_fld (na1 T.c_Rule T.n_Rule_under) (dv 0)) (de_fld (na1 T.c_Rule T.n_Rule_top) (dv 0))) (da_nil)))) (de_int)))
theorem Tx.F_Rule_time (T : Tx w K mg) : PMt P w K mg base 1 "Rule" "time" 2 F_Rule_time :=
  pmt_md T.d_Rule_time T.c_Rule (k := 0) (b := f_Rule_time) sc_Rule_time (fun _ _ _ _ _ _ us hl => match us, hl with | [_, _], _ => rfl) fun f cdv A outer s H E gd =>
    dss_one (ds_ret (de_callB (call_min2'' rfl) (by rfl) T.b_min (by decide +kernel) (da_cons (de_callT call_int' (by rfl) T.b_int (by decide +kernel) (da_cons (de_op op_add' (de_fld (na1 T.c_Rule T.n_Rule_base) (dv 0)) (de_op op_mul' (de_fld (na1 T.c_Rule T.n_Rule_more) (dv 0)) (de_op op_sub' (dv 1) (de_int)))) (da_nil))) (da_cons (de_callT call_int' (by rfl) T.b_int (by decide +kernel) (da_cons (de_fld (na1 T.c_Rule T.n_Rule_most) (dv 0)) (da_nil))) (da_nil)))))
theorem Tx.F_is_lasting (T : Tx w K mg) : PFn P w K mg base 2 "is_lasting" 1 F_is_lasting :=
  pfn_df T.d_is_lasting (k := 1) (b := f_is_lasting) sc_is_lasting (fun _ _ _ _ _ _ us hl => match us, hl with | [_], _ => rfl) fun f cdv A outer s H E gd =>
    dss_one (ds_ret (de_or (de_cmp (op_eq' gd) (de_fld (na1 T.c_Rule T.n_Rule_back) (dv 0)) (de_str) (nomark _)) (de_one (de_cmp op_gt' (de_pmt T.F_Rule_time (gd.mono (by decide)) (dv 0) (da_cons (de_fld (na1 T.c_Rule T.n_Rule_cap) (dv 0)) (da_nil))) (de_int) (nomark _)))))
theorem Tx.F_is_missable (T : Tx w K mg) : PFn P w K mg base 3 "is_missable" 1 F_is_missable :=
  pfn_df T.d_is_missable (k := 2) (b := f_is_missable) sc_is_missable (fun _ _ _ _ _ _ us hl => match us, hl with | [_], _ => rfl) fun f cdv A outer s H E gd =>
    dss_one (ds_ret (de_or (de_pfn T.F_is_lasting (gd.mono (by decide)) (by rfl) (da_cons (dv 0) (da_nil))) (de_one (de_cmp (op_ne' gd) (de_fld (na1 T.c_Rule T.n_Rule_hears) (dv 0)) (de_str) (nomark _)))))
theorem Tx.F_numbers (T : Tx w K mg) : PFn P w K mg base 4 "numbers" 2 F_numbers :=
  pfn_df T.d_numbers (k := 3) (b := f_numbers) sc_numbers (fun _ _ _ _ _ _ us hl => match us, hl with | [_, _], _ => rfl) fun f cdv A outer s H E gd =>
    dss_cons (ds_expr (de_pfn T.F_need_goal (gd.mono (by decide)) (by rfl) (da_cons (dv 1) (da_nil))))
    (dss_cons (ds_set (i := 2) sc_numbers.nd rfl (Or.inl rfl) (de_cmp (op_eq' gd) (de_fld (na1 T.c_Rule T.n_Rule_top) (dv 0)) (de_fld (na1 T.c_Rule T.n_Rule_under) (dv 0)) (nomark _)))
    (dss_cons (ds_if (dt_cmp (op_eq' gd) (dv 1) (de_str) (nomark _)) (dss_cons (ds_if (dt_val (dv 2)) (dss_one (ds_ret (de_tup (da_cons (de_int) (da_cons (de_non) (da_nil)))))) (dss_nil))
    (dss_one (ds_ret (de_if (dt_w (dw_and (dt_val (de_fld (na1 T.c_Rule T.n_Rule_up) (dv 0))) (dw_and1 (dt_cmp op_gt' (de_fld (na1 T.c_Rule T.n_Rule_top) (dv 0)) (de_int) (nomark _))))) (de_tup (da_cons (de_int) (da_cons (de_op op_sub' (de_pfn T.F_least_short (gd.mono (by decide)) (by rfl) (da_cons (dv 0) (da_nil))) (de_int)) (da_nil)))) (de_non))))) (dss_nil))
    (dss_cons (ds_if (dt_w (dw_or (dt_val (dv 2)) (dw_or1 (dt_w (dw_and (dt_cmp (op_eq' gd) (dv 1) (de_str) (nomark _)) (dw_and1 (dt_w (dw_or (dt_cmp (op_eq' gd) (de_fld (na1 T.c_Rule T.n_Rule_top) (dv 0)) (de_int) (nomark _)) (dw_or1 (dt_not (dt_val (de_pfn T.F_is_missable (gd.mono (by decide)) (by rfl) (da_cons (dv 0) (da_nil)))))))))))))) (dss_one (ds_ret (de_non))) (dss_nil))
    (dss_cons (ds_set (i := 3) sc_numbers.nd rfl (Or.inl rfl) (de_pfn T.F_least_short (gd.mono (by decide)) (by rfl) (da_cons (dv 0) (da_nil))))
    (dss_one (ds_ret (de_tup (da_cons (de_if (dt_w (dw_or (dt_cmp (op_eq' gd) (dv 1) (de_str) (nomark _)) (dw_or1 (dt_val (de_fld (na1 T.c_Rule T.n_Rule_up) (dv 0)))))) (dv 3) (de_pfn T.F_up_to (gd.mono (by decide)) (by rfl) (da_cons (de_fld (na1 T.c_Rule T.n_Rule_under) (dv 0)) (da_cons (de_fld (na1 T.c_Rule T.n_Rule_top) (dv 0)) (da_nil))))) (da_cons (de_non) (da_nil))))))))))
theorem Tx.law_fn (T : Tx w K mg) {f : Addr} {fd : FuncData} (F : Fun K "law" "law" s_law f fd) : FnG P w K mg base CX0 7 f fd ["_law_script"] (spP ⟨P, w, K⟩ 1 F_law) := by
  have h := law_df (k := 6) (b := f_law) (P := P) (w := w) (mg := mg) (base := base) F sc_law fun f cdv A outer s H E gd =>
    dss_cons (ds_set (i := 1) sc_law.nd rfl (Or.inl rfl) (de_newL (da_cons (de_tup (da_cons (de_str) (da_cons (de_str) (da_cons (de_tup (da_cons (de_non) (da_cons (de_tup (da_cons (de_int) (da_cons (de_non) (da_nil)))) (da_cons (de_tup (da_cons (de_int) (da_cons (de_non) (da_nil)))) (da_nil))))) (da_nil))))) (da_cons (de_tup (da_cons (de_str) (da_cons (de_str) (da_cons (de_tup (da_cons (de_tup (da_cons (de_int) (da_cons (de_int) (da_nil)))) (da_cons (de_tup (da_cons (de_int) (da_cons (de_non) (da_nil)))) (da_cons (de_tup (da_cons (de_int) (da_cons (de_non) (da_nil)))) (da_nil))))) (da_nil))))) (da_nil)))))
    (dss_cons (ds_expr (de_append (dv 1) (da_cons (de_tup (da_cons (de_str) (da_cons (de_str) (da_cons (de_tup (da_cons (de_non) (da_cons (de_tup (da_cons (de_int) (da_cons (de_non) (da_nil)))) (da_cons (de_tup (da_cons (de_int) (da_cons (de_non) (da_nil)))) (da_nil))))) (da_nil))))) (da_nil))))
    (dss_cons (ds_expr (de_append (dv 1) (da_cons (de_tup (da_cons (de_str) (da_cons (de_str) (da_cons (de_tup (da_cons (de_tup (da_cons (de_int) (da_cons (de_int) (da_nil)))) (da_cons (de_tup (da_cons (de_int) (da_cons (de_non) (da_nil)))) (da_cons (de_tup (da_cons (de_int) (da_cons (de_non) (da_nil)))) (da_nil))))) (da_nil))))) (da_nil))))
    (dss_cons (ds_expr (de_append (dv 1) (da_cons (de_tup (da_cons (de_str) (da_cons (de_str) (da_cons (de_tup (da_cons (de_tup (da_cons (de_int) (da_cons (de_int) (da_nil)))) (da_cons (de_tup (da_cons (de_int) (da_cons (de_non) (da_nil)))) (da_cons (de_tup (da_cons (de_int) (da_cons (de_non) (da_nil)))) (da_nil))))) (da_nil))))) (da_nil))))
    (dss_cons (ds_expr (de_append (dv 1) (da_cons (de_tup (da_cons (de_str) (da_cons (de_str) (da_cons (de_tup (da_cons (de_non) (da_cons (de_tup (da_cons (de_int) (da_cons (de_non) (da_nil)))) (da_cons (de_tup (da_cons (de_int) (da_cons (de_non) (da_nil)))) (da_nil))))) (da_nil))))) (da_nil))))
    (dss_cons (ds_expr (de_append (dv 1) (da_cons (de_tup (da_cons (de_str) (da_cons (de_str) (da_cons (de_tup (da_cons (de_non) (da_cons (de_tup (da_cons (de_int) (da_cons (de_non) (da_nil)))) (da_cons (de_non) (da_nil))))) (da_nil))))) (da_nil))))
    (dss_cons (ds_expr (de_append (dv 1) (da_cons (de_tup (da_cons (de_str) (da_cons (de_str) (da_cons (de_tup (da_cons (de_non) (da_cons (de_tup (da_cons (de_int) (da_cons (de_non) (da_nil)))) (da_cons (de_non) (da_nil))))) (da_nil))))) (da_nil))))
    (dss_cons (ds_expr (de_append (dv 1) (da_cons (de_tup (da_cons (de_str) (da_cons (de_str) (da_cons (de_tup (da_cons (de_tup (da_cons (de_int) (da_cons (de_non) (da_nil)))) (da_cons (de_non) (da_cons (de_non) (da_nil))))) (da_nil))))) (da_nil))))
    (dss_cons (ds_expr (de_append (dv 1) (da_cons (de_tup (da_cons (de_str) (da_cons (de_str) (da_cons (de_tup (da_cons (de_tup (da_cons (de_int) (da_cons (de_non) (da_nil)))) (da_cons (de_non) (da_cons (de_non) (da_nil))))) (da_nil))))) (da_nil))))
    (dss_cons (ds_expr (de_append (dv 1) (da_cons (de_tup (da_cons (de_str) (da_cons (de_str) (da_cons (de_tup (da_cons (de_tup (da_cons (de_int) (da_cons (de_int) (da_nil)))) (da_cons (de_tup (da_cons (de_int) (da_cons (de_non) (da_nil)))) (da_cons (de_tup (da_cons (de_int) (da_cons (de_non) (da_nil)))) (da_nil))))) (da_nil))))) (da_nil))))
    (dss_cons (ds_expr (de_append (dv 1) (da_cons (de_tup (da_cons (de_str) (da_cons (de_str) (da_cons (de_tup (da_cons (de_tup (da_cons (de_int) (da_cons (de_int) (da_nil)))) (da_cons (de_tup (da_cons (de_int) (da_cons (de_non) (da_nil)))) (da_cons (de_tup (da_cons (de_int) (da_cons (de_non) (da_nil)))) (da_nil))))) (da_nil))))) (da_nil))))
    (dss_cons (ds_expr (de_append (dv 1) (da_cons (de_tup (da_cons (de_str) (da_cons (de_str) (da_cons (de_tup (da_cons (de_non) (da_cons (de_tup (da_cons (de_int) (da_cons (de_non) (da_nil)))) (da_cons (de_tup (da_cons (de_int) (da_cons (de_non) (da_nil)))) (da_nil))))) (da_nil))))) (da_nil))))
    (dss_cons (ds_for PassesOwn.never rfl (di_range1 (by rfl) T.b_range (da_cons (de_callB (call_max2'' rfl) (by rfl) T.b_max (by decide +kernel) (da_cons (de_int) (da_cons (de_callB (call_min2'' rfl) (by rfl) T.b_min (by decide +kernel) (da_cons (de_int) (da_cons (de_callB call_len' (by rfl) T.b_len (by decide +kernel) (da_cons (dv 0) (da_nil))) (da_nil)))) (da_nil)))) (da_nil))) (dg_of (dgn_name (i := 2) sc_law.nd rfl (Or.inl rfl))) (dss_cons (ds_set (i := 3) sc_law.nd rfl (Or.inl rfl) (de_mfn T.F__law_box (gd.mono (by decide)) (by rfl) (da_cons (dv 0) (da_cons (dv 2) (da_nil)))))
    (dss_one (ds_forA big PassesOwn.never rfl (de_mfn T.F__law_shuffled (gd.mono (by decide)) (by rfl) (da_cons (dv 3) (da_cons (dv 1) (da_nil)))) (dg_of (dgn_tup rfl (dgns_cons (i := 4) sc_law.nd rfl (Or.inl rfl) (dgns_cons (i := 5) sc_law.nd rfl (Or.inl rfl) (dgns_cons (i := 6) sc_law.nd rfl (Or.inl rfl) (dgns_nil)))))) (dss_cons (ds_set (i := 7) sc_law.nd rfl (Or.inl rfl) (de_op op_add' (de_int) (de_mfn T.F__law_take (gd.mono (by decide)) (by rfl) (da_cons (dv 3) (da_cons (de_int) (da_nil))))))
    (dss_cons (ds_set (i := 8) sc_law.nd rfl (Or.inl rfl) (de_op op_add' (de_op op_add' (de_op op_add' (de_str) (de_callT call_str' (by rfl) T.b_str (by decide +kernel) (da_cons (dv 7) (da_nil)))) (de_str)) (de_callT call_str' (by rfl) T.b_str (by decide +kernel) (da_cons (dv 7) (da_nil)))))
    (dss_cons (ds_set (i := 8) sc_law.nd rfl (Or.inl rfl) (de_op op_add' (de_op op_add' (dv 8) (de_str)) (dv 5)))
    (dss_cons (ds_set (i := 9) sc_law.nd rfl (Or.inl rfl) (de_pcm T.F_Rule_read (gd.mono (by decide)) (by rfl) T.g_Rule (da_cons (de_op op_add' (de_op op_add' (de_op op_add' (de_op op_add' (dv 8) (de_str)) (dv 4)) (de_str)) (de_mfn T.F__law_pick (gd.mono (by decide)) (by rfl) (da_cons (dv 3) (da_cons (de_lst (da_cons (de_str) (da_cons (de_str) (da_cons (de_str) (da_nil))))) (da_nil))))) (da_nil))))
    (dss_cons (ds_if (dt_cmp (op_ne' gd) (de_tup (da_cons (de_pfn T.F_numbers (gd.mono (by decide)) (by rfl) (da_cons (dv 9) (da_cons (de_str) (da_nil)))) (da_cons (de_pfn T.F_numbers (gd.mono (by decide)) (by rfl) (da_cons (dv 9) (da_cons (de_str) (da_nil)))) (da_cons (de_pfn T.F_numbers (gd.mono (by decide)) (by rfl) (da_cons (dv 9) (da_cons (de_str) (da_nil)))) (da_nil))))) (dv 6) (nomark _)) (dss_one (ds_ret (de_bl))) (dss_nil))
    (dss_cons (ds_set (i := 8) sc_law.nd rfl (Or.inl rfl) (de_op op_add' (de_str) (dv 5)))
    (dss_cons (ds_set (i := 10) sc_law.nd rfl (Or.inl rfl) (de_pcm T.F_Rule_read (gd.mono (by decide)) (by rfl) T.g_Rule (da_cons (de_op op_add' (de_op op_add' (de_op op_add' (dv 8) (de_str)) (dv 4)) (de_str)) (da_nil))))
    (dss_cons (ds_if (dt_cmp (op_ne' gd) (de_pfn T.F_numbers (gd.mono (by decide)) (by rfl) (da_cons (dv 10) (da_cons (de_str) (da_nil)))) (de_if (dt_cmp (op_eq' gd) (dv 5) (de_str) (nomark _)) (de_ixA gd (dv 6) (de_int)) (de_non)) (nomark _)) (dss_one (ds_ret (de_bl))) (dss_nil))
    (dss_cons (ds_if (dt_cmp (op_ne' gd) (de_tup (da_cons (de_pfn T.F_numbers (gd.mono (by decide)) (by rfl) (da_cons (dv 10) (da_cons (de_str) (da_nil)))) (da_cons (de_pfn T.F_numbers (gd.mono (by decide)) (by rfl) (da_cons (dv 10) (da_cons (de_str) (da_nil)))) (da_nil)))) (de_sl (dv 6) (dp_no) (dp_yes (de_int))) (nomark _)) (dss_one (ds_ret (de_bl))) (dss_nil))
    (dss_cons (ds_for PassesOwn.never rfl (di_any (de_tup (da_cons (de_str) (da_cons (de_str) (da_nil))))) (dg_of (dgn_name (i := 11) sc_law.nd rfl (Or.inl rfl))) (dss_one (ds_if (dt_cmp (op_ne' gd) (de_pfn T.F_numbers (gd.mono (by decide)) (by rfl) (da_cons (de_pcm T.F_Rule_read (gd.mono (by decide)) (by rfl) T.g_Rule (da_cons (de_op op_add' (de_op op_add' (de_op op_add' (de_op op_add' (dv 8) (de_str)) (dv 4)) (de_str)) (dv 11)) (da_nil))) (da_cons (de_str) (da_nil)))) (de_ixA gd (dv 6) (de_int)) (nomark _)) (dss_one (ds_ret (de_bl))) (dss_nil))))
    (dss_cons (ds_set (i := 8) sc_law.nd rfl (Or.inl rfl) (de_op op_add' (de_str) (dv 5)))
    (dss_one (ds_if (dt_cmp (op_ne' gd) (de_pfn T.F_numbers (gd.mono (by decide)) (by rfl) (da_cons (de_pcm T.F_Rule_read (gd.mono (by decide)) (by rfl) T.g_Rule (da_cons (de_op op_add' (de_op op_add' (de_op op_add' (dv 8) (de_str)) (dv 4)) (de_str)) (da_nil))) (da_cons (de_str) (da_nil)))) (de_ixA gd (dv 6) (de_int)) (nomark _)) (dss_one (ds_ret (de_bl))) (dss_nil))))))))))))))))))
    (dss_one (ds_ret (de_bl)))))))))))))))
  exact h
end
end L4
namespace L4
open PySem PySem.Spec PyProof.Rows L2
open L3 (Fx fx_at SaysW hookW obsWG obsWG_eq Tabs gdef mdef cdef cmB df_of md_of ki_of cmd_of)
def fxs : List Fx := [.fa (.free "abs"), .fa (.free "all"), .fa (.free "bool"), .fa (.free "int"), .fa (.free "isinstance"), .fa (.free "len"), .fa (.free "list"), .fa (.free "max"), .fa (.free "min"), .fa (.free "range"), .fa (.free "str"), .fa (.free "zip"), .fa (.cls "Rule"), .fa (.noat "Rule" "back"), .fa (.noat "Rule" "base"), .fa (.noat "Rule" "calm"), .fa (.noat "Rule" "cap"), .fa (.noat "Rule" "hears"), .fa (.noat "Rule" "more"), .fa (.noat "Rule" "most"), .fa (.noat "Rule" "need"), .fa (.noat "Rule" "of"), .fa (.noat "Rule" "top"), .fa (.noat "Rule" "under"), .fa (.noat "Rule" "up"), .fa (.glo "Rule"), .fa (.glo "BACKS"), .tup "BACKS" [.str "half", .str "open", .str "trial"], .fa (.str "DIGITS" "0123456789"), .fa (.glo "GOALS"), .tup "GOALS" [.str "all", .str "kept", .str "swap"], .fa (.glo "HEARD"), .tup "HEARD" [.str "fault", .str "no", .str "out"], .fa (.glo "ROUNDS"), .bo (fun K => tblB K (He.ga K "ROUNDS") tb_ROUNDS), .bo (fun K => nsOnly K (He.ga K "ROUNDS") ["down", "up"]), .fa (.glo "_law_box"), .fa (.glo "_law_take"), .fa (.glo "_law_shuffled"), .fa (.glo "number_in"), .fa (.glo "numbers_in"), .fa (.glo "share_in"), .fa (.glo "is_word"), .fa (.glo "words_between"), .fa (.glo "is_integer"), .fa (.glo "is_from"), .fa (.glo "is_number"), .fa (.glo "wrong_number"), .fa (.glo "wrong_word"), .fa (.mkr "Rule"), .bo (cmB "Rule" "read"), .fa (.glo "_law_pick"), .fa (.glo "need_goal"), .fa (.glo "up_to"), .fa (.glo "least_short"), .fa (.meth "Rule" "time"), .fa (.glo "is_lasting"), .fa (.glo "is_missable"), .fa (.glo "numbers"), .fa (.glo "law")]
def fns : List He5.DefA := [gdef "_law_box" s__law_box, gdef "_law_take" s__law_take, gdef "_law_shuffled" s__law_shuffled, gdef "number_in" s_number_in, gdef "numbers_in" s_numbers_in, gdef "share_in" s_share_in, gdef "is_word" s_is_word, gdef "words_between" s_words_between, gdef "is_integer" s_is_integer, gdef "is_from" s_is_from, gdef "is_number" s_is_number, gdef "wrong_number" s_wrong_number, gdef "wrong_word" s_wrong_word, mdef "Rule" "__init__" "Rule.__init__" s_Rule___init__, cdef "Rule" "read" "Rule.read" s_Rule_read, gdef "_law_pick" s__law_pick, gdef "need_goal" s_need_goal, gdef "up_to" s_up_to, gdef "least_short" s_least_short, mdef "Rule" "time" "Rule.time" s_Rule_time, gdef "is_lasting" s_is_lasting, gdef "is_missable" s_is_missable, gdef "numbers" s_numbers, gdef "law" s_law]
def exs (K : PySem.W.Frag) : Bool := fxs.all fun f => f.ok K
abbrev hR : PySem.W.OpenRow := PySem.W.OpenLaw.row PySem.Challenge.rw_sitout_k37_numbers_known_by_hand
def htabs : Tabs := [("ROUNDS", ["down", "up"])]
abbrev hk : PySem.W.Hook := hookW 5 exs fns htabs
def hob (s : PySem.W.SharedT) : hk.α := obsWG 5 exs fns htabs (HandSHeadRun.getT s)
theorem hob_eq (s : PySem.W.SharedT) : hob s = hk.obs s.abs := obsWG_eq (HandSHeadRun.getT_eq s)
def hnm0 : List PySem.Str := ["_wall", "__name__", "SitError", "InvalidRule", "InvalidText", "InvalidGoal", "GOALS", "DIGITS", "is_integer", "is_number", "is_from", "is_word", "number_in", "need_goal", "up_to", "is_lasting", "is_missable", "least_short", "numbers", "BACKS", "HEARD", "ROUNDS", "wrong_number", "wrong_word", "numbers_in", "share_in", "Rule", "words_between", "_law_box", "_law_take"]
def hnm1 : List PySem.Str := ["_law_pick", "_law_shuffled"]
def hnames : List PySem.Str := hnm0 ++ hnm1
theorem hrunA (w : World) : HandSHeadRun.RunEq hR (PySem.W.view hR.prog [36]) hk hob 8000 hnames (w.withFollow "special-get-raises" false) := by
  intro os
  kernel_rfl
theorem hrunB (w : World) : HandSHeadRun.RunEq hR (PySem.W.view hR.prog [36]) hk hob 8000 hnames (w.withFollow "special-get-raises" true) := by
  intro os
  kernel_rfl
theorem hrun (w : World) : HandSHeadRun.RunEq hR (PySem.W.view hR.prog [36]) hk hob 8000 hnames w := PySem.W.byRow2 "special-get-raises" hrunA hrunB w
theorem tx_of {w : World} {K : PySem.W.Frag} {h : Heap} {mg : Str → Option Value} (X : K.In h) (G : h.Ns mainGlobals mg) (c : SaysW exs fns htabs w K) : Tx w K mg := by
  have s := c.b
  have hx : (fxs.all fun f => f.ok K) = true := s.fx
  exact ⟨He.free_ok X G (fx_at hx 0 (f := .fa (.free "abs"))),
    He.free_ok X G (fx_at hx 1 (f := .fa (.free "all"))),
    He.free_ok X G (fx_at hx 2 (f := .fa (.free "bool"))),
    He.free_ok X G (fx_at hx 3 (f := .fa (.free "int"))),
    He.free_ok X G (fx_at hx 4 (f := .fa (.free "isinstance"))),
    He.free_ok X G (fx_at hx 5 (f := .fa (.free "len"))),
    He.free_ok X G (fx_at hx 6 (f := .fa (.free "list"))),
    He.free_ok X G (fx_at hx 7 (f := .fa (.free "max"))),
    He.free_ok X G (fx_at hx 8 (f := .fa (.free "min"))),
    He.free_ok X G (fx_at hx 9 (f := .fa (.free "range"))),
    He.free_ok X G (fx_at hx 10 (f := .fa (.free "str"))),
    He.free_ok X G (fx_at hx 11 (f := .fa (.free "zip"))),
    He.cls_ok (fx_at hx 12 (f := .fa (.cls "Rule"))),
    He.noat_ok (fx_at hx 13 (f := .fa (.noat "Rule" "back"))),
    He.noat_ok (fx_at hx 14 (f := .fa (.noat "Rule" "base"))),
    He.noat_ok (fx_at hx 15 (f := .fa (.noat "Rule" "calm"))),
    He.noat_ok (fx_at hx 16 (f := .fa (.noat "Rule" "cap"))),
    He.noat_ok (fx_at hx 17 (f := .fa (.noat "Rule" "hears"))),
    He.noat_ok (fx_at hx 18 (f := .fa (.noat "Rule" "more"))),
    He.noat_ok (fx_at hx 19 (f := .fa (.noat "Rule" "most"))),
    He.noat_ok (fx_at hx 20 (f := .fa (.noat "Rule" "need"))),
    He.noat_ok (fx_at hx 21 (f := .fa (.noat "Rule" "of"))),
    He.noat_ok (fx_at hx 22 (f := .fa (.noat "Rule" "top"))),
    He.noat_ok (fx_at hx 23 (f := .fa (.noat "Rule" "under"))),
    He.noat_ok (fx_at hx 24 (f := .fa (.noat "Rule" "up"))),
    He.glo_ok X G (fx_at hx 25 (f := .fa (.glo "Rule"))),
    He.glo_ok X G (fx_at hx 26 (f := .fa (.glo "BACKS"))),
    fun H => He.tupB_ok (fx_at hx 27 (f := .tup "BACKS" [.str "half", .str "open", .str "trial"])) H,
    He.str_ok X G (fx_at hx 28 (f := .fa (.str "DIGITS" "0123456789"))),
    He.glo_ok X G (fx_at hx 29 (f := .fa (.glo "GOALS"))),
    fun H => He.tupB_ok (fx_at hx 30 (f := .tup "GOALS" [.str "all", .str "kept", .str "swap"])) H,
    He.glo_ok X G (fx_at hx 31 (f := .fa (.glo "HEARD"))),
    fun H => He.tupB_ok (fx_at hx 32 (f := .tup "HEARD" [.str "fault", .str "no", .str "out"])) H,
    He.glo_ok X G (fx_at hx 33 (f := .fa (.glo "ROUNDS"))),
    fun X hK hW => tbl_of hK hW (c.tab 0) (fx_at hx 34 (f := .bo (fun K => tblB K (He.ga K "ROUNDS") tb_ROUNDS))) (fx_at hx 35 (f := .bo (fun K => nsOnly K (He.ga K "ROUNDS") ["down", "up"]))),
    df_of X G (fx_at hx 36 (f := .fa (.glo "_law_box"))) s 0,
    df_of X G (fx_at hx 37 (f := .fa (.glo "_law_take"))) s 1,
    df_of X G (fx_at hx 38 (f := .fa (.glo "_law_shuffled"))) s 2,
    df_of X G (fx_at hx 39 (f := .fa (.glo "number_in"))) s 3,
    df_of X G (fx_at hx 40 (f := .fa (.glo "numbers_in"))) s 4,
    df_of X G (fx_at hx 41 (f := .fa (.glo "share_in"))) s 5,
    df_of X G (fx_at hx 42 (f := .fa (.glo "is_word"))) s 6,
    df_of X G (fx_at hx 43 (f := .fa (.glo "words_between"))) s 7,
    df_of X G (fx_at hx 44 (f := .fa (.glo "is_integer"))) s 8,
    df_of X G (fx_at hx 45 (f := .fa (.glo "is_from"))) s 9,
    df_of X G (fx_at hx 46 (f := .fa (.glo "is_number"))) s 10,
    df_of X G (fx_at hx 47 (f := .fa (.glo "wrong_number"))) s 11,
    df_of X G (fx_at hx 48 (f := .fa (.glo "wrong_word"))) s 12,
    ki_of X G (fx_at hx 25 (f := .fa (.glo "Rule"))) (fx_at hx 12 (f := .fa (.cls "Rule"))) (fx_at hx 49 (f := .fa (.mkr "Rule"))) s 13,
    cmd_of (fx_at hx 50 (f := .bo (cmB "Rule" "read"))) s 14,
    df_of X G (fx_at hx 51 (f := .fa (.glo "_law_pick"))) s 15,
    df_of X G (fx_at hx 52 (f := .fa (.glo "need_goal"))) s 16,
    df_of X G (fx_at hx 53 (f := .fa (.glo "up_to"))) s 17,
    df_of X G (fx_at hx 54 (f := .fa (.glo "least_short"))) s 18,
    md_of (fx_at hx 55 (f := .fa (.meth "Rule" "time"))) s 19,
    df_of X G (fx_at hx 56 (f := .fa (.glo "is_lasting"))) s 20,
    df_of X G (fx_at hx 57 (f := .fa (.glo "is_missable"))) s 21,
    df_of X G (fx_at hx 58 (f := .fa (.glo "numbers"))) s 22,
    df_of X G (fx_at hx 59 (f := .fa (.glo "law"))) s 23⟩
theorem facts {P : Program} {w : World} {K : PySem.W.Frag} {h : Heap} {mg : Str → Option Value} {f : Addr} (X : K.In h) (G : h.Ns mainGlobals mg) (hfa : mg ("law" : Str) = some (.ref f)) (c : SaysW exs fns htabs w K) :
    ∃ fd : FuncData, (∀ (s : Shared) (v : Value), BindsTo s fd ⟨[v], []⟩ [("_law_script", v)]) ∧ ∀ base : Heap, K.In base → base.Ns mainGlobals mg → FnG P w K mg base CX0 7 f fd ["_law_script"] (spP ⟨P, w, K⟩ 1 F_law) := by
  have T := tx_of X G c
  obtain ⟨f1, fd, F, g⟩ := T.d_law.ex
  have e := hfa.symm.trans g
  cases e
  refine ⟨fd, fun s v => ?_, fun base _ _ => T.law_fn F⟩
  obtain ⟨oc, od, kV, doc, pm, an, cdv, ct, osl, rfl, lk, hcd⟩ := F.ex
  exact .of_eq rfl
end L4
open PySem PySem.W PySem.Calls PyProof.Rows in
set_option maxRecDepth 100000 in
set_option maxHeartbeats 0 in
theorem PySem.Challenge.cw_sitout_k37_numbers_known_by_hand_holds : PySem.Challenge.rw_sitout_k37_numbers_known_by_hand.Holds := by
  w_on; o_law
  refine HandSHeadRun.head_any (r := OpenLaw.row PySem.Challenge.rw_sitout_k37_numbers_known_by_hand) (q := view (OpenLaw.row PySem.Challenge.rw_sitout_k37_numbers_known_by_hand).prog [36]) (H := L4.hk) (ob := L4.hob) (M := 8000) (loose := L4.hnames) (d := HandSHeadRun.topDef (OpenLaw.row PySem.Challenge.rw_sitout_k37_numbers_known_by_hand).prog 36) (kwd := []) L4.hob_eq
    (by kernel_rfl) (fun s => by kernel_rfl) L4.hrun (by kernel_rfl) (by kernel_rfl) (by kernel_rfl) (by rfl) (by first | assumption | decide +kernel) (by decide +kernel) ⟨rfl, rfl, rfl, rfl, rfl, by decide +kernel⟩ ?hw ?hc
  case hw => w_witness2
  case hc =>
    refine L4.walkL (l := PySem.Challenge.rw_sitout_k37_numbers_known_by_hand) (n := 63) (k := 7) (x := "_law_script") (FL := L4.F_law) rfl (by decide) (by kernel_rfl) ⟨rfl, by decide, by decide⟩ L4.law_plain ?F
    intro w mg fa h Y G hmg0
    obtain ⟨K, KX, c⟩ := Y
    have hmg : mg ("law" : PySem.Str) = some (.ref fa) := by
      have e : (HandSHeadRun.topDef (OpenLaw.row PySem.Challenge.rw_sitout_k37_numbers_known_by_hand).prog 36).name = ("law" : PySem.Str) := by kernel_rfl
      rw [← e]
      exact hmg0
    obtain ⟨fd, hb, hF⟩ := L4.facts (P := (PySem.Challenge.rw_sitout_k37_numbers_known_by_hand).prog) (w := w) KX G hmg c
    exact ⟨K, fd, KX, hb, hF⟩
#print axioms PySem.Challenge.cw_sitout_k37_numbers_known_by_hand_holds
