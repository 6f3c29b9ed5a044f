import PyProof.Rows.All
import Wide.All
import OpenK.AllK
import Wide.FinOn
import HandS.ForMost
import HandS.Evl
import HandS.Codes
import HandS.Defaults
import HandS.IsInst
import HandS.FStr
import KE.KStateDown
import Lean
import HandS.HeadEnd
import HandS.HeadNt
import HandS.HeadHook3
import HandS.Head0
import HandS.Head1
import HandS.Head2
import HandS.Style
import HandS.OwnEq
import KE.KCallOwn
import HandS.Star
import HandS.ClsMeth
import HandS.CallLocal
import KE.GoesNew
import KE.GoesEnum
import HandS.Walk
import HandS.Sort
import HandS.Conv
import HandS.RaiseMore
import HandS.WordsDict
import PyProof.ReprRoads
import KE.KDictKeyed
import KE.KDictPairs
import KE.KDictWalk
import KE.KDictDisplayH
import KE.KDictCopyH
import KE.KDictList
import HandS.Deep
import HandS.TupAny
import HandS.TupMul
import HandS.Zip
import KE.KUnpackStar
import KE.SortData
import KE.KDictSum
import HandS.Replace
import KE.GoesComp
import KE.GoesMore
import HandS.ReplaceLit
import HandS.More
import PySem.Challenge.RW_sitout_k06_texts_of_rules
set_option Elab.async false
set_option linter.all false
set_option maxRecDepth 100000
set_option maxHeartbeats 4000000
namespace L3
open PySem L2 Evl
/-! objects of which an invariant alone is told -/
def Flat : HO → Prop
  | .lst _ => True
  | .dK _ => True
  | _ => False
def anyO (P : Program) (w : World) (S : HO → Prop) (a : Addr) : HO := .ext fun h => ∃ u, S u ∧ ObjOk P w (fun _ => none) h a u
section
variable {P : Program} {w : World} {H H' : Hp} {h h' : Heap} {a : Addr} {u : HO}
theorem flat_any (f : Flat u) (o : ObjOk P w H h a u) : ObjOk P w H' h a u := by
  cases u with
  | lst xs => exact o
  | dK kvs => exact o
  | _ => exact f.elim
theorem any_of {S : HO → Prop} (f : Flat u) (s : S u) (hf : ∀ u, S u → Flat u) (o : ObjOk P w H h a u) : ObjOk P w H' h a (anyO P w S a) := by
  refine ⟨⟨u, s, flat_any f o⟩, ?_, ?_⟩
  · cases u with
    | lst xs => obtain ⟨_, its, n, _, e⟩ := o; exact ⟨_, e⟩
    | dK kvs => obtain ⟨_, _, _, _, ob, _, _, e, _⟩ := o; exact ⟨_, e⟩
    | _ => exact f.elim
  · rintro h1 h2 ⟨u', s', o'⟩ k
    refine ⟨u', s', o'.stay (fun b v hb e => ?_) (fun b e => nomatch e) fun b xs e => nomatch e⟩
    rcases hb with rfl | hb
    · exact k v e
    · cases hb
end
/-- the same heap told by less: some lists and dicts by an invariant alone -/
def Abs (P : Program) (w : World) (H H' : Hp) : Prop := ∀ a, H' a = H a ∨ ∃ u S, H a = some u ∧ (∀ u, S u → Flat u) ∧ S u ∧ H' a = some (anyO P w S a)
section
variable {P : Program} {w : World} {H H' H0 : Hp} {h h0 : Heap}
theorem Abs.hok (b : Abs P w H H') (o : HOk P w H h) : HOk P w H' h := fun a u e => by
  have ho : ∀ c y, H c = some (.own y) → H' c = some (.own y) := fun c y q => by
    rcases b c with z | ⟨u, S, e1, f, s, e2⟩
    · rw [z]; exact q
    · rw [q] at e1; cases e1; exact (f _ s).elim
  have ht : ∀ c xs, H c = some (.tup xs) → H' c = some (.tup xs) := fun c y q => by
    rcases b c with z | ⟨u, S, e1, f, s, e2⟩
    · rw [z]; exact q
    · rw [q] at e1; cases e1; exact (f _ s).elim
  rcases b a with z | ⟨u', S, e1, f, s, e2⟩
  · rw [z] at e
    exact (o a u e).stay (fun _ _ _ q => q) (fun c q => ho c a q) ht
  · rw [e2] at e
    cases e
    exact any_of (f _ s) s f (o a u' e1)
theorem Abs.un {fs ex : List Addr} (b : Abs P w H H') (u : Un fs ex H0 H h0 h) : Un fs ex H0 H' h0 h where
  keep := u.keep
  slot := u.slot
  free := fun c o q n hx => by
    have z := u.free c o q n hx
    rcases b c with r | ⟨_, _, e1, _⟩
    · rw [r]; exact z
    · rw [z] at e1; cases e1
  there := u.there
  tups := fun c xs q => by
    have z := u.tups c xs q
    rcases b c with r | ⟨_, _, e1, f, s, _⟩
    · rw [r]; exact z
    · rw [z] at e1; cases e1; exact (f _ s).elim
  frzs := fun c o v q => by
    have z := u.frzs c o v q
    rcases b c with r | ⟨_, _, e1, f, s, _⟩
    · rw [r]; exact z
    · rw [z] at e1; cases e1; exact (f _ s).elim
  tbls := fun c ps q => by
    obtain ⟨m, z⟩ := u.tbls c ps q
    rcases b c with r | ⟨_, _, e1, f, s, _⟩
    · exact ⟨m, by rw [r]; exact z⟩
    · rw [z] at e1; cases e1; exact (f _ s).elim
/-- an object told by its invariant is opened -/
theorem open_hok {a : Addr} {S : HO → Prop} (ha : H a = some (anyO P w S a)) (hf : ∀ u, S u → Flat u) (o : HOk P w H h) : ∃ u, S u ∧ HOk P w (upd H a u) h := by
  obtain ⟨⟨u, s, q⟩, _, _⟩ := o a _ ha
  have ne : ∀ b v, H b = some v → (∀ φ, v ≠ .ext φ) → b ≠ a := fun b v e n z => by
    rw [z, ha] at e; cases e; exact n _ rfl
  refine ⟨u, s, fun b v e => ?_⟩
  by_cases hb : b = a
  · subst hb
    rw [upd_same] at e
    cases e
    exact flat_any (hf _ s) q
  · rw [upd_ne hb] at e
    exact (o b v e).stay (fun _ _ _ q => q) (fun c q => by rw [upd_ne (ne c _ q (fun _ z => nomatch z))]; exact q) fun c xs q => by rw [upd_ne (ne c _ q (fun _ z => nomatch z))]; exact q
theorem open_un {fs ex : List Addr} {a : Addr} {S : HO → Prop} {u0 : HO} (ha : H0 a = some (anyO P w S a)) (x : Un fs ex (upd H0 a u0) H h0 h) : Un fs ex H0 H h0 h := by
  have ne : ∀ b v, H0 b = some v → (∀ φ, v ≠ .ext φ) → b ≠ a := fun b v e n z => by
    rw [z, ha] at e; cases e; exact n _ rfl
  have nn : ∀ b, H0 b = none → b ≠ a := fun b e z => by rw [z, ha] at e; cases e
  exact ⟨fun b o q n => x.keep b o q (by rw [upd_ne (nn b n)]; exact n), fun b o q n => x.slot b o q (by rw [upd_ne (nn b n)]; exact n), fun b o q n => x.free b o q (by rw [upd_ne (nn b n)]; exact n), x.there,
    fun b xs q => x.tups b xs (by rw [upd_ne (ne b _ q (fun _ z => nomatch z))]; exact q), fun b o v q => x.frzs b o v (by rw [upd_ne (ne b _ q (fun _ z => nomatch z))]; exact q), fun b ps q => x.tbls b ps (by rw [upd_ne (ne b _ q (fun _ z => nomatch z))]; exact q)⟩
end
section
variable {P : Program} {w : World} {K : PySem.W.Frag} {mg : Str → Option Value} {base : Heap} {k : Nat} {f : Addr} {fd : FuncData} {ps : List Str} {sp : Sp}
/-- what a def leaves may be told by less -/
theorem post (F : FnOk P w K mg base CX0 k f fd ps sp) : FnOk P w K mg base CX0 k f fd ps (fun vs H Q E => sp vs H (fun v H' => ∃ H'', Abs P w H' H'' ∧ Q v H'') E) := by
  refine ⟨fun vs H Q E q => F.len vs H _ E q, fun A outer s H args us vs Q E hr he hb hv hs => ?_⟩
  refine codeAny_mono (F.run A outer s H args us vs _ E hr he hb hv hs) fun r s' z => ?_
  cases r with
  | error e => exact z
  | ok fl =>
    cases fl with
    | ret u =>
      obtain ⟨v, H', e1, e2, un, ok, rv, H'', ab, q⟩ := z
      exact ⟨v, H'', e1, e2, ab.un un, ab.hok ok, rv, q⟩
    | _ => exact z
/-- an object told by an invariant is opened ahead of the call -/
def opened (P : Program) (w : World) (n : Nat) (sp : Sp) : Sp := fun vs H Q E => vs.length = n ∧ ∃ a S, H a = some (anyO P w S a) ∧ (∀ u, S u → Flat u) ∧ ∀ u, S u → sp vs (upd H a u) Q E
theorem pre (F : FnOk P w K mg base CX0 k f fd ps sp) : FnOk P w K mg base CX0 k f fd ps (opened P w ps.length sp) := by
  refine ⟨fun vs H Q E h => h.1, fun A outer s H args us vs Q E hr he hb hv hs => ?_⟩
  obtain ⟨_, a, S, ha, hf, hq⟩ := hs
  obtain ⟨u, su, ok⟩ := open_hok ha hf he.hok
  have nn : ∀ b, H b = none → b ≠ a := fun b e z => by rw [z, ha] at e; cases e
  have he' : Env0 P w K mg base A outer s (upd H a u) := ⟨he.frames, he.mod, fun b o q => ⟨(he.bs b o q).1, by rw [upd_ne (nn b (he.bs b o q).2)]; exact (he.bs b o q).2⟩, he.bsz, he.funs, fun b q => by rw [upd_ne (nn b (he.frf b q))]; exact he.frf b q, ok, he.bare⟩
  refine codeAny_mono (F.run A outer s (upd H a u) args us vs Q E hr he' hb hv (hq u su)) fun r s' z => ?_
  cases r with
  | error e => exact z.elim
  | ok fl =>
    cases fl with
    | ret u' =>
      obtain ⟨v, H', e1, e2, un, ok', rv, q⟩ := z
      exact ⟨v, H', e1, e2, open_un ha un, ok', rv, q⟩
    | _ => exact z
end
end L3

namespace L3
open PySem L2 Evl
/-! named readings of built-ins -/
def rInt1 : List V → Hp → VK → Prop := fun xs H Q => (∃ i, xs = [.int i] ∧ Q (.int i) H) ∨ ∃ k, xs = [.bl k] ∧ Q (.int (if k then 1 else 0)) H
theorem call_int1' {X : Cx} : CallR X (.type "int") rInt1 := call_int1
def rLenQ (K : PySem.W.Frag) : List V → Hp → VK → Prop := fun xs H Q => ∃ p ys, xs = [.ref p] ∧ (SqL K H p ys ∨ SqT K H p ys) ∧ Q (.int ys.length) H
theorem call_lenQ {X : Cx} : CallR X (.builtin "len") (rLenQ X.K) := call_len_seq
theorem boot_int : bootBuiltins "int" = some (.type "int") := by decide +kernel
/-! the steps of a walk over readings -/
section
variable {σ : L2.St} {H : Hp} {Q : VK} {D : Ends} {QT : Bool → Hp → Prop} {QA : List V → Hp → Prop} {K : PySem.W.Frag}
theorem x_seq {n r b c} {t u : TS} (k : t ⟨u ⟨n, r, b, c⟩, r, b, c⟩ σ H) : tSeq t u ⟨n, r, b, c⟩ σ H := k
theorem x_cut {n r b c} {t u : TS} (B : L2.St → Hp → Prop) (h1 : ∀ nn : L2.St → Hp → Prop, (∀ σ H, B σ H → nn σ H) → t ⟨nn, r, b, c⟩ σ H) (h2 : ∀ σ H, B σ H → u ⟨n, r, b, c⟩ σ H) : tSeq t u ⟨n, r, b, c⟩ σ H := h1 _ h2
theorem x_next {n r b c} (k : n σ H) : tNext ⟨n, r, b, c⟩ σ H := k
theorem x_brk {n r b c} (k : b σ H) : tBreak ⟨n, r, b, c⟩ σ H := k
theorem x_cont {n r b c} (k : c σ H) : tCont ⟨n, r, b, c⟩ σ H := k
theorem x_asg {n r b c} {te : TE} {i : Nat} (k : te σ H fun x H1 => n (σ.set i (some x)) H1) : tAsg te (gName i) ⟨n, r, b, c⟩ σ H := k
theorem x_drop {n r b c} {te : TE} (k : te σ H fun _ H1 => n σ H1) : tDrop te ⟨n, r, b, c⟩ σ H := k
theorem x_ret {n r b c} {te : TE} (k : te σ H r) : tRet te ⟨n, r, b, c⟩ σ H := k
theorem x_retN {n r b c} (k : r .non H) : tRetN ⟨n, r, b, c⟩ σ H := k
theorem x_ifs {n r b c} {cc : TT} {t u : TS} (k : cc σ H fun d H1 => if d = true then t ⟨n, r, b, c⟩ σ H1 else u ⟨n, r, b, c⟩ σ H1) : tIfS cc t u ⟨n, r, b, c⟩ σ H := k
theorem x_while {n r b c} {cc : TT} {tb : TS} (W : Nat → L2.St → Hp → Prop) (m : Nat) (h0 : W m σ H) (h : ∀ m σ H, W m σ H → cc σ H fun d H1 => if d = true then ∃ N : L2.St → Hp → Prop, (∀ σ' H', N σ' H' → ∃ m', m' < m ∧ W m' σ' H') ∧ tb ⟨N, r, n, N⟩ σ H1 else n σ H1) : tWhile cc tb ⟨n, r, b, c⟩ σ H :=
  ⟨W, ⟨m, h0⟩, h⟩
theorem x_turn {n r} {tb : TS} {W : Nat → L2.St → Hp → Prop} {m : Nat} (k : tb ⟨fun σ' H' => ∃ m', m' < m ∧ W m' σ' H', r, n, fun σ' H' => ∃ m', m' < m ∧ W m' σ' H'⟩ σ H) : ∃ N : L2.St → Hp → Prop, (∀ σ' H', N σ' H' → ∃ m', m' < m ∧ W m' σ' H') ∧ tb ⟨N, r, n, N⟩ σ H := ⟨_, fun _ _ q => q, k⟩
theorem x_var {i : Nat} {v : V} (h : σ[i]? = some (some v)) (k : Q v H) : tVar i σ H Q := ⟨v, h, k⟩
theorem x_c {v : V} (k : Q v H) : tC v σ H Q := k
theorem x_op {r : R2} {ta tb : TE} (k : ta σ H fun x H1 => tb σ H1 fun y H2 => r x y H2 Q) : tOp r ta tb σ H Q := k
theorem x_un {r : V → Hp → VK → Prop} {ta : TE} (k : ta σ H fun x H1 => r x H1 Q) : tUn r ta σ H Q := k
theorem x_I0 {g : Int → Int → V} {i j : Int} (k : Q (g i j) H) : rI0 g (.int i) (.int j) H Q := ⟨i, j, rfl, rfl, k⟩
theorem x_I {C : Int → Int → Prop} {g : Int → Int → V} {i j : Int} (c : C i j) (k : Q (g i j) H) : rI C g (.int i) (.int j) H Q := ⟨i, j, rfl, rfl, c, k⟩
theorem x_U {g : Int → V} {i : Int} (k : Q (g i) H) : rU g (.int i) H Q := ⟨i, rfl, k⟩
theorem x_eq {x y : V} (s : scal x y = true) (k : Q (.bl (decide (x = y))) H) : rEq x y H Q := ⟨s, k⟩
theorem x_ne {x y : V} (s : scal x y = true) (k : Q (.bl (!decide (x = y))) H) : rNe x y H Q := ⟨s, k⟩
theorem x_test {te : TE} (k : te σ H fun x H1 => ∃ c, x = .bl c ∧ QT c H1) : tTest te σ H QT := k
theorem x_tb {te : TE} (k : te σ H fun x H1 => ∃ c, x = .bl c ∧ QT c H1) : tB te σ H QT := k
theorem x_bl {c : Bool} (k : QT c H) : ∃ d, V.bl c = .bl d ∧ QT d H := ⟨c, rfl, k⟩
theorem x_and {t u : TT} (k : t σ H fun c H1 => if c = true then u σ H1 QT else QT false H1) : tAnd t u σ H QT := k
theorem x_or {t u : TT} (k : t σ H fun c H1 => if c = true then QT true H1 else u σ H1 QT) : tOr t u σ H QT := k
theorem x_not {t : TT} (k : t σ H fun c H1 => QT (!c) H1) : tNot t σ H QT := k
theorem x_if {t : TT} {ta tb : TE} (k : t σ H fun c H1 => if c = true then ta σ H1 Q else tb σ H1 Q) : tIf t ta tb σ H Q := k
theorem x_andV {ta tb : TE} (k : ta σ H fun x H1 => ∃ c, x = .bl c ∧ if c = true then tb σ H1 Q else Q (.bl false) H1) : tAndV ta tb σ H Q := k
theorem x_orV {ta tb : TE} (k : ta σ H fun x H1 => ∃ c, x = .bl c ∧ if c = true then Q (.bl true) H1 else tb σ H1 Q) : tOrV ta tb σ H Q := k
theorem x_notV {ta : TE} (k : ta σ H fun x H1 => ∃ c, x = .bl c ∧ Q (.bl (!c)) H1) : tNotV ta σ H Q := k
theorem x_blV {c : Bool} {R : Bool → Prop} (k : R c) : ∃ d, V.bl c = .bl d ∧ R d := ⟨c, rfl, k⟩
theorem x_isN {ta : TE} (k : ta σ H fun x H1 => Q (.bl (decide (x = .non))) H1) : tIsN ta σ H Q := k
theorem x_notN {ta : TE} (k : ta σ H fun x H1 => Q (.bl (!decide (x = .non))) H1) : tNotN ta σ H Q := k
theorem x_cb {r : List V → Hp → VK → Prop} {t : TA} (k : t σ H fun vs H1 => r vs H1 Q) : tCB r t σ H Q := k
theorem x_nil (k : QA [] H) : tNil σ H QA := k
theorem x_cons {te : TE} {tr : TA} (k : te σ H fun x H1 => tr σ H1 fun xs H2 => QA (x :: xs) H2) : tCons te tr σ H QA := k
theorem x_int1 {i : Int} (k : Q (.int i) H) : rInt1 [.int i] H Q := .inl ⟨i, rfl, k⟩
theorem x_int1b {b : Bool} (k : Q (.int (if b then 1 else 0)) H) : rInt1 [.bl b] H Q := .inr ⟨b, rfl, k⟩
theorem x_lenL {p : Addr} {ys : List V} (h : H p = some (.lst ys)) (k : Q (.int ys.length) H) : rLenQ K [.ref p] H Q := ⟨p, ys, rfl, .inl (SqL.of h), k⟩
theorem x_lenT {p : Addr} {ys : List V} (h : H p = some (.tup ys)) (k : Q (.int ys.length) H) : rLenQ K [.ref p] H Q := ⟨p, ys, rfl, .inr (SqT.of h), k⟩
theorem x_tup {t : TA} (k : t σ H fun xs H1 => xs.length ≤ sizeLine ∧ ∀ p, H1 p = none → Q (.ref p) (upd H1 p (.tup xs))) : tTup t σ H Q := k
theorem x_lst {t : TA} (k : t σ H fun xs H1 => xs.length ≤ sizeLine ∧ ∀ p, H1 p = none → Q (.ref p) (upd H1 p (.lst xs))) : tLst t σ H Q := k
theorem x_dget {td ty : TE} (k : td σ H fun x H1 => ty σ H1 fun y H2 => ∃ a v, x = .ref a ∧ DGet H2 a y (some v) ∧ Q v H2) : tDGet td ty σ H Q := k
theorem x_dgot {a : Addr} {y v : V} (h : DGet H a y (some v)) (k : Q v H) : ∃ a' v, V.ref a = .ref a' ∧ DGet H a' y (some v) ∧ Q v H := ⟨a, v, rfl, h, k⟩
theorem x_dput {n r b c} {td ty tv : TE} (k : tv σ H fun v H1 => td σ H1 fun x H2 => ty σ H2 fun y H3 => ∃ a H4, x = .ref a ∧ DPut H3 a y v H4 ∧ n σ H4) : sDPut td ty tv ⟨n, r, b, c⟩ σ H := k
theorem x_dputs {n : L2.St → Hp → Prop} {a : Addr} {y v : V} {H4 : Hp} (h : DPut H a y v H4) (k : n σ H4) : ∃ a' H4, V.ref a = .ref a' ∧ DPut H a' y v H4 ∧ n σ H4 := ⟨a, H4, rfl, h, k⟩
theorem x_bm0L {r : V → List V → Hp → VK → Prop} {to : TE} (k : to σ H fun x H1 => tyV K "list" x H1 ∧ r x [] H1 Q) : tBM0 K "list" r to σ H Q := k
theorem x_pop {p : Addr} {xs : List V} {y : V} (h : H p = some (.lst xs)) (hy : xs[xs.length - 1]? = some y) (k : Q y (upd H p (.lst xs.dropLast))) : tyV K "list" (.ref p) H ∧ rPop (.ref p) [] H Q := ⟨.inl ⟨rfl, _, SqL.of h⟩, p, xs, y, rfl, rfl, h, hy, k⟩
theorem x_bmL {r : V → List V → Hp → VK → Prop} {to : TE} {t : TA} (k : to σ H fun x H1 => tyV K "list" x H1 ∧ t σ H1 fun xs H2 => r x xs H2 Q) : tBM K "list" r to t σ H Q := k
theorem tyL {p : Addr} {xs : List V} (h : H p = some (.lst xs)) : tyV K "list" (.ref p) H := .inl ⟨rfl, _, SqL.of h⟩
theorem x_fld {ta : TE} {f : Str} (k : ta σ H fun x H1 => ∃ a C dx fs v, x = .ref a ∧ H1 a = some (.ins C dx fs) ∧ Cls K C ∧ NoAttr K C f ∧ fs.lookup f = some v ∧ Q v H1) : tFld K ta f σ H Q := k
theorem x_call {sp : Sp} {dvs : List V} {E : XK} {t : TA} (k : t σ H fun vs H1 => sp (vs ++ dvs) H1 Q E) : tCall sp dvs E t σ H Q := k
theorem ifc {b : Bool} {p q : Prop} (h1 : b = true → p) (h2 : b = false → q) : if b = true then p else q := by
  cases b
  · exact h2 rfl
  · exact h1 rfl
end
end L3

namespace L3
open PySem L2 Evl
/-! a def of the top, by its name -/
structure Df (K : PySem.W.Frag) (mg : Str → Option Value) (x : Str) (st : Stmt) : Prop where
  ex : ∃ f fd, Fun K x x st f fd ∧ mg x = some (.ref f)
structure Fn (P : Program) (w : World) (K : PySem.W.Frag) (mg : Str → Option Value) (base : Heap) (k : Nat) (x : Str) (ps : List Str) (sp : Sp) : Prop where
  ex : ∃ f fd, FnOk P w K mg base CX0 k f fd ps sp ∧ mg x = some (.ref f) ∧ PySem.W.keepIn K (.ref f) = true ∧ Binds K fd ps []
/-- a method -/
structure Md (K : PySem.W.Frag) (C : Addr) (m q : Str) (st : Stmt) : Prop where
  ex : ∃ f fd, Fun K m q st f fd ∧ Meth K C m f
structure Mt (P : Program) (w : World) (K : PySem.W.Frag) (mg : Str → Option Value) (base : Heap) (k : Nat) (C : Addr) (m : Str) (ps : List Str) (sp : Sp) : Prop where
  cl : Cls K C
  ex : ∃ f fd, FnOk P w K mg base CX0 k f fd ps sp ∧ Meth K C m f ∧ Binds K fd ps []
/-- a class with its __init__ -/
structure Ki (K : PySem.W.Frag) (mg : Str → Option Value) (x : Str) (C : Addr) (q : Str) (st : Stmt) : Prop where
  cl : Cls K C
  mgC : mg x = some (.ref C)
  ex : ∃ f fd, Fun K "__init__" q st f fd ∧ Mk K C f
structure Nw (P : Program) (w : World) (K : PySem.W.Frag) (mg : Str → Option Value) (base : Heap) (k : Nat) (x : Str) (C : Addr) (ps : List Str) (sp : Sp) : Prop where
  mgC : mg x = some (.ref C)
  ex : ∃ f fd, FnOk P w K mg base CX0 k f fd ps sp ∧ Mk K C f ∧ Binds K fd ps []
section
variable {P : Program} {w : World} {K : PySem.W.Frag} {mg : Str → Option Value} {base : Heap} {k : Nat} {x q m : Str} {C : Addr} {ps N : List Str} {sp sp' : Sp} {st : Stmt}
theorem fn_df (D : Df K mg x st) (S : FnScope N ps (defScope st)) (len : ∀ vs H Q E, sp vs H Q E → vs.length = ps.length)
    (hb : ∀ (kV doc pm : Value) (an : Option Addr) (cdv ct : Value) (us : List Value), us.length = ps.length → bindArgs (PySem.W.fnOf x x (defArgs st) (defBody st) (defScope st) .none kV doc pm an cdv ct) ⟨us, []⟩ = pure (ps.zip us))
    (hbody : ∀ (f : Addr) (cdv : Value) (A : Around) (outer : List Env) (s : Shared) (H : Hp) (vs : List V) (Q : VK) (E : XK), Room k (A.deeper (PyProof.Rows.envOfC x (defScope st) s.heap.objs.size f cdv)) → sp vs H Q E →
      ∃ t, PSs (cxOf CX0 P w K mg base N x (defScope st) f cdv A outer s H E).nox (defBody st) t ∧ t { nx := fun _ H' => Q .non H', rt := Q } (start N vs) H) : Fn P w K mg base (k + 1) x ps sp := by
  obtain ⟨f, fd, F, g⟩ := D.ex
  exact ⟨f, fd, F.ok S len (hbody f), g, F.kp, F.binds hb⟩
theorem Fn.imp (F : Fn P w K mg base k x ps sp) (h : ∀ vs H Q E, sp' vs H Q E → sp vs H Q E) : Fn P w K mg base k x ps sp' := by
  obtain ⟨f, fd, F, r⟩ := F.ex
  exact ⟨f, fd, F.imp h, r⟩
theorem Fn.post (F : Fn P w K mg base k x ps sp) : Fn P w K mg base k x ps (fun vs H Q E => sp vs H (fun v H' => ∃ H'', Abs P w H' H'' ∧ Q v H'') E) := by
  obtain ⟨f, fd, F, r⟩ := F.ex
  exact ⟨f, fd, L3.post F, r⟩
theorem Fn.pre (F : Fn P w K mg base k x ps sp) : Fn P w K mg base k x ps (opened P w ps.length sp) := by
  obtain ⟨f, fd, F, r⟩ := F.ex
  exact ⟨f, fd, L3.pre F, r⟩
theorem mt_md (D : Md K C m q st) (c : Cls K C) (S : FnScope N ps (defScope st)) (len : ∀ vs H Q E, sp vs H Q E → vs.length = ps.length)
    (hb : ∀ (kV doc pm : Value) (an : Option Addr) (cdv ct : Value) (us : List Value), us.length = ps.length → bindArgs (PySem.W.fnOf m q (defArgs st) (defBody st) (defScope st) .none kV doc pm an cdv ct) ⟨us, []⟩ = pure (ps.zip us))
    (hbody : ∀ (f : Addr) (cdv : Value) (A : Around) (outer : List Env) (s : Shared) (H : Hp) (vs : List V) (Q : VK) (E : XK), Room k (A.deeper (PyProof.Rows.envOfC q (defScope st) s.heap.objs.size f cdv)) → sp vs H Q E →
      ∃ t, PSs (cxOf CX0 P w K mg base N q (defScope st) f cdv A outer s H E).nox (defBody st) t ∧ t { nx := fun _ H' => Q .non H', rt := Q } (start N vs) H) : Mt P w K mg base (k + 1) C m ps sp := by
  obtain ⟨f, fd, F, g⟩ := D.ex
  exact ⟨c, f, fd, F.ok S len (hbody f), g, F.binds hb⟩
theorem nw_ki (D : Ki K mg x C q st) (S : FnScope N ps (defScope st)) (len : ∀ vs H Q E, sp vs H Q E → vs.length = ps.length)
    (hb : ∀ (kV doc pm : Value) (an : Option Addr) (cdv ct : Value) (us : List Value), us.length = ps.length → bindArgs (PySem.W.fnOf "__init__" q (defArgs st) (defBody st) (defScope st) .none kV doc pm an cdv ct) ⟨us, []⟩ = pure (ps.zip us))
    (hbody : ∀ (f : Addr) (cdv : Value) (A : Around) (outer : List Env) (s : Shared) (H : Hp) (vs : List V) (Q : VK) (E : XK), Room k (A.deeper (PyProof.Rows.envOfC q (defScope st) s.heap.objs.size f cdv)) → sp vs H Q E →
      ∃ t, PSs (cxOf CX0 P w K mg base N q (defScope st) f cdv A outer s H E).nox (defBody st) t ∧ t { nx := fun _ H' => Q .non H', rt := Q } (start N vs) H) : Nw P w K mg base (k + 1) x C ps sp := by
  obtain ⟨f, fd, F, g⟩ := D.ex
  exact ⟨D.mgC, f, fd, F.ok S len (hbody f), g, F.binds hb⟩
end
section
variable {X : Cx} {k : Nat} {x m : Str} {C : Addr} {ps : List Str} {sp : Sp} {e o : Expr} {es : List Expr} {p pos apos : Pos} {t : TA} {ta : TE}
theorem pe_fn (F : Fn X.prog X.w X.K X.mg X.base k x ps sp) (hr : Room k X.A) (hg : Gl X x) (ha : PA X (e :: es) t) (hdb : (x == ("__debug__" : Str)) = false := by decide)
    (he : starEach (e :: es) X.env = (false, eval e X.env) :: starEach es X.env := by rfl) (hpl : (backTo pos (starEach es X.env)).any (·.1) = false := by rfl) : PE X (.Call (.Name x p) (e :: es) [] pos) (tCall sp [] E0 t) := by
  obtain ⟨f, fd, F, g, kp, b⟩ := F.ex
  exact pe_call F hr hg g kp b .nil pass0 ha hdb he hpl
theorem pe_fn0 (F : Fn X.prog X.w X.K X.mg X.base k x ps sp) (hr : Room k X.A) (hg : Gl X x) (hdb : (x == ("__debug__" : Str)) = false := by decide) : PE X (.Call (.Name x p) [] [] pos) (tCall sp [] E0 tNil) := by
  obtain ⟨f, fd, F, g, kp, b⟩ := F.ex
  exact pe_call0 F hr hg g kp b .nil pass0 hdb
theorem pe_mt {pl : Sem Bool} (M : Mt X.prog X.w X.K X.mg X.base k C m ps sp) (hr : Room k X.A) (ho : PE X o ta) (ha : PA X (e :: es) t)
    (hst : starEach (e :: es) X.env = (false, eval e X.env) :: starEach es X.env := by rfl) (hpl : (backTo pos (starEach es X.env)).any (·.1) = false := by rfl)
    (ht : eval (.Call (.Attribute o m apos) (e :: es) [] pos) X.env = (do
      let ov ← eval o X.env
      standAt apos.atName
      let (f, first) ← holding [ov] (getMethod ov m pl)
      callWith pos f first (backTo pos (starEach (e :: es) X.env)) (backToKw pos (keywordEach [] X.env))) := by rfl) : PE X (.Call (.Attribute o m apos) (e :: es) [] pos) (tMeth C m sp [] E0 ta t) := by
  obtain ⟨f, fd, F, g, b⟩ := M.ex
  exact pe_meth ho M.cl g F hr b .nil pass0 ha hst hpl ht
theorem pe_mt0 {pl : Sem Bool} (M : Mt X.prog X.w X.K X.mg X.base k C m ps sp) (hr : Room k X.A) (ho : PE X o ta)
    (ht : eval (.Call (.Attribute o m apos) [] [] pos) X.env = (do
      let ov ← eval o X.env
      standAt apos.atName
      let (f, first) ← holding [ov] (getMethod ov m pl)
      callWith pos f first (backTo pos (starEach [] X.env)) (backToKw pos (keywordEach [] X.env))) := by rfl) : PE X (.Call (.Attribute o m apos) [] [] pos) (tMeth C m sp [] E0 ta tNil) := by
  obtain ⟨f, fd, F, g, b⟩ := M.ex
  exact pe_meth0 ho M.cl g F hr b .nil pass0 ht
theorem pe_new (M : Nw X.prog X.w X.K X.mg X.base k x C ps sp) (hr : Room (k + 1) X.A) (hg : Gl X x) (ha : PA X (e :: es) t) (hdb : (x == ("__debug__" : Str)) = false := by decide)
    (he : starEach (e :: es) X.env = (false, eval e X.env) :: starEach es X.env := by rfl) (hpl : (backTo pos (starEach es X.env)).any (·.1) = false := by rfl) : PE X (.Call (.Name x p) (e :: es) [] pos) (tMake C sp [] E0 t) := by
  obtain ⟨f, fd, F, g, b⟩ := M.ex
  exact pe_make g F hr hg M.mgC b .nil pass0 ha hdb he hpl
end
/-! named readings -/
def rAbs : List V → Hp → VK → Prop := fun xs H Q => ∃ i, xs = [.int i] ∧ Q (.int (if i < 0 then -i else i)) H
theorem call_abs' {X : Cx} : CallR X (.builtin "abs") rAbs := call_abs
def rMin2 : List V → Hp → VK → Prop := fun xs H Q => ∃ i j, xs = [.int i, .int j] ∧ Q (.int (if j < i then j else i)) H
theorem call_min2' {X : Cx} (hc : X.calm = true) : CallR X (.builtin "min") rMin2 := call_min2 hc
def rMax2' : List V → Hp → VK → Prop := fun xs H Q => ∃ i j, xs = [.int i, .int j] ∧ Q (.int (if j > i then j else i)) H
theorem call_max2' {X : Cx} (hc : X.calm = true) : CallR X (.builtin "max") rMax2' := call_max2 hc
def rStrI : List V → Hp → VK → Prop := fun xs H Q => ∃ i, xs = [.int i] ∧ i.natAbs.log2 < 1920 ∧ Q (.str (toString i)) H
theorem call_str_int' {X : Cx} : CallR X (.type "str") rStrI := call_str_int
/-- a value that is no object of the package -/
inductive Plain (H : Hp) : V → Prop where
  | non : Plain H .non
  | bl (b : Bool) : Plain H (.bl b)
  | int (i : Int) : Plain H (.int i)
  | str (x : Str) : Plain H (.str x)
  | lst {a : Addr} {xs : List V} (h : H a = some (.lst xs)) : Plain H (.ref a)
  | tup {a : Addr} {xs : List V} (h : H a = some (.tup xs)) : Plain H (.ref a)
def isI : V → Bool | .int _ => true | _ => false
def isB : V → Bool | .bl _ => true | _ => false
def isS : V → Bool | .str _ => true | _ => false
section
variable {σ : L2.St} {H : Hp} {Q : VK} {K : PySem.W.Frag}
theorem x_abs {i : Int} (k : Q (.int (if i < 0 then -i else i)) H) : rAbs [.int i] H Q := ⟨i, rfl, k⟩
theorem x_min2 {i j : Int} (k : Q (.int (if j < i then j else i)) H) : rMin2 [.int i, .int j] H Q := ⟨i, j, rfl, k⟩
theorem x_max2 {i j : Int} (k : Q (.int (if j > i then j else i)) H) : rMax2' [.int i, .int j] H Q := ⟨i, j, rfl, k⟩
theorem x_isInt {v : V} (p : Plain H v) (k : Q (.bl (isI v || isB v)) H) : rIsi K [v, .ty "int"] H Q := by
  cases p with
  | non => exact ⟨_, _, _, _, false, rfl, .ty _, .base .non, kit_ty (by decide +kernel), k⟩
  | bl b => exact ⟨_, _, _, _, true, rfl, .ty _, .base (.bl b), kit_ty (by decide +kernel), k⟩
  | int i => exact ⟨_, _, _, _, true, rfl, .ty _, .base (.int i), kit_ty (by decide +kernel), k⟩
  | str x => exact ⟨_, _, _, _, false, rfl, .ty _, .base (.str x), kit_ty (by decide +kernel), k⟩
  | lst h => exact ⟨_, _, _, _, false, rfl, .ty _, .base (.lst h), kit_ty (by decide +kernel), k⟩
  | tup h => exact ⟨_, _, _, _, false, rfl, .ty _, .base (.tup h), kit_ty (by decide +kernel), k⟩
theorem x_isBool {v : V} (p : Plain H v) (k : Q (.bl (isB v)) H) : rIsi K [v, .ty "bool"] H Q := by
  cases p with
  | non => exact ⟨_, _, _, _, false, rfl, .ty _, .base .non, kit_ty (by decide +kernel), k⟩
  | bl b => exact ⟨_, _, _, _, true, rfl, .ty _, .base (.bl b), kit_ty (by decide +kernel), k⟩
  | int i => exact ⟨_, _, _, _, false, rfl, .ty _, .base (.int i), kit_ty (by decide +kernel), k⟩
  | str x => exact ⟨_, _, _, _, false, rfl, .ty _, .base (.str x), kit_ty (by decide +kernel), k⟩
  | lst h => exact ⟨_, _, _, _, false, rfl, .ty _, .base (.lst h), kit_ty (by decide +kernel), k⟩
  | tup h => exact ⟨_, _, _, _, false, rfl, .ty _, .base (.tup h), kit_ty (by decide +kernel), k⟩
theorem x_isStr {v : V} (p : Plain H v) (k : Q (.bl (isS v)) H) : rIsi K [v, .ty "str"] H Q := by
  cases p with
  | non => exact ⟨_, _, _, _, false, rfl, .ty _, .base .non, kit_ty (by decide +kernel), k⟩
  | bl b => exact ⟨_, _, _, _, false, rfl, .ty _, .base (.bl b), kit_ty (by decide +kernel), k⟩
  | int i => exact ⟨_, _, _, _, false, rfl, .ty _, .base (.int i), kit_ty (by decide +kernel), k⟩
  | str x => exact ⟨_, _, _, _, true, rfl, .ty _, .base (.str x), kit_ty (by decide +kernel), k⟩
  | lst h => exact ⟨_, _, _, _, false, rfl, .ty _, .base (.lst h), kit_ty (by decide +kernel), k⟩
  | tup h => exact ⟨_, _, _, _, false, rfl, .ty _, .base (.tup h), kit_ty (by decide +kernel), k⟩
theorem x_meth {C : Addr} {m : Str} {sp : Sp} {dvs : List V} {E : XK} {ta : TE} {t : TA} (k : ta σ H fun x H1 => ∃ a dx fs, x = .ref a ∧ H1 a = some (.ins C dx fs) ∧ fs.lookup m = none ∧ t σ H1 fun vs H2 => sp (x :: (vs ++ dvs)) H2 Q E) : tMeth C m sp dvs E ta t σ H Q := k
theorem x_make {C : Addr} {sp : Sp} {dvs : List V} {E : XK} {t : TA} (k : t σ H fun vs H1 => ∀ x dx, H1 x = none → H1 dx = none → dx ≠ x → sp (.ref x :: (vs ++ dvs)) (upd (upd H1 dx (.own x)) x (.ins C dx [])) (fun v H2 => v = .non ∧ Q (.ref x) H2) E) : tMake C sp dvs E t σ H Q := k
theorem x_sfld {n r b c} {ta tv : TE} {f : Str} (k : tv σ H fun y H1 => ta σ H1 fun x H2 => ∃ a C dx fs, x = .ref a ∧ H2 a = some (.ins C dx fs) ∧ Cls K C ∧ NoAttr K C f ∧ fs.length < 1000 ∧ n σ (upd H2 a (.ins C dx (putF f y fs)))) : sFld K ta tv f ⟨n, r, b, c⟩ σ H := k
end
end L3
namespace L3
theorem iteP {b : Bool} {p q : Prop} (h : b = true) (k : p) : if b = true then p else q := by rw [if_pos h]; exact k
theorem iteN {b : Bool} {p q : Prop} (h : b = false) (k : q) : if b = true then p else q := by rw [if_neg (by rw [h]; decide)]; exact k
end L3

/-! the head's facts: any Bool of the written part, and defs -/
namespace L3
open PySem PySem.W PyProof.Rows
def obsB (ex : Frag → Bool) (fn : List He5.DefA) (K : Frag) : He.AlD := (ex K && fn.all fun d => d.ok K, fn.map fun d => He5.fnA K (d.at_ K))
def SaysB (ex : Frag → Bool) (fn : List He5.DefA) (K : Frag) : Prop := obsB ex fn K = He5.valA fn
def obsBG (n : Nat) (ex : Frag → Bool) (fn : List He5.DefA) (g : Addr → Option Obj) : He.AlD := obsB ex fn (He.frG g (He5.asA g n))
def hookB (n : Nat) (ex : Frag → Bool) (fn : List He5.DefA) : PySem.W.Hook where
  α := He.AlD
  obs := fun s => obsBG n ex fn s.heap.get?
  val := fun _ => He5.valA fn
  says := fun _ h => ∃ K : Frag, K.In h ∧ SaysB ex fn K
  of := fun _ _ e => ⟨_, He.frG_in, e⟩
  keeps := fun _ _ _ ⟨K, hK, c⟩ k => ⟨K, Frag.In.keeps hK k, c⟩
theorem obsBG_eq {n : Nat} {ex : Frag → Bool} {fn : List He5.DefA} {g : Addr → Option Obj} {s : Shared} (h : ∀ a, g a = s.heap.get? a) : obsBG n ex fn g = (hookB n ex fn).obs s := by
  have e : g = s.heap.get? := funext h
  rw [e] <;> rfl
section
variable {ex : Frag → Bool} {fn : List He5.DefA} {K : Frag}
theorem SaysB.fx (c : SaysB ex fn K) : ex K = true :=
  (He.ba (show (ex K && fn.all fun d => d.ok K) = true from congrArg (fun z : He.AlD => z.1) c)).1
theorem SaysB.def_ (c : SaysB ex fn K) (i : Nat) {d : He5.DefA} (h : fn[i]? = some d := by rfl) : ∃ fd, L2.FunD K d.name d.qual d.params d.body d.scope (d.dvs K) (d.kws K) (d.at_ K) fd := by
  have c2 := (He.ba (show (ex K && fn.all fun d => d.ok K) = true from congrArg (fun z : He.AlD => z.1) c)).2
  have e : fn.map (fun d => He5.fnA K (d.at_ K)) = fn.map He5.DefA.val := congrArg (fun z : He.AlD => z.2) c
  have e2 : (fn.map fun d => He5.fnA K (d.at_ K))[i]? = (fn.map He5.DefA.val)[i]? := by rw [e]
  rw [List.getElem?_map, List.getElem?_map, h] at e2
  exact He5.DefA.funD (Option.some.inj e2) (List.all_eq_true.mp c2 d (List.mem_of_getElem? h))
end
/-- one fact more, a tuple of the top among them -/
inductive Fx where
  | fa (f : He.Fa)
  | tup (x : PySem.Str) (vs : List He.Dv)
  | wrap (x m : PySem.Str)
  | dic (x : PySem.Str)
  | insc (x : PySem.Str)
  | bo (f : Frag → Bool)
def Fx.ok0 (K : Frag) : Fx → Bool
  | .fa f => f.ok K
  | _ => false
def Fx.ok (K : Frag) : Fx → Bool
  | .fa f => f.ok K
  | .tup x vs => He.tupB K x vs
  | .wrap x m => He5.wrapB K (He.ga K x) "classmethod" "classmethod.__get__" m
  | .dic x => (He.dicW K (He.ga K x)).isSome
  | .bo f => f K
  | .insc x => (Fx.fa (.cls x)).ok0 K && (He.eqO (findIn K (.ref (He.ga K x)) "__class__") (some (some (.builtin "object.__class__"))) && (He.eqO (specialIn K (.builtin "object.__class__") "__get__") (some (some (.builtin "getset_descriptor.__get__"))) &&
    (decide (takesIn K (.builtin "object.__class__") = some true) && (decide (mroIn K (He.ga K x) (.type "object") = some true) && decide (kitOne K (.ref (He.ga K x)) (.ref (He.ga K x)) = some true)))))
theorem fx_at {fx : List Fx} {K : Frag} (h : (fx.all fun f => f.ok K) = true) (i : Nat) {f : Fx} (e : fx[i]? = some f := by rfl) : f.ok K = true := List.all_eq_true.mp h f (List.mem_of_getElem? e)
theorem insc_ok {x : PySem.Str} {K : Frag} (h : (Fx.insc x).ok K = true) : C8.InsC K (He.ga K x) := by
  obtain ⟨h1, h⟩ := He.ba h
  obtain ⟨h2, h⟩ := He.ba h
  obtain ⟨h3, h⟩ := He.ba h
  obtain ⟨h4, h⟩ := He.ba h
  obtain ⟨h5, h6⟩ := He.ba h
  exact ⟨He.cls_ok h1, He.eqO_ok h2, He.eqO_ok h3, of_decide_eq_true h4, of_decide_eq_true h5, of_decide_eq_true h6⟩
def gdef (x : PySem.Str) (st : Stmt) : He5.DefA := ⟨fun K => He.ga K x, x, x, L2.defArgs st, L2.defBody st, L2.defScope st, [], []⟩
def mdef (c m q : PySem.Str) (st : Stmt) : He5.DefA := ⟨fun K => He.ma K (He.ga K c) m, m, q, L2.defArgs st, L2.defBody st, L2.defScope st, [], []⟩
section
variable {K : Frag} {h : Heap} {mg : PySem.Str → Option Value} {ex : Frag → Bool} {fn : List He5.DefA} {x c m q : PySem.Str} {st : Stmt}
theorem df_of (X : K.In h) (G : h.Ns mainGlobals mg) (f : (Fx.fa (.glo x)).ok K = true) (s : SaysB ex fn K) (i : Nat) (e : fn[i]? = some (gdef x st) := by rfl) : Df K mg x st := by
  obtain ⟨fd, F⟩ := s.def_ i e
  exact ⟨He.ga K x, fd, He5.fun_of F, He.glo_ok X G f⟩
theorem md_of (f : (Fx.fa (.meth c m)).ok K = true) (s : SaysB ex fn K) (i : Nat) (e : fn[i]? = some (mdef c m q st) := by rfl) : Md K (He.ga K c) m q st := by
  obtain ⟨fd, F⟩ := s.def_ i e
  exact ⟨He.ma K (He.ga K c) m, fd, He5.fun_of F, He.meth_ok f⟩
theorem ki_of (X : K.In h) (G : h.Ns mainGlobals mg) (f : (Fx.fa (.glo x)).ok K = true) (f1 : (Fx.fa (.cls x)).ok K = true) (f2 : (Fx.fa (.mkr x)).ok K = true) (s : SaysB ex fn K) (i : Nat) (e : fn[i]? = some (mdef x "__init__" q st) := by rfl) : Ki K mg x (He.ga K x) q st := by
  obtain ⟨fd, F⟩ := s.def_ i e
  exact ⟨He.cls_ok f1, He.glo_ok X G f, He.ma K (He.ga K x) "__init__", fd, He5.fun_of F, He.mkr_ok f2⟩
end
/-! .. and dicts of the top with text keys (their hashes hang on the world) -/
abbrev Tabs := List (PySem.Str × List PySem.Str)
def tabsOf (ts : Tabs) (K : Frag) : List (Option (List (Option (PySem.Str × Int)))) := ts.map fun t => He.dicW K (He.ga K t.1)
def tabsIn (ts : Tabs) (P : Params) : List (Option (List (Option (PySem.Str × Int)))) := ts.map fun t => some (He.keysIn P t.2)
def obsWG (n : Nat) (ex : Frag → Bool) (fn : List He5.DefA) (ts : Tabs) (g : Addr → Option Obj) : He.AlD × List (Option (List (Option (PySem.Str × Int)))) := (obsBG n ex fn g, tabsOf ts (He.frG g (He5.asA g n)))
structure SaysW (ex : Frag → Bool) (fn : List He5.DefA) (ts : Tabs) (w : World) (K : Frag) : Prop where
  b : SaysB ex fn K
  t : tabsOf ts K = tabsIn ts w.params
def hookW (n : Nat) (ex : Frag → Bool) (fn : List He5.DefA) (ts : Tabs) : PySem.W.Hook where
  α := He.AlD × List (Option (List (Option (PySem.Str × Int))))
  obs := fun s => obsWG n ex fn ts s.heap.get?
  val := fun w => (He5.valA fn, tabsIn ts w.params)
  says := fun w h => ∃ K : Frag, K.In h ∧ SaysW ex fn ts w K
  of := fun w s e => ⟨He.frG s.heap.get? (He5.asA s.heap.get? n), He.frG_in, ⟨congrArg Prod.fst e, congrArg Prod.snd e⟩⟩
  keeps := fun _ _ _ ⟨K, hK, c⟩ k => ⟨K, Frag.In.keeps hK k, c⟩
theorem obsWG_eq {n : Nat} {ex : Frag → Bool} {fn : List He5.DefA} {ts : Tabs} {g : Addr → Option Obj} {s : Shared} (h : ∀ a, g a = s.heap.get? a) : obsWG n ex fn ts g = (hookW n ex fn ts).obs s := by
  have e : g = s.heap.get? := funext h
  rw [e] <;> rfl
theorem SaysW.tab {ex : Frag → Bool} {fn : List He5.DefA} {ts : Tabs} {w : World} {K : Frag} (c : SaysW ex fn ts w K) (i : Nat) {t : PySem.Str × List PySem.Str} (h : ts[i]? = some t := by rfl) : ∃ es n, L2.KDict K w (He.ga K t.1) es n := by
  have e : (tabsOf ts K)[i]? = (tabsIn ts w.params)[i]? := by rw [c.t]
  unfold tabsOf tabsIn at e
  rw [List.getElem?_map, List.getElem?_map, h] at e
  exact He.dicW_ok (Option.some.inj e)
end L3

namespace L3
open PySem L2 Evl
section
variable {σ : L2.St} {H : Hp} {Q : VK} {K : PySem.W.Frag} {R : It → Hp → Prop}
theorem x_iList {tl : TE} (k : tl σ H fun x H1 => ∃ a, x = .ref a ∧ (∃ xs, SqL K H1 a xs) ∧ R (Itl K a) H1) : iList K tl σ H R := k
theorem x_iTup {tl : TE} (k : tl σ H fun x H1 => ∃ a, x = .ref a ∧ (∃ xs, SqT K H1 a xs) ∧ R (Itt K a) H1) : iTup K tl σ H R := k
theorem x_iRng1 {ta : TA} (k : ta σ H fun vs H1 => ∃ j : Int, vs = [.int j] ∧ -(2 ^ 62) ≤ j ∧ j < 2 ^ 62 ∧ R (Itr 0 j.toNat) H1) : iRng1 ta σ H R := k
theorem x_iRng2 {ta : TA} (k : ta σ H fun vs H1 => ∃ i j : Int, vs = [.int i, .int j] ∧ (-(2 ^ 62) ≤ i ∧ i < 2 ^ 62 ∧ -(2 ^ 62) ≤ j ∧ j < 2 ^ 62) ∧ R (Itr i (j - i).toNat) H1) : iRng2 ta σ H R := k
/-- what is left of a for: its turns -/
def Turns (J : It) (g : TG) (tb : TS) (n : L2.St → Hp → Prop) (r : VK) (σ : L2.St) (H : Hp) : Prop := ∃ W : Nat → Nat → L2.St → Hp → Prop, (∃ m, W 0 m σ H) ∧ ∀ i m σ H, W i m σ H →
  (J.stop i H ∧ n σ H) ∨ (J.go i H ∧ ∃ N : L2.St → Hp → Prop, (∀ σ' H', N σ' H' → ∃ m', m' < m ∧ W (i + 1) m' σ' H') ∧ ∀ x H', J.yld i H x H' → g x σ H' fun σ2 H2 => tb ⟨N, r, n, N⟩ σ2 H2)
theorem x_for {n r b c} {wi : TI} {g : TG} {tb : TS} (k : wi σ H fun J H1 => Turns J g tb n r σ H1) : tFor wi g tb ⟨n, r, b, c⟩ σ H := k
theorem turns_list {n : L2.St → Hp → Prop} {r : VK} {a : Addr} {xs : List V} {g : TG} {tb : TS} (Pv : Nat → L2.St → Hp → Prop) (h0 : Pv 0 σ H) (hl : ∀ i σ H, i ≤ xs.length → Pv i σ H → SqL K H a xs)
    (hs : ∀ i x σ H, xs[i]? = some x → Pv i σ H → g x σ H fun σ2 H2 => tb ⟨Pv (i + 1), r, n, Pv (i + 1)⟩ σ2 H2) (hd : ∀ σ H, Pv xs.length σ H → n σ H) : Turns (Itl K a) g tb n r σ H :=
  for_list (D := ⟨n, r, fun _ _ => False, fun _ _ => False⟩) Pv h0 hl hs hd
theorem turns_tup {n : L2.St → Hp → Prop} {r : VK} {a : Addr} {xs : List V} {g : TG} {tb : TS} (Pv : Nat → L2.St → Hp → Prop) (h0 : Pv 0 σ H) (hl : ∀ i σ H, i ≤ xs.length → Pv i σ H → SqT K H a xs)
    (hs : ∀ i x σ H, xs[i]? = some x → Pv i σ H → g x σ H fun σ2 H2 => tb ⟨Pv (i + 1), r, n, Pv (i + 1)⟩ σ2 H2) (hd : ∀ σ H, Pv xs.length σ H → n σ H) : Turns (Itt K a) g tb n r σ H :=
  for_tup (D := ⟨n, r, fun _ _ => False, fun _ _ => False⟩) Pv h0 hl hs hd
theorem turns_range {n : L2.St → Hp → Prop} {r : VK} {lo : Int} {m : Nat} {g : TG} {tb : TS} (Pv : Nat → L2.St → Hp → Prop) (h0 : Pv 0 σ H)
    (hs : ∀ (i : Nat) σ H, i < m → Pv i σ H → g (.int (lo + i)) σ H fun σ2 H2 => tb ⟨Pv (i + 1), r, n, Pv (i + 1)⟩ σ2 H2) (hd : ∀ σ H, Pv m σ H → n σ H) : Turns (Itr lo m) g tb n r σ H :=
  for_range (D := ⟨n, r, fun _ _ => False, fun _ _ => False⟩) Pv h0 hs hd
theorem x_gname {i : Nat} {v : V} {QG : L2.St → Hp → Prop} (k : QG (σ.set i (some v)) H) : gName i v σ H QG := k
/-! comprehensions -/
def Comp (J : It) (g : TG) (tt : TT) (te : TE) (vs : List Nat) (Q : VK) (σ : L2.St) (H1 : Hp) : Prop := ∀ D, H1 D = none → ∃ W : Nat → Nat → Hp → Prop, (∃ m, W 0 m (upd H1 D (.lst []))) ∧ ∀ i m H, W i m H →
  (J.stop i H ∧ Q (.ref D) H) ∨ (J.go i H ∧ ∃ Nx : Hp → Prop, (∀ H', Nx H' → ∃ m', m' < m ∧ W (i + 1) m' H') ∧ ∀ x H', J.yld i H x H' → g x (wipe σ vs) H' fun σ2 H2 => wipe σ2 vs = wipe σ vs ∧ tt σ2 H2 fun b H3 =>
    if b = true then te σ2 H3 fun y H4 => ∃ acc, H4 D = some (.lst acc) ∧ acc.length < sizeLine ∧ Nx (upd H4 D (.lst (acc ++ [y]))) else Nx H3)
theorem x_lc {wi : TI} {g : TG} {tt : TT} {te : TE} {vs : List Nat} (k : wi σ H fun J H1 => Comp J g tt te vs Q σ H1) : tLc wi g tt te vs σ H Q := k
theorem x_yes {QT : Bool → Hp → Prop} (k : QT true H) : tYes σ H QT := k
/-- one turn of a comprehension whose element and test leave what is known -/
def CTurn (tt : TT) (te : TE) (σ2 : L2.St) (H : Hp) (R : List V → Prop) (acc : List V) : Prop :=
  ∀ (KY : VK) (KN : Hp → Prop), (∀ y H4, Ex H H4 → R (acc ++ [y]) → KY y H4) → (∀ H3, Ex H H3 → R acc → KN H3) → tt σ2 H fun b H3 => if b = true then te σ2 H3 KY else KN H3
private theorem ex_new {H H' : Hp} {D : Addr} {u : HO} (h : H D = none) (e : Ex H H') : Ex H (upd H' D u) := fun b o hb => by
  rw [upd_ne (ne_of_none hb h)]
  exact e b o hb
theorem comp_list {a : Addr} {xs : List V} {j : Nat} {tt : TT} {te : TE} {vs : List Nat} (Rr : Nat → List V → Prop) (hx : SqL K H a xs) (hz : xs.length < 100000) (hw : ∀ x, wipe ((wipe σ vs).set j (some x)) vs = wipe σ vs) (h0 : Rr 0 [])
    (hs : ∀ i x acc H', xs[i]? = some x → Rr i acc → Ex H H' → CTurn tt te ((wipe σ vs).set j (some x)) H' (Rr (i + 1)) acc)
    (k : ∀ D acc H', H D = none → Ex H H' → H' D = some (.lst acc) → Rr xs.length acc → Q (.ref D) H') : Comp (Itl K a) (gName j) tt te vs Q σ H := fun D hD => by
  refine lc_list (K := K) (a := a) (xs := xs) (fun i H' => ∃ acc, Rr i acc ∧ acc.length ≤ i ∧ Ex H H' ∧ H' D = some (.lst acc)) ⟨[], h0, Nat.le_refl _, Ex.new hD, upd_same⟩ (fun i H' _ ⟨_, _, _, e, _⟩ => ex_l e hx) ?_ ?_
  · rintro i x H' hi ⟨acc, r, l, e, hd⟩
    have hi' : i < xs.length := (List.getElem?_eq_some_iff.mp hi).1
    refine ⟨hw x, hs i x acc H' hi r e _ _ (fun y H4 e4 r4 => ?_) (fun H3 e3 r3 => ?_)⟩
    · refine ⟨acc, e4 _ _ hd, Nat.lt_of_le_of_lt l (Nat.lt_of_lt_of_le hi' (Nat.le_trans (Nat.le_of_lt hz) (by decide))), acc ++ [y], r4, by simp; omega, ex_new hD (e.trans e4), upd_same⟩
    · exact ⟨acc, r3, Nat.le_succ_of_le l, e.trans e3, e3 _ _ hd⟩
  · rintro H' ⟨acc, r, l, e, hd⟩
    exact k D acc H' hD e hd r
theorem comp_tup {a : Addr} {xs : List V} {j : Nat} {tt : TT} {te : TE} {vs : List Nat} (Rr : Nat → List V → Prop) (hx : SqT K H a xs) (hz : xs.length < 100000) (hw : ∀ x, wipe ((wipe σ vs).set j (some x)) vs = wipe σ vs) (h0 : Rr 0 [])
    (hs : ∀ i x acc H', xs[i]? = some x → Rr i acc → Ex H H' → CTurn tt te ((wipe σ vs).set j (some x)) H' (Rr (i + 1)) acc)
    (k : ∀ D acc H', H D = none → Ex H H' → H' D = some (.lst acc) → Rr xs.length acc → Q (.ref D) H') : Comp (Itt K a) (gName j) tt te vs Q σ H := fun D hD => by
  refine lc_tup (K := K) (a := a) (xs := xs) (fun i H' => ∃ acc, Rr i acc ∧ acc.length ≤ i ∧ Ex H H' ∧ H' D = some (.lst acc)) ⟨[], h0, Nat.le_refl _, Ex.new hD, upd_same⟩ (fun i H' _ ⟨_, _, _, e, _⟩ => ex_t e hx) ?_ ?_
  · rintro i x H' hi ⟨acc, r, l, e, hd⟩
    have hi' : i < xs.length := (List.getElem?_eq_some_iff.mp hi).1
    refine ⟨hw x, hs i x acc H' hi r e _ _ (fun y H4 e4 r4 => ?_) (fun H3 e3 r3 => ?_)⟩
    · refine ⟨acc, e4 _ _ hd, Nat.lt_of_le_of_lt l (Nat.lt_of_lt_of_le hi' (Nat.le_trans (Nat.le_of_lt hz) (by decide))), acc ++ [y], r4, by simp; omega, ex_new hD (e.trans e4), upd_same⟩
    · exact ⟨acc, r3, Nat.le_succ_of_le l, e.trans e3, e3 _ _ hd⟩
  · rintro H' ⟨acc, r, l, e, hd⟩
    exact k D acc H' hD e hd r
theorem comp_range {lo : Int} {m : Nat} {j : Nat} {tt : TT} {te : TE} {vs : List Nat} (Rr : Nat → List V → Prop) (hz : m < 100000) (hw : ∀ x, wipe ((wipe σ vs).set j (some x)) vs = wipe σ vs) (h0 : Rr 0 [])
    (hs : ∀ (i : Nat) acc H', i < m → Rr i acc → Ex H H' → CTurn tt te ((wipe σ vs).set j (some (.int (lo + i)))) H' (Rr (i + 1)) acc)
    (k : ∀ D acc H', H D = none → Ex H H' → H' D = some (.lst acc) → Rr m acc → Q (.ref D) H') : Comp (Itr lo m) (gName j) tt te vs Q σ H := fun D hD => by
  refine lc_range (lo := lo) (n := m) (fun i H' => ∃ acc, Rr i acc ∧ acc.length ≤ i ∧ Ex H H' ∧ H' D = some (.lst acc)) ⟨[], h0, Nat.le_refl _, Ex.new hD, upd_same⟩ ?_ ?_
  · rintro i H' hi ⟨acc, r, l, e, hd⟩
    refine ⟨hw _, hs i acc H' hi r e _ _ (fun y H4 e4 r4 => ?_) (fun H3 e3 r3 => ?_)⟩
    · refine ⟨acc, e4 _ _ hd, Nat.lt_of_le_of_lt l (Nat.lt_of_lt_of_le hi (Nat.le_trans (Nat.le_of_lt hz) (by decide))), acc ++ [y], r4, by simp; omega, ex_new hD (e.trans e4), upd_same⟩
    · exact ⟨acc, r3, Nat.le_succ_of_le l, e.trans e3, e3 _ _ hd⟩
  · rintro H' ⟨acc, r, l, e, hd⟩
    exact k D acc H' hD e hd r
theorem x_slice {r : V → Option Int → Option Int → Hp → VK → Prop} {te : TE} {tl th : TO} (k : te σ H fun x H1 => tl σ H1 fun lo H2 => th σ H2 fun hi H3 => r x lo hi H3 Q) : tSl r te tl th σ H Q := k
theorem x_part {te : TE} {QO : Option Int → Hp → Prop} (k : te σ H fun x H1 => ∃ i, x = .int i ∧ QO (some i) H1) : tPart te σ H QO := k
theorem x_nopart {QO : Option Int → Hp → Prop} (k : QO none H) : tNoPart σ H QO := k
theorem x_revL {te : TE} (k : te σ H fun x H1 => ∃ a xs, x = .ref a ∧ SqL K H1 a xs ∧ ∀ p, H1 p = none → Q (.ref p) (upd H1 p (.lst xs.reverse))) : tRevL K te σ H Q := k
theorem x_disp {trs : List (TE × TE)} (k : ∀ p, H p = none → tPairs trs σ (upd H p (.dK [])) fun ps H2 => H2 p = some (.dK []) ∧ ∃ kvs : List (Key × V), ps = kvs.map (fun kv => (kV kv.1, kv.2)) ∧ kvs.length ≤ 15 ∧ Q (.ref p) (upd H2 p (.dK (mergeK [] kvs)))) : tDisp trs σ H Q := k
theorem x_pairs {tk tv : TE} {r : List (TE × TE)} {QP : List (V × V) → Hp → Prop} (k : tk σ H fun x H1 => tv σ H1 fun y H2 => tPairs r σ H2 fun ps H3 => QP ((x, y) :: ps) H3) : tPairs ((tk, tv) :: r) σ H QP := k
theorem x_pairs0 {QP : List (V × V) → Hp → Prop} (k : QP [] H) : tPairs [] σ H QP := k
end
end L3
namespace L3
open PySem L2 Evl
theorem q_for {wi : TI} {g : TG} {tb u : TS} {D : Ends} {σ : L2.St} {H : Hp} (h : False) : tSeq (tFor wi g tb) u D σ H := h.elim
theorem q_while {c : TT} {tb u : TS} {D : Ends} {σ : L2.St} {H : Hp} (h : False) : tSeq (tWhile c tb) u D σ H := h.elim
end L3

namespace L3
open PySem L2 Evl
/-! == by an own __eq__ of two instances of one class; str() by an own __str__ -/
def rEqI (C : Addr) (sp : Sp) : R2 := fun x y H Q => ∃ a b dx fs dy gs, x = .ref a ∧ y = .ref b ∧ H a = some (.ins C dx fs) ∧ H b = some (.ins C dy gs) ∧ sp [.ref a, .ref b] H (fun v H' => ∃ c, v = .bl c ∧ Q (.bl c) H') E0
section
variable {X : Cx} {k : Nat} {C : Addr} {ps : List Str} {sp : Sp}
theorem op_eqI (M : Mt X.prog X.w X.K X.mg X.base k C "__eq__" ps sp) (hr : Room k X.A) : OpR X (compareOp .Eq) (rEqI C sp) := by
  intro pins s σ H x y v u Q I rx ry hq
  obtain ⟨a, b, dx, fs, dy, gs, rfl, rfl, ha, hb', hsp⟩ := hq
  obtain ⟨f, fd, F, me, bi⟩ := M.ex
  cases rx
  cases ry
  obtain ⟨mA, J, _⟩ := ins_get I.hok ha
  obtain ⟨mB, J', _⟩ := ins_get I.hok hb'
  obtain ⟨od, J, _⟩ := J.look
  obtain ⟨od', J', _⟩ := J'.look
  obtain ⟨m, hF⟩ := I.fr
  show wpAny (model X.prog X.w) X.A (richCompare .Eq (.ref a) (.ref b)) (EP X pins σ Q) X.xe s
  refine PySem.W.cmp_K (op := .Eq) (tb := .ref C) hr.units0 hF I.ok.mod.kin J J'.type (by simp [PySem.W.notFirst]) me.at_ me.fn ?_
  have e0 : Env0 X.prog X.w X.K X.mg X.base X.A X.stack s H := I.env0
  have hl := F.len _ _ _ _ hsp
  have r2 : Vals [V.ref a, V.ref b] [Value.ref a, Value.ref b] := .cons rfl (.cons rfl .nil)
  refine wpAny_call (codeAny_mono (F.run X.A X.stack s H ⟨[.ref a, .ref b], []⟩ [.ref a, .ref b] [.ref a, .ref b] _ E0 hr e0 (by
    have := bi s [.ref a, .ref b] I.kIn (by simpa using hl)
    simpa using this) r2 hsp) fun r s' hq => ?_)
  cases r with
  | error e => exact hq.elim
  | ok fl =>
    cases fl with
    | ret w =>
      obtain ⟨z, H', I', rz, c, ez, q⟩ := I.after hq
      subst ez
      cases rz
      exact ⟨.bl c, H', I', rfl, q⟩
    | next => exact False.elim hq
    | brk => exact False.elim hq
    | cont => exact False.elim hq
theorem x_eqI {H : Hp} {Q : VK} {a b dx dy : Addr} {fs gs : List (Str × V)} (ha : H a = some (.ins C dx fs)) (hb : H b = some (.ins C dy gs)) (k : sp [.ref a, .ref b] H (fun v H' => ∃ c, v = .bl c ∧ Q (.bl c) H') E0) : rEqI C sp (.ref a) (.ref b) H Q :=
  ⟨a, b, dx, fs, dy, gs, rfl, rfl, ha, hb, k⟩
def rStrO (C : Addr) (sp : Sp) : List V → Hp → VK → Prop := fun xs H Q => ∃ a dx fs, xs = [.ref a] ∧ H a = some (.ins C dx fs) ∧ sp [.ref a] H (fun v H' => ∃ x, v = .str x ∧ Q (.str x) H') E0
theorem call_strO (M : Mt X.prog X.w X.K X.mg X.base k C "__str__" ps sp) (hr : Room (k + 2) X.A) : CallR X (.type "str") (rStrO C sp) := by
  intro pins s σ H xs us Q I r h
  obtain ⟨a, dx, fs, rfl, ha, hsp⟩ := h
  obtain ⟨f, fd, F, me, bi⟩ := M.ex
  obtain ⟨u, rfl, rx⟩ := vals1 r
  cases rx
  obtain ⟨mA, J, _⟩ := ins_get I.hok ha
  obtain ⟨od, J, _⟩ := J.look
  have hr1 : Room k X.A.in1.in1 := (Room.in1 (k := k + 1) hr).in1
  refine PySem.W.kso_call hr1.units0 I.kIn J me.at_ me.fn ?_
  have e0 : Env0 X.prog X.w X.K X.mg X.base X.A.in1.in1 X.stack s H := I.env0.in1.in1
  have hl := F.len _ _ _ _ hsp
  have r2 : Vals [V.ref a] [Value.ref a] := .cons rfl .nil
  refine wpAny_call (codeAny_mono (F.run X.A.in1.in1 X.stack s H ⟨[.ref a], []⟩ [.ref a] [.ref a] _ E0 hr1 e0 (by
    have := bi s [.ref a] I.kIn (by simpa using hl)
    simpa using this) r2 hsp) fun r s' hq => ?_)
  cases r with
  | error e => exact hq.elim
  | ok fl =>
    cases fl with
    | ret w =>
      obtain ⟨z, H', I', rz, c, ez, q⟩ := I.after hq
      subst ez
      obtain ⟨t, rfl⟩ := rz
      exact ⟨.str c, H', I', ⟨t, rfl⟩, q⟩
    | next => exact False.elim hq
    | brk => exact False.elim hq
    | cont => exact False.elim hq
theorem x_strO {H : Hp} {Q : VK} {a dx : Addr} {fs : List (Str × V)} (ha : H a = some (.ins C dx fs)) (k : sp [.ref a] H (fun v H' => ∃ x, v = .str x ∧ Q (.str x) H') E0) : rStrO C sp [.ref a] H Q := ⟨a, dx, fs, rfl, ha, k⟩
/-! f-strings -/
theorem x_fmtI {σ : L2.St} {H : Hp} {Q : VK} {te : TE} (k : te σ H fun x H1 => (∃ y : Str, x = .str y ∧ y.length ≤ sizeLine ∧ Q (.str y) H1) ∨ ∃ i : Int, x = .int i ∧ i.natAbs.log2 < 1920 ∧ Q (.str (toString i)) H1) : tFmt te σ H Q := k
abbrev numS (i : Int) : Str := Str.ofString (toString i)
theorem x_fint {H : Hp} {Q : VK} {i : Int} (h : i.natAbs.log2 < 1920) (k : Q (.str (numS i)) H) : (∃ y : Str, V.int i = .str y ∧ y.length ≤ sizeLine ∧ Q (.str y) H) ∨ ∃ j : Int, V.int i = .int j ∧ j.natAbs.log2 < 1920 ∧ Q (.str (toString j)) H := .inr ⟨i, rfl, h, k⟩
theorem x_fstr {H : Hp} {Q : VK} {y : Str} (h : y.length ≤ sizeLine) (k : Q (.str y) H) : (∃ z : Str, V.str y = .str z ∧ z.length ≤ sizeLine ∧ Q (.str z) H) ∨ ∃ j : Int, V.str y = .int j ∧ j.natAbs.log2 < 1920 ∧ Q (.str (toString j)) H := .inl ⟨y, rfl, h, k⟩
theorem x_js {σ : L2.St} {H : Hp} {t : TE} {ts : List TE} {acc : Str} {QS : Str → Hp → Prop} (k : t σ H fun x H1 => ∃ y : Str, x = .str y ∧ (acc ++ y).length ≤ sizeLine ∧ tJs ts (acc ++ y) σ H1 QS) : tJs (t :: ts) acc σ H QS := k
theorem x_js0 {σ : L2.St} {H : Hp} {acc : Str} {QS : Str → Hp → Prop} (k : QS acc H) : tJs [] acc σ H QS := k
theorem num_small {i : Int} (h0 : 0 ≤ i) (h1 : i < 10 ^ 9) : i.natAbs.log2 < 1920 := by
  have : i.natAbs < 10 ^ 9 := by omega
  have h2 : i.natAbs.log2 ≤ 30 := by
    by_cases hz : i.natAbs = 0
    · rw [hz]; decide
    · have := (Nat.log2_lt hz (k := 31)).mpr (by omega)
      omega
  omega
theorem numS_len {i : Int} (h0 : 0 ≤ i) (h1 : i < 10 ^ 9) : (numS i).length ≤ 10 := PySem.W.KT.len_num h0 (by omega)
end
end L3

namespace L3
open PySem L2 Evl TL
/-! lists of ints compared -/
theorem dpAll_ints {K : PySem.W.Frag} {H : Hp} : ∀ ns : List Int, DpAll K H (ns.map V.int) (ns.map PyData.int)
  | [] => .nil
  | n :: ns => .cons (.int n) (dpAll_ints ns)
theorem dp_ints {K : PySem.W.Frag} {H : Hp} {p : Addr} {ns : List Int} (h : H p = some (.lst (ns.map V.int))) : Dp K H (.ref p) (.list (ns.map PyData.int)) := .lst (SqL.of h) (dpAll_ints ns)
theorem canLayAll_ints : ∀ ns : List Int, PyData.canLayAll0 (ns.map PyData.int) = true
  | [] => by simp [PyData.canLayAll0]
  | n :: ns => by simp [PyData.canLayAll0, PyData.canLay0, canLayAll_ints ns]
theorem depthAll_ints : ∀ ns : List Int, PyData.depthAll (ns.map PyData.int) = 0
  | [] => by simp [PyData.depthAll]
  | n :: ns => by simp [PyData.depthAll, PyData.depth, depthAll_ints ns]
theorem shaped_ints (ns : List Int) : SeqAt.shaped (.list (ns.map PyData.int)) = true := by
  unfold SeqAt.shaped
  simp only [PyData.canLay0, canLayAll_ints, PyData.depth, depthAll_ints]
  decide
theorem eqvAll_ints : ∀ ns ms : List Int, PyData.eqvAll (ns.map PyData.int) (ms.map PyData.int) = decide (ns = ms)
  | [], [] => by simp [PyData.eqvAll]
  | [], m :: ms => by simp [PyData.eqvAll]
  | n :: ns, [] => by simp [PyData.eqvAll]
  | n :: ns, m :: ms => by
    simp only [List.map_cons, PyData.eqvAll, PyData.eqv, eqvAll_ints ns ms]
    by_cases h : n = m
    · subst h; simp
    · simp [h]
theorem x_neInts {K : PySem.W.Frag} {H : Hp} {Q : VK} {p q : Addr} {ns ms : List Int} (h1 : H p = some (.lst (ns.map V.int))) (h2 : H q = some (.lst (ms.map V.int))) (k : Q (.bl (!decide (ns = ms))) H) : rNeD K (.ref p) (.ref q) H Q := by
  refine ⟨_, _, dp_ints h1, dp_ints h2, shaped_ints ns, shaped_ints ms, ?_⟩
  simp only [PyData.eqv, eqvAll_ints]
  exact k
theorem x_eqInts {K : PySem.W.Frag} {H : Hp} {Q : VK} {p q : Addr} {ns ms : List Int} (h1 : H p = some (.lst (ns.map V.int))) (h2 : H q = some (.lst (ms.map V.int))) (k : Q (.bl (decide (ns = ms))) H) : rEqD K (.ref p) (.ref q) H Q := by
  refine ⟨_, _, dp_ints h1, dp_ints h2, shaped_ints ns, shaped_ints ms, ?_⟩
  simp only [PyData.eqv, eqvAll_ints]
  exact k
def rIsC (C : Addr) : List V → Hp → VK → Prop := fun xs H Q => ∃ a dx fs, xs = [.ref a, .ref C] ∧ H a = some (.ins C dx fs) ∧ Q (.bl true) H
theorem call_isC' {X : Cx} {C : Addr} (c : C8.InsC X.K C) : CallR X (.builtin "isinstance") (rIsC C) := C8.call_isC c
theorem x_isC {C : Addr} {H : Hp} {Q : VK} {a dx : Addr} {fs : List (Str × V)} (h : H a = some (.ins C dx fs)) (k : Q (.bl true) H) : rIsC C [.ref a, .ref C] H Q := ⟨a, dx, fs, rfl, h, k⟩
/-! the text of a rule tells its arguments -/
theorem numS_tl {i : Int} (h : 0 ≤ i) : tl (numS i) = numL i.toNat := by
  obtain ⟨n, rfl⟩ := Int.eq_ofNat_of_zero_le h
  exact tl_num n
end L3
namespace L3
open PySem L2 Evl TL
theorem q_ifs {c : TT} {t1 t2 u : TS} {D : Ends} {σ : L2.St} {H : Hp} (h : False) : tSeq (tIfS c t1 t2) u D σ H := h.elim
theorem x_cutE {σ : L2.St} {H : Hp} {n r b c} {t u : TS} (h1 : ∀ nn : L2.St → Hp → Prop, (∀ H', Ex H H' → nn σ H') → t ⟨nn, r, b, c⟩ σ H) (h2 : ∀ H', Ex H H' → u ⟨n, r, b, c⟩ σ H') : tSeq t u ⟨n, r, b, c⟩ σ H := h1 _ h2
section
variable {σ : L2.St} {H : Hp} {Q : VK} {K : PySem.W.Frag} {j : Nat} {te : TE} {vs : List Nat}
theorem comp_rangeF {lo : Int} {m : Nat} (f : Nat → Int) (hz : m < 100000) (hw : ∀ x, wipe ((wipe σ vs).set j (some x)) vs = wipe σ vs)
    (hs : ∀ (i : Nat) H', i < m → Ex H H' → ∀ KY : VK, KY (.int (f i)) H' → te ((wipe σ vs).set j (some (.int (lo + i)))) H' KY)
    (k : ∀ D H', H D = none → Ex H H' → H' D = some (.lst (((List.range m).map f).map V.int)) → Q (.ref D) H') : Comp (Itr lo m) (gName j) tYes te vs Q σ H := by
  refine comp_range (fun i acc => acc = ((List.range i).map f).map V.int) hz hw rfl (fun i acc H' hi ha e KY KN ky kn => ?_) (fun D acc H' hD e hl ha => k D H' hD e (by rw [hl, ha]))
  refine x_yes ?_
  rw [if_pos rfl]
  exact hs i H' hi e KY (ky _ _ (Ex.refl _) (by rw [ha, List.range_succ]; simp))
theorem comp_tupF {a : Addr} {ns : List Int} (f : Int → Int) (hx : SqT K H a (ns.map V.int)) (hz : ns.length < 100000) (hw : ∀ x, wipe ((wipe σ vs).set j (some x)) vs = wipe σ vs)
    (hs : ∀ (n : Int) H', n ∈ ns → Ex H H' → ∀ KY : VK, KY (.int (f n)) H' → te ((wipe σ vs).set j (some (.int n))) H' KY)
    (k : ∀ D H', H D = none → Ex H H' → H' D = some (.lst ((ns.map f).map V.int)) → Q (.ref D) H') : Comp (Itt K a) (gName j) tYes te vs Q σ H := by
  refine comp_tup (fun i acc => acc = ((ns.take i).map f).map V.int) hx (by simpa using hz) hw rfl (fun i x acc H' hi ha e KY KN ky kn => ?_) (fun D acc H' hD e hl ha => k D H' hD e (by rw [hl, ha]; simp))
  rw [List.getElem?_map] at hi
  cases q : ns[i]? with
  | none => rw [q] at hi; cases hi
  | some n =>
    rw [q] at hi
    cases hi
    refine x_yes ?_
    rw [if_pos rfl]
    exact hs n H' (List.mem_of_getElem? q) e KY (ky _ _ (Ex.refl _) (by rw [ha, List.take_add_one, q]; simp))
end
end L3
namespace L3
open PySem L2 Evl TL
theorem x_par {σ : L2.St} {H : Hp} {n r b c} {i j : Nat} {ta : TA} (k : ta σ H fun vs H1 => ∃ v w, vs = [v, w] ∧ n ((σ.set i (some v)).set j (some w)) H1) : tPar i j ta ⟨n, r, b, c⟩ σ H := k
theorem x_rep {K : PySem.W.Frag} {H : Hp} {Q : VK} : True := trivial
end L3
namespace L3
open PySem L2 Evl TL
section
variable {σ : L2.St} {H : Hp} {Q : VK} {K : PySem.W.Frag} {j : Nat} {te : TE} {tt : TT} {vs : List Nat}
/-- a comprehension whose test never holds -/
theorem comp_range0 {lo : Int} {m : Nat} (hz : m < 100000) (hw : ∀ x, wipe ((wipe σ vs).set j (some x)) vs = wipe σ vs)
    (hs : ∀ (i : Nat) H', i < m → Ex H H' → ∀ KT : Bool → Hp → Prop, (∀ H3, Ex H' H3 → KT false H3) → tt ((wipe σ vs).set j (some (.int (lo + i)))) H' KT)
    (k : ∀ D H', H D = none → Ex H H' → H' D = some (.lst []) → Q (.ref D) H') : Comp (Itr lo m) (gName j) tt te vs Q σ H := by
  refine comp_range (fun i acc => acc = []) hz hw rfl (fun i acc H' hi ha e KY KN ky kn => ?_) (fun D acc H' hD e hl ha => k D H' hD e (by rw [hl, ha]))
  refine hs i H' hi e _ fun H3 e3 => ?_
  rw [if_neg (by decide)]
  exact kn H3 e3 ha
end
end L3
namespace L3
open PySem L2 Evl TL
section
variable {σ : L2.St} {H : Hp} {Q : VK} {K : PySem.W.Frag} {QG : L2.St → Hp → Prop}
theorem x_asgG {n r b c} {te : TE} {g : TG} (k : te σ H fun x H1 => g x σ H1 n) : tAsg te g ⟨n, r, b, c⟩ σ H := k
theorem x_gtup {a : Addr} {xs : List V} {m : Nat} {t : TGs} (h : SqT K H a xs) (hl : xs.length = m) (k : t xs σ H QG) : gTup K m t (.ref a) σ H QG := ⟨a, xs, rfl, h, hl, k⟩
theorem x_gcons {v : V} {r : List V} {t : TG} {u : TGs} (k : t v σ H fun σ' H' => u r σ' H' QG) : gCons t u (v :: r) σ H QG := ⟨v, r, rfl, k⟩
theorem x_gnil (k : QG σ H) : gNil [] σ H QG := ⟨rfl, k⟩
end
end L3

namespace L3
open PySem L2 Evl TL
/-! a call whose first argument is starred, with more behind -/
theorem evalArgs_star {M : Model} {A : Around} {E : Value → Shared → Prop} {s : Shared} {f : Value} {x : Sem Value} {y : Bool × Sem Value} {rest : List (Bool × Sem Value)} {Q : Args → Shared → Prop}
    (h : wpAny M A (spliced ((true, x) :: y :: rest)) (fun vs s' => Q ⟨vs, []⟩ s') E s) : wpAny M A (evalArgs f true ((true, x) :: y :: rest) []) Q E s := by
  unfold evalArgs
  show wpAny M A (spliced ((true, x) :: y :: rest) >>= _) Q E s
  refine wpAny_bind (wpAny_mono h (fun vs s' h' => ?_) fun _ _ x => x)
  refine wpAny_holding ?_
  exact wpAny_bind (wpAny_pure (wpAny_bind (wpAny_pure (wpAny_pure h'))))
/-- x(*e, ..), x a local name that holds the class at C -/
def tMakeL (i : Nat) (C : Addr) (sp : Sp) (t : TA) : TE := fun σ H Q => σ[i]? = some (some (.ref C)) ∧ t σ H fun vs H1 => ∀ x dx, H1 x = none → H1 dx = none → dx ≠ x →
  sp (.ref x :: (vs ++ [])) (upd (upd H1 dx (.own x)) x (.ins C dx [])) (fun v H2 => v = .non ∧ Q (.ref x) H2) E0
section
variable {X : Cx} {k i : Nat} {x y : Str} {C : Addr} {ps : List Str} {sp : Sp} {e e2 : Expr} {es : List Expr} {p p2 pos : Pos} {t : TA} {a2 : Bool × Sem Value} {r2 : List (Bool × Sem Value)}
theorem pe_newL (M : Nw X.prog X.w X.K X.mg X.base k y C ps sp) (hr : Room (k + 1) X.A) (hN : X.N[i]? = some x) (hv : Vis X.env.scope x) (ha : PA X (.Starred e p2 :: e2 :: es) t)
    (hdb : (x == ("__debug__" : Str)) = false := by decide) (hcd : (x == ("__classdict__" : Str)) = false := by decide)
    (he : starEach (.Starred e p2 :: e2 :: es) X.env = (true, eval e X.env) :: a2 :: r2 := by rfl) : PE X (.Call (.Name x p) (.Starred e p2 :: e2 :: es) [] pos) (tMakeL i C sp t) := by
  obtain ⟨f, fd, F, g, b⟩ := M.ex
  refine ⟨fun pins s σ H Q I h => ?_⟩
  obtain ⟨hs, ht⟩ := h
  refine wpAny_Call_Name_kw (thn ((pe_var (pos := p) hN hv hdb hcd).run pins s σ H (fun v H1 => v = .ref C ∧ H1 = H) I ⟨.ref C, hs, rfl, rfl⟩) fun u s1 ⟨v, H1, I1, r1, q1⟩ => ?_)
  obtain ⟨rfl, rfl⟩ := q1
  cases r1
  have hrun := ha.run pos pins s1 σ _ _ I1 ht
  rw [he] at hrun
  show wpAny _ _ (callWith pos (.ref C) [] (backTo pos (starEach (.Starred e p2 :: e2 :: es) X.env)) []) _ _ _
  rw [he]
  refine PySem.W.ks_call (P := fun h => X.K.In h) rfl (PySem.W.keeps_K g.kp) (evalArgs_star (thn hrun fun us s2 ⟨vs, H2, I2, r, q⟩ => ⟨I2.kIn, ?_⟩))
  exact run_make g F hr b .nil pass0 I2 r q
end
/-! class methods -/
structure Cmd (K : PySem.W.Frag) (C : Addr) (m q : Str) (st : Stmt) : Prop where
  ex : ∃ p g fd, Fun K m q st g fd ∧ ClX.CRead K C (.type "type") ∧ ClX.CMet K C (.type "type") m p g
structure Cm (P : Program) (w : World) (K : PySem.W.Frag) (mg : Str → Option Value) (base : Heap) (k : Nat) (C : Addr) (m : Str) (sp : Sp) : Prop where
  ex : ∃ p g, FnR P w K mg base CX0 k g sp ∧ ClX.CRead K C (.type "type") ∧ ClX.CMet K C (.type "type") m p g
section
variable {P : Program} {w : World} {K : PySem.W.Frag} {mg : Str → Option Value} {base : Heap} {k : Nat} {q m : Str} {C : Addr} {ps N : List Str} {sp : Sp} {st : Stmt}
theorem cm_md (D : Cmd K C m q st) (S : FnScope N ps (defScope st)) (len : ∀ vs H Q E, sp vs H Q E → vs.length = ps.length)
    (hb : ∀ (kV doc pm : Value) (an : Option Addr) (cdv ct : Value) (us : List Value), us.length = ps.length → bindArgs (PySem.W.fnOf m q (defArgs st) (defBody st) (defScope st) .none kV doc pm an cdv ct) ⟨us, []⟩ = pure (ps.zip us))
    (hbody : ∀ (f : Addr) (cdv : Value) (A : Around) (outer : List Env) (s : Shared) (H : Hp) (vs : List V) (Q : VK) (E : XK), Room k (A.deeper (PyProof.Rows.envOfC q (defScope st) s.heap.objs.size f cdv)) → sp vs H Q E →
      ∃ t, PSs (cxOf CX0 P w K mg base N q (defScope st) f cdv A outer s H E).nox (defBody st) t ∧ t { nx := fun _ H' => Q .non H', rt := Q } (start N vs) H) : Cm P w K mg base (k + 1) C m sp := by
  obtain ⟨p, g, fd, F, r, c⟩ := D.ex
  have R := (F.ok S len (hbody g)).raw (F.binds hb) .nil
  exact ⟨p, g, R.imp fun vs H Q E h => by simpa using h, r, c⟩
end
section
variable {X : Cx} {k : Nat} {m : Str} {C : Addr} {sp : Sp} {e o : Expr} {es : List Expr} {pos apos : Pos} {t : TA} {ta : TE}
theorem pe_cm {pl : Sem Bool} (M : Cm X.prog X.w X.K X.mg X.base k C m sp) (hr : Room k X.A) (ho : PE X o ta) (ha : PA X (e :: es) t)
    (hst : starEach (e :: es) X.env = (false, eval e X.env) :: starEach es X.env := by rfl) (hpl : (backTo pos (starEach es X.env)).any (·.1) = false := by rfl)
    (ht : eval (.Call (.Attribute o m apos) (e :: es) [] pos) X.env = (do
      let ov ← eval o X.env
      standAt apos.atName
      let (f, first) ← holding [ov] (getMethod ov m pl)
      callWith pos f first (backTo pos (starEach (e :: es) X.env)) (backToKw pos (keywordEach [] X.env))) := by rfl) : PE X (.Call (.Attribute o m apos) (e :: es) [] pos) (ClX.tCMeth C sp E0 ta t) := by
  obtain ⟨p, g, F, r, c⟩ := M.ex
  exact ClX.pe_cmeth ho r c F hr pass0 ha hst hpl ht
theorem x_cm {σ : L2.St} {H : Hp} {Q : VK} {E : XK} (k : ta σ H fun x H1 => x = .ref C ∧ t σ H1 fun vs H2 => sp (.ref C :: vs) H2 Q E) : ClX.tCMeth C sp E ta t σ H Q := k
theorem x_newL {σ : L2.St} {H : Hp} {Q : VK} {i : Nat} (h : σ[i]? = some (some (.ref C))) (k : t σ H fun vs H1 => ∀ x dx, H1 x = none → H1 dx = none → dx ≠ x →
  sp (.ref x :: (vs ++ [])) (upd (upd H1 dx (.own x)) x (.ins C dx [])) (fun v H2 => v = .non ∧ Q (.ref x) H2) E0) : tMakeL i C sp t σ H Q := ⟨h, k⟩
theorem x_star {K : PySem.W.Frag} {σ : L2.St} {H : Hp} {te : TE} {QA : List V → Hp → Prop} (k : te σ H fun x H1 => ∃ p xs, x = V.ref p ∧ (SqT K H1 p xs ∨ SqL K H1 p xs) ∧ t σ H1 fun ys H2 => QA (xs ++ ys) H2) : StX.tStar K te t σ H QA := k
end
/-! the head's facts of a class method -/
def cmB (x m : Str) (K : PySem.W.Frag) : Bool := He5.wrapB K (He.ga K x) "classmethod" "classmethod.__get__" m && (PySem.W.fnIn K (He5.wf K (He.ga K x) "classmethod" m) && (PySem.W.readsIn K (He.ga K x) (.type "type") && He.eqO (PySem.W.specialIn K (.ref (He.ga K x)) "__getattribute__") (some (some (.builtin "type.__getattribute__")))))
def cdef (c m q : Str) (st : Stmt) : He5.DefA := ⟨fun K => He5.wf K (He.ga K c) "classmethod" m, m, q, L2.defArgs st, L2.defBody st, L2.defScope st, [], []⟩
theorem cmd_of {K : PySem.W.Frag} {x m q : Str} {st : Stmt} {ex : PySem.W.Frag → Bool} {fn : List He5.DefA} (f : cmB x m K = true) (s : SaysB ex fn K) (i : Nat) (e : fn[i]? = some (cdef x m q st) := by rfl) : Cmd K (He.ga K x) m q st := by
  obtain ⟨h1, h⟩ := He.ba f
  obtain ⟨h2, h⟩ := He.ba h
  obtain ⟨h3, h4⟩ := He.ba h
  obtain ⟨fd, F⟩ := s.def_ i e
  exact ⟨_, _, fd, He5.fun_of F, ⟨h3, He.eqO_ok h4⟩, He5.cmet_of h1 h2⟩
end L3

namespace L3
open PySem L2 Evl TL
/-! zip of a tuple and a list -/
def ItzM (K : PySem.W.Frag) (a b : Addr) : It where
  go := fun i H => ∃ (xs ys : List V) (x y : V), SqT K H a xs ∧ SqL K H b ys ∧ xs[i]? = some x ∧ ys[i]? = some y
  yld := fun i H v H' => ∃ T x y, v = .ref T ∧ H T = none ∧ H' = upd H T (.tup [x, y]) ∧ (∀ xs, SqT K H a xs → xs[i]? = some x) ∧ ∀ ys, SqL K H b ys → ys[i]? = some y
  stop := fun i H => ∃ xs ys : List V, SqT K H a xs ∧ SqL K H b ys ∧ i = min xs.length ys.length
def zSt (N a b i : Nat) (h : Heap) : Prop := IsZip h (N + 4) (N + 2) (N + 3) .none ∧ IsTupOf2 h (N + 2) (.ref N) (.ref (N + 1)) ∧ (∃ a1 a2, IsTupOf2 h (N + 3) a1 a2) ∧ h.IsTupleIter N a i ∧ h.IsListIter (N + 1) b i
theorem turn_zipM {P : Program} {w : World} {K : PySem.W.Frag} {elts : List Expr} {kk : Nat} {tpos : Pos} {N a b : Nat} (ha : a < N) (hb : b < N) :
    Turn P w K (.Tuple elts kk tpos) (ItzM K a b) [N + 4, N + 2, N + 3, N, N + 1] (N + 4) (zSt N a b) where
  mem := by simp
  obj := by
    rintro i h ⟨z1, z2, ⟨x1, x2, z3⟩, ⟨o4, z4, _, d4⟩, ⟨o5, z5, _, d5⟩⟩ c hc
    simp only [List.mem_cons, List.not_mem_nil, or_false] at hc
    rcases hc with rfl | rfl | rfl | rfl | rfl
    · exact ⟨_, z1, nofun⟩
    · exact ⟨_, z2, nofun⟩
    · exact ⟨_, z3, nofun⟩
    · exact ⟨o4, z4, fun v q => by rw [d4] at q; cases q⟩
    · exact ⟨o5, z5, fun v q => by rw [d5] at q; cases q⟩
  keep := by
    rintro i h h' ⟨z1, z2, ⟨x1, x2, z3⟩, z4, z5⟩ k
    exact ⟨k _ (by simp) _ z1, k _ (by simp) _ z2, ⟨x1, x2, k _ (by simp) _ z3⟩, z4.at fun o q => k _ (by simp) o q, z5.at fun o q => k _ (by simp) o q⟩
  item := by
    rintro X rfl rfl rfl hc i pins s σ H E I hf st ⟨xs, ys, x, y, qx, qy, hx, hy⟩
    obtain ⟨z1, z2, z3, z4, z5⟩ := st
    obtain ⟨us, ru, pu, _⟩ := I.tuple qx
    obtain ⟨ws, rw', pw, _⟩ := I.list qy
    have lu := ru.length
    have lw := rw'.length
    have ix : i < xs.length := (List.getElem?_eq_some_iff.mp hx).1
    have iy : i < ys.length := (List.getElem?_eq_some_iff.mp hy).1
    have hh : X.A.in1.handled = none := I.ok.hd hc
    have nz : N + 4 < s.heap.objs.size := Heap.lt_size z1
    have W := GoesN.zip2 (prog := X.prog) (w := X.w) (A := X.A) (elts := elts) (x1 := kk) (pos := tpos) (zip_sep2 (N := N) (fp1 := [a]) (fp2 := [b]) (by simpa using ha) (by simpa using hb))
      (Draws.tuple hh N a (Nat.ne_of_lt ha) us.toArray) (Draws.list hh (N + 1) b (Nat.ne_of_lt (Nat.lt_succ_of_lt hb)) ws.toArray)
    refine W.goes i s _ E (by simp; omega) ⟨z1, z2, z3, ⟨z4, pu⟩, ⟨z5, pw.isList⟩⟩ fun v h' tk hY st' hk htk => ?_
    obtain ⟨T, u1, u2, rfl, hT, e1, e2, hTt⟩ := hY
    obtain ⟨w1, w2, w3, ⟨w4, _⟩, ⟨w5, _⟩⟩ := st'
    obtain ⟨v1, g1, r1⟩ := ru.get hx
    obtain ⟨v2, g2, r2⟩ := rw'.get hy
    have q1 : u1 = v1 := by
      have : us.toArray[i]? = us[i]? := by simp
      rw [this, g1] at e1
      exact (Option.some.inj e1).symm
    have q2 : u2 = v2 := by
      have : ws.toArray[i]? = ws[i]? := by simp
      rw [this, g2] at e2
      exact (Option.some.inj e2).symm
    subst q1 q2
    have new : ObjOk X.prog X.w (upd H T (.tup [x, y])) h' T (.tup [x, y]) := ⟨by show 2 ≤ sizeLine; decide, [u1, u2], .cons r1 (.cons r2 .nil), hTt⟩
    have I1 : Inv X pins σ (upd H T (.tup [x, y])) { s with heap := h', toks := tk } := I.turnedNew (t' := tk) (ch := [N + 4, N + 3, N, N + 1]) (fun c o hb q => hk c o hb q) (fun c hc' => hf c (by
      simp only [List.mem_cons, List.not_mem_nil, or_false] at hc' ⊢
      rcases hc' with z | z | z | z <;> simp [z])) hT new
    refine ⟨.ref T, _, I1, rfl, ⟨T, x, y, rfl, I.hok.fresh hT, rfl, fun l hl => by rw [I.tuple_inj hl qx]; exact hx, fun l hl => by rw [I.list_inj hl qy]; exact hy⟩, ⟨w1, w2, w3, w4, w5⟩, fun c hc' => ?_⟩
    have lt : c < s.heap.objs.size := by
      simp only [List.mem_cons, List.not_mem_nil, or_false] at hc'
      rcases hc' with z | z | z | z | z
      · exact Nat.lt_of_le_of_lt (Nat.le_of_eq z) nz
      · exact Nat.lt_of_le_of_lt (Nat.le_of_eq z) (by omega)
      · exact Nat.lt_of_le_of_lt (Nat.le_of_eq z) (by omega)
      · exact Nat.lt_of_le_of_lt (Nat.le_of_eq z) (by omega)
      · exact Nat.lt_of_le_of_lt (Nat.le_of_eq z) (by omega)
    rw [upd_ne (Nat.ne_of_lt (Nat.lt_of_lt_of_le lt hT))]
    exact (hf c hc').1
  done := by
    rintro X rfl rfl rfl hc i pins s σ H E I hf st ⟨xs, ys, qx, qy, hi⟩
    obtain ⟨z1, z2, z3, z4, z5⟩ := st
    obtain ⟨us, ru, pu, _⟩ := I.tuple qx
    obtain ⟨ws, rw', pw, _⟩ := I.list qy
    have lu := ru.length
    have lw := rw'.length
    have hh : X.A.in1.handled = none := I.ok.hd hc
    have W := GoesN.zip2 (prog := X.prog) (w := X.w) (A := X.A) (elts := elts) (x1 := kk) (pos := tpos) (zip_sep2 (N := N) (fp1 := [a]) (fp2 := [b]) (by simpa using ha) (by simpa using hb))
      (Draws.tuple hh N a (Nat.ne_of_lt ha) us.toArray) (Draws.list hh (N + 1) b (Nat.ne_of_lt (Nat.lt_succ_of_lt hb)) ws.toArray)
    have e : min us.toArray.size ws.toArray.size = i := by simp; omega
    refine W.stops s (fun s1 => Inv X pins σ H s1) E (by rw [e]; exact ⟨z1, z2, z3, ⟨z4, pu⟩, ⟨z5, pw.isList⟩⟩) fun h' tk hk htk => ?_
    exact I.turnedL (t' := tk) (ch := [N + 4, N + 3, N, N + 1]) (fun c o hb q => hk c o hb q) (fun c hc' => hf c (by
      simp only [List.mem_cons, List.not_mem_nil, or_false] at hc' ⊢
      rcases hc' with z | z | z | z <;> simp [z]))
  self := fun A i s Q E st h => wpAny_pyIter_zip st.1 h
def iZipM (K : PySem.W.Frag) (ta : TA) : TI := fun σ H R => ta σ H fun vs H1 => ∃ a b xs ys, vs = [.ref a, .ref b] ∧ SqT K H1 a xs ∧ SqL K H1 b ys ∧ R (ItzM K a b) H1
theorem pi_zipM {X : Cx} {e e2 : Expr} {ta : TA} {p pos tpos : Pos} {elts : List Expr} {kk : Nat} (hg : Gl X "zip") (hm : X.mg "zip" = none) (ha : PA X [e, e2] ta)
    (hs : starEach [e, e2] X.env = (false, eval e X.env) :: starEach [e2] X.env := by rfl) (hpl : (backTo pos (starEach [e2] X.env)).any (·.1) = false := by rfl) : PI X (.Tuple elts kk tpos) (.Call (.Name "zip" p) [e, e2] [] pos) (iZipM X.K ta) := by
  refine ⟨fun pins s σ H R I h => ?_⟩
  refine PyProof.Rows.Call_ (ld_blt I hg hm PyProof.Rows.boot_zip (PyProof.Rows.callWith_type1 (thn (ha.run pos pins s σ H _ I h) fun us s1 ⟨vs, H1, I1, r1, a, b, xs, ys, ex, qx, qy, q⟩ => ?_) hs hpl))
  subst ex
  obtain ⟨u1, u2, rfl, ra, rb⟩ := vals2 r1
  cases ra
  cases rb
  obtain ⟨its, rv, p1, _⟩ := I1.tuple qx
  obtain ⟨its2, rv2, p2, _⟩ := I1.list qy
  have la : a < s1.heap.objs.size := by
    obtain ⟨o1, ho1, _⟩ := id p1
    exact Heap.lt_size ho1
  refine zip_begins2 (begins_tuple a its.toArray) (begins_list b its2.toArray) p1 p2.isList fun h' hz hTI hTO h1 h2 hsz hk => wpAny_pyIter_zip hz ?_
  have I2 : Inv X pins σ H1 { s1 with heap := h' } := I1.kept (t' := s1.toks) hk
  refine ⟨s1.heap.objs.size + 4, [s1.heap.objs.size + 4, s1.heap.objs.size + 2, s1.heap.objs.size + 3, s1.heap.objs.size, s1.heap.objs.size + 1], _, _, H1, rfl, I2, turn_zipM la p2.lt, ⟨hz, hTI, ⟨_, _, hTO⟩, ?_, ?_⟩, fun c hc => ?_, q⟩
  · exact ⟨_, h1, rfl, rfl⟩
  · exact ⟨_, h2, rfl, rfl⟩
  · have hle : s1.heap.objs.size ≤ c := by
      simp only [List.mem_cons, List.not_mem_nil, or_false] at hc
      rcases hc with z | z | z | z | z <;> rw [z] <;> first | exact Nat.le_refl _ | exact Nat.le_add_right _ _
    exact I1.fpOk hle (I1.hok.fresh hle)
theorem x_iZipM {K : PySem.W.Frag} {σ : L2.St} {H : Hp} {R : It → Hp → Prop} {ta : TA} (k : ta σ H fun vs H1 => ∃ a b xs ys, vs = [.ref a, .ref b] ∧ SqT K H1 a xs ∧ SqL K H1 b ys ∧ R (ItzM K a b) H1) : iZipM K ta σ H R := k
theorem turns_zipM {K : PySem.W.Frag} {σ : L2.St} {H : Hp} {n : L2.St → Hp → Prop} {r : VK} {a b : Addr} {xs ys : List V} {g : TG} {tb : TS} (hl : xs.length = ys.length) (Pv : Nat → L2.St → Hp → Prop) (h0 : Pv 0 σ H) (hq : ∀ i σ H, i ≤ xs.length → Pv i σ H → SqT K H a xs ∧ SqL K H b ys)
    (hs : ∀ i x y T σ H, xs[i]? = some x → ys[i]? = some y → Pv i σ H → H T = none → g (.ref T) σ (upd H T (.tup [x, y])) fun σ2 H2 => tb ⟨Pv (i + 1), r, n, Pv (i + 1)⟩ σ2 H2) (hd : ∀ σ H, Pv xs.length σ H → n σ H) : Turns (ItzM K a b) g tb n r σ H := by
  refine ⟨fun i m σ H => m = xs.length - i ∧ i ≤ xs.length ∧ Pv i σ H, ⟨_, rfl, Nat.zero_le _, h0⟩, ?_⟩
  rintro i m σ H ⟨rfl, hi, p⟩
  obtain ⟨q1, q2⟩ := hq i σ H hi p
  by_cases e : i = xs.length
  · subst e
    exact .inl ⟨⟨xs, ys, q1, q2, by omega⟩, hd σ H p⟩
  · have lt : i < xs.length := by omega
    refine .inr ⟨⟨xs, ys, xs[i], ys[i]'(by omega), q1, q2, List.getElem?_eq_getElem lt, List.getElem?_eq_getElem (by omega)⟩, Pv (i + 1), fun σ' H' z => ⟨_, by omega, rfl, lt, z⟩, ?_⟩
    rintro v H' ⟨T, x, y, rfl, hT, rfl, k1, k2⟩
    exact hs i x y T σ H (k1 xs q1) (k2 ys q2) p hT
end L3
namespace L3
open PySem L2 Evl TL
section
variable {σ : L2.St} {H : Hp} {Q : VK} {K : PySem.W.Frag} {j : Nat} {te : TE} {tt : TT} {vs : List Nat}
theorem comp_str {z : Str} (Rr : Nat → List V → Prop) (hz : z.cps.size < 100000) (hw : ∀ x, wipe ((wipe σ vs).set j (some x)) vs = wipe σ vs) (h0 : Rr 0 [])
    (hs : ∀ i c acc H', z.cps[i]? = some c → Rr i acc → Ex H H' → CTurn tt te ((wipe σ vs).set j (some (.str ⟨#[c]⟩))) H' (Rr (i + 1)) acc)
    (k : ∀ D acc H', H D = none → Ex H H' → H' D = some (.lst acc) → Rr z.cps.size acc → Q (.ref D) H') : Comp (Its z) (gName j) tt te vs Q σ H := fun D hD => by
  refine lc_it (walk_str (z := z)) (fun i H' => ∃ acc, Rr i acc ∧ acc.length ≤ i ∧ Ex H H' ∧ H' D = some (.lst acc)) ⟨[], h0, Nat.le_refl _, Ex.new hD, upd_same⟩ (fun i H' _ _ => trivial) ?_ ?_
  · rintro i v H' _ hi ⟨acc, r, l, e, hd⟩ ⟨rfl, c, hc, rfl⟩
    refine ⟨hw _, hs i c acc _ hc r e _ _ (fun y H4 e4 r4 => ?_) (fun H3 e3 r3 => ?_)⟩
    · refine ⟨acc, e4 _ _ hd, Nat.lt_of_le_of_lt l (Nat.lt_of_lt_of_le hi (Nat.le_trans (Nat.le_of_lt hz) (by decide))), acc ++ [y], r4, by simp; omega, fun a o h => ?_, upd_same⟩
      rw [upd_ne (ne_of_none h hD)]
      exact e4 _ _ (e _ _ h)
    · exact ⟨acc, r3, Nat.le_succ_of_le l, e.trans e3, e3 _ _ hd⟩
  · rintro H' ⟨acc, r, l, e, hd⟩
    exact k D acc H' hD e hd r
theorem x_iStr {R : It → Hp → Prop} (k : te σ H fun v H1 => ∃ x, v = .str x ∧ R (Its x) H1) : iStr te σ H R := k
end
end L3
namespace L3
open PySem L2 Evl TL
theorem x_chain {σ : L2.St} {H : Hp} {Q : VK} {r r' : R2} {ta tb tc : TE} (k : ta σ H fun x H1 => tb σ H1 fun y H2 => r x y H2 fun z H3 => ∃ k, z = .bl k ∧ (if k = true then tc σ H3 fun w' H4 => r' y w' H4 Q else Q (.bl false) H3)) : tChain r r' ta tb tc σ H Q := k
/-! numbers below a hundred, as texts -/
def numChk (w : Str) : Bool := decide (1 ≤ w.length) && decide (w.length ≤ 2) && w.cps.all (fun c => decide (48 ≤ c) && decide (c ≤ 57)) && (decide (w = "0") || (match w.cps.toList with
  | c :: _ => decide (c ≠ 48)
  | [] => false))
theorem numChk_all : ∀ n : Fin 100, numChk (numS ((n.val : Nat) : Int)) = true := by decide +kernel
theorem numChk_of {n : Int} (h0 : 0 ≤ n) (h1 : n < 100) : numChk (numS n) = true := by
  obtain ⟨m, rfl⟩ := Int.eq_ofNat_of_zero_le h0
  exact numChk_all ⟨m, by omega⟩
theorem digit_in {c : Nat} (h : 48 ≤ c ∧ c ≤ 57) : decide (c ∈ (Str.ofString "0123456789").cps.toList) = true := by
  have : c = 48 ∨ c = 49 ∨ c = 50 ∨ c = 51 ∨ c = 52 ∨ c = 53 ∨ c = 54 ∨ c = 55 ∨ c = 56 ∨ c = 57 := by omega
  rcases this with rfl | rfl | rfl | rfl | rfl | rfl | rfl | rfl | rfl | rfl <;> decide +kernel
end L3
namespace L3
open PySem L2 Evl TL
theorem x_m1 {σ : L2.St} {H : Hp} {Q : VK} {r : V → List V → Hp → VK → Prop} {to te : TE} (k : to σ H fun x H1 => (∃ a, x = .str a) ∧ te σ H1 fun y H2 => r x [y] H2 Q) : tM1 r to te σ H Q := k
theorem x_m0 {σ : L2.St} {H : Hp} {Q : VK} {r : V → List V → Hp → VK → Prop} {to : TE} (k : to σ H fun x H1 => (∃ a, x = .str a) ∧ r x [] H1 Q) : tM0 r to σ H Q := k
end L3
namespace L3
open PySem L2 Evl TL
theorem x_gsub {σ : L2.St} {H : Hp} {v : V} {to ti : TE} {t : TSet} {QG : L2.St → Hp → Prop} (k : to σ H fun o H1 => ti σ H1 fun i H2 => t o i v H2 fun H3 => QG σ H3) : gSub to ti t v σ H QG := k
theorem upd_id {H : Hp} {a : Addr} {o : HO} (h : H a = some o) : upd H a o = H := by
  funext b
  by_cases e : b = a
  · rw [e, upd_same, h]
  · rw [upd_ne e]
theorem set_id {α : Type} {xs : List α} {k : Nat} {y : α} (h : xs[k]? = some y) : xs.set k y = xs := by
  apply List.ext_getElem?
  intro i
  rw [List.getElem?_set]
  split
  · rename_i e
    subst e
    obtain ⟨hl, _⟩ := List.getElem?_eq_some_iff.mp h
    rw [if_pos hl, h]
  · rfl
theorem ixN_of {n k : Nat} (h : k < n) : ixN n (k : Int) = some k := by
  unfold ixN
  rw [if_pos (Int.natCast_nonneg k), if_pos (by exact_mod_cast h)]
  simp
def rInKD (K : PySem.W.Frag) (d : Addr) (neg : Bool) : R2 := fun x y H Q => ∃ (z : Str) (r : Option Value), x = .str z ∧ y = .ref d ∧ PySem.W.nsIn K d z = some r ∧ Q (.bl (if neg then !r.isSome else r.isSome)) H
theorem op_notIn_kd' {X : Cx} {d : Addr} {es : Array DictEntry} {n : Nat} (D : KDict X.K X.w d es n) : OpR X (compareOp .NotIn) (rInKD X.K d true) := op_notIn_kd D
end L3

namespace L3
open PySem PySem.Spec PyProof.Rows L2 Evl TL
/-! ranges as values; lists of ranges -/
def rRg2 : List V → Hp → VK → Prop := fun vs H Q => ∃ i j, vs = [V.int i, V.int j] ∧ ∀ p, H p = none → Q (.ref p) (upd H p (.rng i j))
theorem call_rg2 {X : Cx} : CallR X (.type "range") rRg2 := cr_range2
def rOutR : R2 := fun x y H Q => ∃ i a lo hi, x = V.int i ∧ y = V.ref a ∧ H a = some (.rng lo hi) ∧ Q (.bl (!decide (lo ≤ i ∧ i < hi))) H
theorem op_outR {X : Cx} : OpR X (compareOp .NotIn) rOutR := by
  intro pins s σ H x y v u Q I rx ry h
  obtain ⟨i, a, lo, hi, rfl, rfl, ha, q⟩ := h
  obtain ⟨k, rfl⟩ := rx
  cases (show u = Value.ref a from ry)
  obtain ⟨t1, t2, t3, ho⟩ := I.hok a _ ha
  show wpAny _ _ (do return Value.bool (!(← contains (Value.ref a) (Value.int i k)))) _ _ s
  refine wpAny_bind ?_
  refine wpAny_contains_slot (T := "range") ⟨_, ho, rfl⟩ F.slot_range_contains ?_
  refine call_meets F.slot_range_contains ⟨_, ho, rfl⟩ F.entry_range_contains (F.args_range_contains_2 _ _) (q_contains a lo hi i t1 t2 t3 k) ?_
  refine ⟨ho, ?_⟩
  refine wpAny_truthy_bool ?_
  refine wpAny_pure ⟨.bl _, H, I, rfl, ?_⟩
  rw [place1]
  exact q
theorem x_outR {H : Hp} {Q : VK} {i : Int} {a : Addr} {lo hi : Int} (h : H a = some (.rng lo hi)) (k : Q (.bl (!decide (lo ≤ i ∧ i < hi))) H) : rOutR (.int i) (.ref a) H Q := ⟨i, a, lo, hi, rfl, rfl, h, k⟩
theorem x_rg2 {H : Hp} {Q : VK} {i j : Int} (k : ∀ p, H p = none → Q (.ref p) (upd H p (.rng i j))) : rRg2 [.int i, .int j] H Q := ⟨i, j, rfl, k⟩
theorem x_listRg {σ : L2.St} {H : Hp} {Q : VK} {te : L2.St → Hp → (Int → Int → Hp → Prop) → Prop} (k : te σ H fun a b H1 => RgOk a b ∧ ∀ q, H1 q = none → Q (.ref q) (upd H1 q (.lst (rgV a b)))) : tLstRg te σ H Q := k
theorem x_rg1 {σ : L2.St} {H : Hp} {Q : Int → Int → Hp → Prop} {ta : TE} (k : ta σ H fun x H1 => ∃ n, x = .int n ∧ Q 0 n H1) : tRg1 ta σ H Q := k
theorem x_catL {H : Hp} {Q : VK} {l b : Addr} {xs zs : List V} (h1 : H l = some (.lst xs)) (h2 : H b = some (.lst zs)) (hz : xs.length + zs.length ≤ sizeLine) (k : ∀ p, H p = none → Q (.ref p) (upd H p (.lst (xs ++ zs)))) : rCat (.ref l) (.ref b) H Q := ⟨l, b, xs, zs, rfl, rfl, h1, h2, hz, k⟩
end L3

namespace L3
open PySem PySem.Spec PyProof.Rows L2 Evl TL
/-! repr of plain values; max of a list; filters -/
def reprV : V → Str
  | .int i => toString i
  | .bl b => if b then "True" else "False"
  | _ => "None"
def rReprV : List V → Hp → VK → Prop := fun xs H Q => ∃ v, xs = [v] ∧ ((∃ i, v = .int i ∧ i.natAbs.log2 < 1920) ∨ (∃ b, v = .bl b) ∨ v = .non) ∧ Q (.str (reprV v)) H
theorem call_reprV {X : Cx} : CallR X (.builtin "repr") rReprV := by
  intro pins s σ H xs us Q I r h
  obtain ⟨v, rfl, hv, q⟩ := h
  obtain ⟨u, rfl, ru⟩ := vals1 r
  rcases hv with ⟨i, rfl, hz⟩ | ⟨b, rfl⟩ | rfl
  · obtain ⟨t, rfl⟩ := ru
    exact PySem.P.repr_of_int hz ⟨.str (toString i), H, I.tok _, ⟨_, rfl⟩, q⟩
  · cases (show u = Value.bool b from ru)
    refine PySem.P.repr_of_bool ⟨.str _, H, I.tok _, ⟨_, rfl⟩, ?_⟩
    exact q
  · cases (show u = Value.none from ru)
    refine PySem.P.repr_of_none ⟨.str _, H, I.tok _, ⟨_, rfl⟩, ?_⟩
    exact q
theorem call_maxV {X : Cx} (hc : X.calm = true) : CallR X (.builtin "max") (rMax X.K) := cr_max hc
section
variable {σ : L2.St} {H : Hp} {Q : VK} {K : PySem.W.Frag} {j : Nat} {te : TE} {tt : TT} {vs : List Nat}
/-- a comprehension that keeps the turns of which p holds -/
theorem comp_rangeP {lo : Int} {m : Nat} (p : Nat → Bool) (f : Nat → Int) (hz : m < 100000) (hw : ∀ x, wipe ((wipe σ vs).set j (some x)) vs = wipe σ vs)
    (hs : ∀ (i : Nat) H', i < m → Ex H H' → ∀ KT : Bool → Hp → Prop, (∀ H3, Ex H' H3 → KT (p i) H3) → tt ((wipe σ vs).set j (some (.int (lo + i)))) H' KT)
    (he : ∀ (i : Nat) H', i < m → p i = true → Ex H H' → ∀ KY : VK, KY (.int (f i)) H' → te ((wipe σ vs).set j (some (.int (lo + i)))) H' KY)
    (k : ∀ D H', H D = none → Ex H H' → H' D = some (.lst ((((List.range m).filter p).map f).map V.int)) → Q (.ref D) H') : Comp (Itr lo m) (gName j) tt te vs Q σ H := by
  refine comp_range (fun i acc => acc = (((List.range i).filter p).map f).map V.int) hz hw rfl (fun i acc H' hi ha e KY KN ky kn => ?_) (fun D acc H' hD e hl ha => k D H' hD e (by rw [hl, ha]))
  refine hs i H' hi e _ fun H3 e3 => ?_
  cases hp : p i with
  | true =>
    rw [if_pos rfl]
    exact he i H3 hi hp (e.trans e3) KY (ky _ _ e3 (by rw [ha, List.range_succ]; simp [List.filter_append, hp]))
  | false =>
    rw [if_neg (by decide)]
    exact kn H3 e3 (by rw [ha, List.range_succ]; simp [List.filter_append, hp])
theorem comp_listF {a : Addr} {ns : List Int} (f : Int → Int) (hx : SqL K H a (ns.map V.int)) (hz : ns.length < 100000) (hw : ∀ x, wipe ((wipe σ vs).set j (some x)) vs = wipe σ vs)
    (hs : ∀ (n : Int) H', n ∈ ns → Ex H H' → ∀ KY : VK, KY (.int (f n)) H' → te ((wipe σ vs).set j (some (.int n))) H' KY)
    (k : ∀ D H', H D = none → Ex H H' → H' D = some (.lst ((ns.map f).map V.int)) → Q (.ref D) H') : Comp (Itl K a) (gName j) tYes te vs Q σ H := by
  refine comp_list (fun i acc => acc = ((ns.take i).map f).map V.int) hx (by simpa using hz) hw rfl (fun i x acc H' hi ha e KY KN ky kn => ?_) (fun D acc H' hD e hl ha => k D H' hD e (by rw [hl, ha]; simp))
  rw [List.getElem?_map] at hi
  cases q : ns[i]? with
  | none => rw [q] at hi; cases hi
  | some n =>
    rw [q] at hi
    cases hi
    refine x_yes ?_
    rw [if_pos rfl]
    exact hs n H' (List.mem_of_getElem? q) e KY (ky _ _ (Ex.refl _) (by rw [ha, List.take_add_one, q]; simp))
theorem x_appendL {K : PySem.W.Frag} {p : Addr} {xs : List V} {y : V} (h : H p = some (.lst xs)) (hz : xs.length < sizeLine) (k : Q .non (upd H p (.lst (xs ++ [y])))) : rAppend (.ref p) [y] H Q := ⟨p, xs, y, rfl, rfl, h, hz, k⟩
end
/-- the last turn of which p holds -/
def lastP (p : Nat → Bool) : Nat → Option Nat
  | 0 => none
  | m + 1 => if p m = true then some m else lastP p m
theorem lastP_none {p : Nat → Bool} : ∀ {m : Nat}, lastP p m = none → (List.range m).filter p = []
  | 0, _ => rfl
  | m + 1, h => by
    unfold lastP at h
    split at h
    · cases h
    · rename_i hp
      rw [List.range_succ, List.filter_append, lastP_none h]
      simp [hp]
theorem lastP_some {p : Nat → Bool} {x : Nat} : ∀ {m : Nat}, lastP p m = some x → x < m ∧ p x = true ∧ ∀ y, y < m → p y = true → y ≤ x
  | 0, h => by cases h
  | m + 1, h => by
    unfold lastP at h
    split at h
    · rename_i hp
      cases h
      exact ⟨Nat.lt_succ_self _, hp, fun y hy _ => by omega⟩
    · rename_i hp
      obtain ⟨h1, h2, h3⟩ := lastP_some h
      refine ⟨by omega, h2, fun y hy hp2 => ?_⟩
      by_cases e : y = m
      · rw [e] at hp2; exact absurd hp2 hp
      · exact h3 y (by omega) hp2
def lastV (p : Nat → Bool) (m : Nat) : V := match lastP p m with
  | none => .non
  | some i => .int i
end L3

namespace L3
open PySem L2 Evl TL
/-! rows of plain values compared -/
def dOf : V → PyData
  | .int i => .int i
  | .str s => .str s
  | .bl b => .bool b
  | _ => .none
def okV : V → Bool
  | .int _ => true
  | .str s => PyData.strOk s
  | .bl _ => true
  | .non => true
  | _ => false
def sameK : V → V → Bool
  | .int _, .int _ => true
  | .str _, .str _ => true
  | .bl _, .bl _ => true
  | .non, .non => true
  | _, _ => false
def sameKs : List V → List V → Bool
  | [], [] => true
  | x :: xs, y :: ys => sameK x y && sameKs xs ys
  | _, _ => false
theorem dp_of {K : PySem.W.Frag} {H : Hp} : ∀ {v : V}, okV v = true → Dp K H v (dOf v)
  | .int i, _ => .int i
  | .str s, _ => .str s
  | .bl b, _ => .bl b
  | .non, _ => .non
theorem dpAll_of {K : PySem.W.Frag} {H : Hp} : ∀ {vs : List V}, vs.all okV = true → DpAll K H vs (vs.map dOf)
  | [], _ => .nil
  | v :: vs, h => by
    rw [List.all_cons, Bool.and_eq_true] at h
    exact .cons (dp_of h.1) (dpAll_of h.2)
theorem lay_of : ∀ {v : V}, okV v = true → PyData.canLay0 (dOf v) = true ∧ PyData.depth (dOf v) = 0
  | .int i, _ => by simp [dOf, PyData.canLay0, PyData.depth]
  | .str s, h => by
    have h' : PyData.strOk s = true := h
    simp [dOf, PyData.canLay0, PyData.depth, h']
  | .bl b, _ => by simp [dOf, PyData.canLay0, PyData.depth]
  | .non, _ => by simp [dOf, PyData.canLay0, PyData.depth]
theorem layAll_of : ∀ {vs : List V}, vs.all okV = true → PyData.canLayAll0 (vs.map dOf) = true ∧ PyData.depthAll (vs.map dOf) = 0
  | [], _ => by simp [PyData.canLayAll0, PyData.depthAll]
  | v :: vs, h => by
    rw [List.all_cons, Bool.and_eq_true] at h
    obtain ⟨a1, a2⟩ := lay_of h.1
    obtain ⟨b1, b2⟩ := layAll_of h.2
    simp [PyData.canLayAll0, PyData.depthAll, a1, a2, b1, b2]
theorem shaped_L {vs : List V} (h : vs.all okV = true) : SeqAt.shaped (.list (vs.map dOf)) = true := by
  obtain ⟨h1, h2⟩ := layAll_of h
  unfold SeqAt.shaped
  simp only [PyData.canLay0, h1, PyData.depth, h2]
  decide
theorem shaped_T {vs : List V} (h : vs.all okV = true) : SeqAt.shaped (.tuple (vs.map dOf)) = true := by
  obtain ⟨h1, h2⟩ := layAll_of h
  unfold SeqAt.shaped
  simp only [PyData.canLay0, h1, PyData.depth, h2]
  decide
theorem eqv_of : ∀ {x y : V}, sameK x y = true → PyData.eqv (dOf x) (dOf y) = decide (x = y)
  | .int i, .int j, _ => by
    by_cases h : i = j
    · subst h; simp [dOf, PyData.eqv]
    · simp [dOf, PyData.eqv, h]
  | .str i, .str j, _ => by
    by_cases h : i = j
    · subst h; simp [dOf, PyData.eqv]
    · simp [dOf, PyData.eqv, h]
  | .bl i, .bl j, _ => by cases i <;> cases j <;> simp [dOf, PyData.eqv]
  | .non, .non, _ => by simp [dOf, PyData.eqv]
theorem eqvAll_of : ∀ {xs ys : List V}, sameKs xs ys = true → PyData.eqvAll (xs.map dOf) (ys.map dOf) = decide (xs = ys)
  | [], [], _ => by simp [PyData.eqvAll]
  | x :: xs, y :: ys, h => by
    rw [sameKs, Bool.and_eq_true] at h
    simp only [List.map_cons, PyData.eqvAll, eqv_of h.1, eqvAll_of h.2]
    by_cases e : x = y
    · subst e; simp
    · simp [e]
section
variable {K : PySem.W.Frag} {H : Hp} {Q : VK} {p q : Addr} {xs ys : List V}
theorem x_neL (h1 : H p = some (.lst xs)) (h2 : H q = some (.lst ys)) (o1 : xs.all okV = true) (o2 : ys.all okV = true) (s : sameKs xs ys = true) (k : Q (.bl (!decide (xs = ys))) H) : rNeD K (.ref p) (.ref q) H Q := by
  refine ⟨_, _, .lst (SqL.of h1) (dpAll_of o1), .lst (SqL.of h2) (dpAll_of o2), shaped_L o1, shaped_L o2, ?_⟩
  simp only [PyData.eqv, eqvAll_of s]
  exact k
theorem x_eqT (h1 : SqT K H p xs) (h2 : SqT K H q ys) (o1 : xs.all okV = true) (o2 : ys.all okV = true) (s : sameKs xs ys = true) (k : Q (.bl (decide (xs = ys))) H) : rEqD K (.ref p) (.ref q) H Q := by
  refine ⟨_, _, .tup h1 (dpAll_of o1), .tup h2 (dpAll_of o2), shaped_T o1, shaped_T o2, ?_⟩
  simp only [PyData.eqv, eqvAll_of s]
  exact k
end
theorem sameK_refl : ∀ {x : V}, okV x = true → sameK x x = true
  | .int _, _ => rfl
  | .str _, _ => rfl
  | .bl _, _ => rfl
  | .non, _ => rfl
theorem sameKs_refl : ∀ {xs : List V}, xs.all okV = true → sameKs xs xs = true
  | [], _ => rfl
  | x :: xs, h => by
    rw [List.all_cons, Bool.and_eq_true] at h
    rw [sameKs, sameK_refl h.1, sameKs_refl h.2]
    rfl
theorem strOk_of {x : Str} (h : ∀ c ∈ tl x, c < 1114112) : PyData.strOk x = true := by
  unfold PyData.strOk
  rw [← Array.all_toList, List.all_eq_true]
  intro c hc
  exact decide_eq_true (h c hc)
theorem strOk_app {x y : Str} (hx : PyData.strOk x = true) (hy : PyData.strOk y = true) : PyData.strOk (x ++ y) = true := by
  refine strOk_of fun c hc => ?_
  unfold PyData.strOk at hx hy
  rw [← Array.all_toList, List.all_eq_true] at hx hy
  rw [tl_append] at hc
  rcases List.mem_append.mp hc with h | h
  · exact of_decide_eq_true (hx c h)
  · exact of_decide_eq_true (hy c h)
theorem strOk_num {i : Int} (h : 0 ≤ i) : PyData.strOk (numS i) = true := by
  refine strOk_of fun c hc => ?_
  rw [numS_tl h] at hc
  by_cases z : c < 48 ∨ 57 < c
  · exact absurd hc (numL_free z)
  · omega
theorem kdct_of {K : PySem.W.Frag} {w : World} {a : Addr} {es : Array DictEntry} {n : Nat} {x : Str} {v : V} {u : Value} (D : KDict K w a es n) (h : PySem.W.nsIn K a x = some (some u)) (r : RelV v u) : KDct K w a x v := ⟨es, n, u, D.at_, D.lit, h, r⟩
theorem x_par3 {σ : L2.St} {H : Hp} {n r b c} {i j l : Nat} {ta : TA} (k : ta σ H fun vs H1 => ∃ u v w, vs = [u, v, w] ∧ n (((σ.set i (some u)).set j (some v)).set l (some w)) H1) : tPar3 i j l ta ⟨n, r, b, c⟩ σ H := k
end L3

namespace L3
open PySem PySem.Spec PyProof.Rows L2 Evl TL
/-! != of two instances of a class with its own __eq__ and no __ne__ -/
def neB (x : Str) (K : PySem.W.Frag) : Bool := He.eqO (PySem.W.findIn K (.ref (He.ga K x)) "__ne__") (some (some (.builtin "object.__ne__"))) && decide (PySem.W.mroIn K (He.ga K x) (.type "object") = some true)
structure NeC (K : PySem.W.Frag) (C : Addr) : Prop where
  f : PySem.W.findIn K (.ref C) "__ne__" = some (some (.builtin "object.__ne__"))
  m : PySem.W.mroIn K C (.type "object") = some true
theorem neC_of {K : PySem.W.Frag} {x : Str} (h : neB x K = true) : NeC K (He.ga K x) := by
  obtain ⟨h1, h2⟩ := He.ba h
  exact ⟨He.eqO_ok h1, of_decide_eq_true h2⟩
section
variable {M : Model} {prog : Program} {w : World} {A : Around} {E : Value → Shared → Prop} {s : Shared} {K : PySem.W.Frag} {x C : Addr} {ox : Obj} {od : Option Obj} {b : Value}
theorem ifBound_ne {Q : Option Value → Shared → Prop} (X : K.In s.heap) (I : PySem.W.InstAt s.heap x ox C od) (hs : PySem.W.findIn K (.ref C) "__ne__" = some (some (.builtin "object.__ne__")))
    (h : wpAny M A (call (.builtin "object.__ne__") [.ref x, b]) (fun v => Q (some v)) E s) : wpAny M A (callSpecialIfBound? (.ref x) "__ne__" [b]) Q E s := by
  unfold callSpecialIfBound? bindSpecialIfBound?
  refine wpAny_holding (wpAny_bind ?_)
  refine wpAny_bind (wpAny_bind (I.type.here ?_))
  refine (PySem.W.looks_findIn X hs).here ?_
  refine wpAny_bind (wpAny_askSetting (wpAny_ite ?_))
  have fin : wpAny M A (do let v ← call (.builtin "object.__ne__") ([.ref x] ++ [b]); pure (some v)) Q E s := by
    refine wpAny_bind (wpAny_mono h (fun v s' z => ?_) fun _ _ z => z)
    exact wpAny_pure z
  split
  · refine wpAny_bind ?_
    exact wpAny_of_eq (F.cmp_object.ne.bind _) (wpAny_pure (by exact fin))
  · refine wpAny_tryCatch (wpAny_bind ?_)
    exact wpAny_of_eq (F.cmp_object.ne.bind _) (wpAny_pure (by exact fin))
theorem entry_ne {Q : Fin → Shared → Prop} (hu : A.units < cLine) (h : wpAny M A (callSpecialIfBound? (.ref x) "__eq__" [b]) (fun r s' => ∃ c, r = some (.bool c) ∧ Q (.done (.ret (.bool (!c)))) s') E s) :
    wpAny M A (Builtin.«object.__ne__» ⟨[.ref x, b], []⟩) Q E s := by
  unfold Builtin.«object.__ne__»
  have h2 : ∀ R : Option Value → Shared → Prop, (∀ c s', Q (.done (.ret (.bool (!c)))) s' → R (some (.bool c)) s') → wpAny M A (callSpecialIfBound? (.ref x) "__eq__" [b]) R E s := fun R hR => by
    refine wpAny_mono h (fun r s' z => ?_) fun _ _ z => z
    obtain ⟨c, rfl, q⟩ := z
    exact hR c s' q
  repeat (first | with_reducible refine wpAny_cRoomFor hu ?_ | (with_reducible refine h2 _ (fun c s' q => ?_)) | wp_step)
  exact q
theorem call_ne {Q : Value → Shared → Prop} (hu : A.units + 1 < cLine) (X : K.In s.heap) (I : PySem.W.InstAt s.heap x ox C od) (hm : PySem.W.mroIn K C (.type "object") = some true)
    (h : wpAny (model prog w) A.in1 (callSpecialIfBound? (.ref x) "__eq__" [b]) (fun r s' => ∃ c, r = some (.bool c) ∧ Q (.bool (!c)) s') E s) : wpAny (model prog w) A (call (.builtin "object.__ne__") [.ref x, b]) Q E s := by
  refine wpAny_call (codeAny_call_builtin F.cmp_object.ne.plain F.cmpEntry_ne ?_)
  refine PySem.W.check_slot F.cmpKind_ne F.cmpSplit_ne (I.type.andThen (PySem.W.looks_mroIn X hm)) (F.cmpArgs_ne _ _) ?_
  exact entry_ne hu h
end
def rNeI (C : Addr) (sp : Sp) : R2 := fun x y H Q => ∃ a b dx fs dy gs, x = .ref a ∧ y = .ref b ∧ H a = some (.ins C dx fs) ∧ H b = some (.ins C dy gs) ∧ sp [.ref a, .ref b] H (fun v H' => ∃ c, v = .bl c ∧ Q (.bl (!c)) H') E0
section
variable {X : Cx} {k : Nat} {C : Addr} {ps : List Str} {sp : Sp}
theorem op_neI (N : NeC X.K C) (M : Mt X.prog X.w X.K X.mg X.base k C "__eq__" ps sp) (hr : Room (k + 1) X.A) : OpR X (compareOp .NotEq) (rNeI C sp) := by
  intro pins s σ H x y v u Q I rx ry hq
  obtain ⟨a, b, dx, fs, dy, gs, rfl, rfl, ha, hb', hsp⟩ := hq
  obtain ⟨f, fd, F, me, bi⟩ := M.ex
  cases rx
  cases ry
  obtain ⟨mA, J, _⟩ := ins_get I.hok ha
  obtain ⟨mB, J', _⟩ := ins_get I.hok hb'
  obtain ⟨od, J, _⟩ := J.look
  obtain ⟨od', J', _⟩ := J'.look
  have hr1 : Room k X.A.in1 := Room.in1 (k := k) hr
  show wpAny (model X.prog X.w) X.A (richCompare .NotEq (.ref a) (.ref b)) (EP X pins σ Q) X.xe s
  have one : wpAny (model X.prog X.w) X.A (tryCompare (.ref a) (cmpInfo .NotEq).2.1 (.ref b)) (fun r s' => ∃ v, r = some v ∧ EP X pins σ Q v s') X.xe s := by
    unfold tryCompare
    refine wpAny_bind (ifBound_ne I.kIn J N.f ?_)
    refine call_ne (by have := hr.units; omega) I.kIn J N.m ?_
    refine PySem.W.ifBound_K I.kIn J me.at_ me.fn ?_
    have e0 : Env0 X.prog X.w X.K X.mg X.base X.A.in1 X.stack s H := I.env0.in1
    have hl := F.len _ _ _ _ hsp
    have r2 : Vals [V.ref a, V.ref b] [Value.ref a, Value.ref b] := .cons rfl (.cons rfl .nil)
    refine wpAny_call (codeAny_mono (F.run X.A.in1 X.stack s H ⟨[.ref a, .ref b], []⟩ [.ref a, .ref b] [.ref a, .ref b] _ E0 hr1 e0 (by
      have := bi s [.ref a, .ref b] I.kIn (by simpa using hl)
      simpa using this) r2 hsp) fun r s' hq => ?_)
    cases r with
    | error e => exact hq.elim
    | ok fl =>
      cases fl with
      | ret w =>
        obtain ⟨z, H', I', rz, c, ez, q⟩ := I.after hq
        subst ez
        cases rz
        exact ⟨c, rfl, wpAny_pure ⟨_, rfl, .bl (!c), H', I', rfl, q⟩⟩
      | next => exact False.elim hq
      | brk => exact False.elim hq
      | cont => exact False.elim hq
  unfold richCompare
  simp only [oneThing_ref]
  refine wpAny_holding (wpAny_bind (wpAny_cRoomFor hr.units0 ?_))
  refine wpAny_bind (J.type.here (wpAny_bind (J'.type.here ?_)))
  split
  · rename_i q
    simp at q
  · refine wpAny_bind (wpAny_pure ?_)
    simp only [Bool.false_eq_true, if_false]
    refine wpAny_bind (wpAny_mono one (fun r s' z => ?_) fun _ _ e => e)
    obtain ⟨v, rfl, hq⟩ := z
    exact wpAny_pure hq
theorem x_neI {H : Hp} {Q : VK} {a b dx dy : Addr} {fs gs : List (Str × V)} (ha : H a = some (.ins C dx fs)) (hb : H b = some (.ins C dy gs)) (k : sp [.ref a, .ref b] H (fun v H' => ∃ c, v = .bl c ∧ Q (.bl (!c)) H') E0) : rNeI C sp (.ref a) (.ref b) H Q :=
  ⟨a, b, dx, fs, dy, gs, rfl, rfl, ha, hb, k⟩
end
end L3

namespace L3
open PySem PySem.Spec PyProof.Rows L2 Evl TL
/-! lists of new tuples; dict of pairs; sorted -/
/-- what is no list still stands -/
def Kt (H H' : Hp) : Prop := ∀ a u, H a = some u → (∀ ys, u ≠ .lst ys) → H' a = some u
theorem Ex.kt {H H' : Hp} (e : Ex H H') : Kt H H' := fun a u h _ => e a u h
theorem kt_upd {H : Hp} {D : Addr} {xs ys : List V} (h : H D = some (.lst xs)) : Kt H (upd H D (.lst ys)) := fun a u ha hn => by
  have : a ≠ D := fun z => by
    rw [z, h] at ha
    cases ha
    exact hn xs rfl
  rw [upd_ne this]
  exact ha
theorem ex_newU {H H' : Hp} {D : Addr} {u : HO} (h : H D = none) (e : Ex H H') : Ex H (upd H' D u) := fun b o hb => by
  rw [upd_ne (ne_of_none hb h)]
  exact e b o hb
section
variable {σ : L2.St} {H : Hp} {Q : VK} {K : PySem.W.Frag} {j : Nat} {te : TE} {vs : List Nat}
theorem comp_listH {a : Addr} {xs : List V} (Rr : Nat → List V → Hp → Prop) (mono : ∀ i acc H H', Kt H H' → Rr i acc H → Rr i acc H') (hx : SqL K H a xs) (hz : xs.length < 100000) (hw : ∀ x, wipe ((wipe σ vs).set j (some x)) vs = wipe σ vs) (h0 : Rr 0 [] H)
    (hs : ∀ i x acc H', xs[i]? = some x → Rr i acc H' → Ex H H' → ∀ KY : VK, (∀ y H4, Ex H' H4 → Rr (i + 1) (acc ++ [y]) H4 → KY y H4) → te ((wipe σ vs).set j (some x)) H' KY)
    (k : ∀ D acc H', H D = none → Ex H H' → H' D = some (.lst acc) → Rr xs.length acc H' → Q (.ref D) H') : Comp (Itl K a) (gName j) tYes te vs Q σ H := fun D hD => by
  refine lc_list (K := K) (a := a) (xs := xs) (fun i H' => ∃ acc, Rr i acc H' ∧ acc.length ≤ i ∧ Ex H H' ∧ H' D = some (.lst acc)) ⟨[], mono _ _ _ _ (Ex.kt (Ex.new hD)) h0, Nat.le_refl _, Ex.new hD, upd_same⟩ (fun i H' _ ⟨_, _, _, e, _⟩ => ex_l e hx) ?_ ?_
  · rintro i x H' hi ⟨acc, r, l, e, hd⟩
    have hi' : i < xs.length := (List.getElem?_eq_some_iff.mp hi).1
    refine ⟨hw x, x_yes ?_⟩
    rw [if_pos rfl]
    refine hs i x acc H' hi r e _ fun y H4 e4 r4 => ?_
    exact ⟨acc, e4 _ _ hd, Nat.lt_of_le_of_lt l (Nat.lt_of_lt_of_le hi' (Nat.le_trans (Nat.le_of_lt hz) (by decide))), acc ++ [y], mono _ _ _ _ (kt_upd (e4 _ _ hd)) r4, by simp; omega, ex_newU hD (e.trans e4), upd_same⟩
  · rintro H' ⟨acc, r, l, e, hd⟩
    exact k D acc H' hD e hd r
end
def rDictP (K : PySem.W.Frag) : List V → Hp → VK → Prop := fun xs H Q => ∃ (a : Addr) (ps : List Addr) (kvs : List (Key × V)), xs = [.ref a] ∧ SqL K H a (ps.map V.ref) ∧ Paired (fun p kv => SqT K H p [kV kv.1, kv.2]) ps kvs ∧
    ∀ p, H p = none → Q (.ref p) (upd H p (.dK (mergeK [] kvs)))
theorem call_dictP' {X : Cx} (hc : X.calm = true) : CallR X (.type "dict") (rDictP X.K) := call_dictP hc
def rLenD : List V → Hp → VK → Prop := fun xs H Q => ∃ a kvs, xs = [V.ref a] ∧ H a = some (.dK kvs) ∧ Q (.int kvs.length) H
theorem call_lenD' {X : Cx} : CallR X (.builtin "len") rLenD := call_lenD
theorem call_sorted' {X : Cx} : CallR X (.builtin "sorted") (rSorted X.K) := cr_sorted
/-- keys that rise up to c and stay: the dict has c of them -/
def kvsF (f : Nat → Int) (n : Nat) : List (Key × V) := (List.range n).map fun i => (Sum.inl (f i), V.int 1)
theorem merge_rise {f : Nat → Int} {c : Nat} (up : ∀ i, i + 1 < c → f i < f (i + 1)) (st : ∀ i, c ≤ i → f i = f (c - 1)) (c1 : 1 ≤ c) : ∀ n, mergeK [] (kvsF f n) = kvsF f (min n c) := by
  have lt : ∀ i k, i < k → k < c → f i < f k := fun i k hik hk => by
    induction k with
    | zero => omega
    | succ k ih =>
      by_cases e : i = k
      · rw [e]; exact up k hk
      · exact Int.lt_trans (ih (by omega) (by omega)) (up k hk)
  intro n
  induction n with
  | zero => rfl
  | succ n ih =>
    have e1 : kvsF f (n + 1) = kvsF f n ++ [(Sum.inl (f n), V.int 1)] := by
      unfold kvsF
      rw [List.range_succ, List.map_append]
      rfl
    have e2 : mergeK [] (kvsF f (n + 1)) = putK (mergeK [] (kvsF f n)) (Sum.inl (f n)) (V.int 1) := by
      rw [e1]
      unfold mergeK
      rw [List.foldl_append]
      rfl
    rw [e2, ih]
    by_cases h : n < c
    · rw [show min n c = n by omega, show min (n + 1) c = n + 1 by omega, e1]
      unfold putK
      rw [if_neg]
      intro z
      rw [List.any_eq_true] at z
      obtain ⟨kv, hkv, hd⟩ := z
      unfold kvsF at hkv
      obtain ⟨i, hi, rfl⟩ := List.mem_map.mp hkv
      rw [List.mem_range] at hi
      have e : f i = f n := by simpa using hd
      have := lt i n hi h
      omega
    · rw [show min n c = c by omega, show min (n + 1) c = c by omega]
      unfold putK
      rw [if_pos]
      · rw [List.map_congr_left (g := id)]
        · simp
        · intro kv hkv
          unfold kvsF at hkv
          obtain ⟨i, hi, rfl⟩ := List.mem_map.mp hkv
          simp only [id]
          split <;> rfl
      · rw [List.any_eq_true]
        refine ⟨(Sum.inl (f (c - 1)), V.int 1), ?_, by rw [st n (by omega)]; simp⟩
        unfold kvsF
        exact List.mem_map.mpr ⟨c - 1, by rw [List.mem_range]; omega, rfl⟩
theorem sorted_eq {ns ms : List Int} (p : ms.Perm ns) (s : ms.Pairwise (· ≤ ·)) (t : ns.Pairwise (· ≤ ·)) : ms = ns := List.Perm.eq_of_pairwise (fun _ _ _ _ a b => Int.le_antisymm a b) s t p
end L3

namespace L3
open PySem PySem.Spec PyProof.Rows L2 Evl TL
/-! functions that are called where no repr is under way -/
structure FnG (P : Program) (w : World) (K : PySem.W.Frag) (mg : Str → Option Value) (base : Heap) (k : Nat) (f : Addr) (fd : FuncData) (ps : List Str) (sp : Sp) : Prop where
  len : ∀ vs H Q E, sp vs H Q E → vs.length = ps.length
  run : ∀ (A : Around) (outer : List Env) (s : Shared) (H : Hp) (args : Args) (us : List Value) (vs : List V) (Q : VK) (E : XK), A.guards = some [] → Room k A → Env0 P w K mg base A outer s H →
    BindsTo s fd args (ps.zip us) → Vals vs us → sp vs H Q E → codeAny (model P w) A (.call (.ref f) args) (CR CX0 outer P w H s Q E) s
section
variable {P : Program} {w : World} {K : PySem.W.Frag} {mg : Str → Option Value} {base : Heap} {k : Nat}
theorem fnG_of {f : Addr} {x q : Str} {st : Stmt} {fd : FuncData} {N ps : List Str} {sp : Sp} (F : Fun K x q st f fd) (S : FnScope N ps (defScope st)) (len : ∀ vs H Q E, sp vs H Q E → vs.length = ps.length)
    (hbody : ∀ (cdv : Value) (A : Around) (outer : List Env) (s : Shared) (H : Hp) (vs : List V) (Q : VK) (E : XK), A.guards = some [] → Room k (A.deeper (envOfC q (defScope st) s.heap.objs.size f cdv)) → sp vs H Q E →
      ∃ t, PSs (cxOf CX0 P w K mg base N q (defScope st) f cdv A outer s H E).nox (defBody st) t ∧ t { nx := fun _ H' => Q .non H', rt := Q } (start N vs) H) : FnG P w K mg base (k + 1) f fd ps sp := by
  obtain ⟨oc, od, kV, doc, pm, an, cdv, ct, osl, rfl, lk, hcd⟩ := F.ex
  refine ⟨len, ?_⟩
  intro A outer s H args us vs Q E hg hr e0 hb r hsp
  have keep : ∀ b o, base.get? b = some o → s.heap.get? b = some o := fun b o e => (e0.bs b o e).1
  have KX : K.In s.heap := e0.mod.kin.keeps keep
  have par : ∀ y ∈ ps.zip us, (defScope st).names.lookup y.1 = some .local ∨ ((defScope st).names.lookup y.1 = some .cell ∧ ((cellsFrom (s.heap.objs.size + 1) (defScope st).names []).lookup y.1).isSome = true) := by
    rintro ⟨n, v⟩ hy
    cases S.par n (List.of_mem_zip hy).1 with
    | inl z => exact .inl z
    | inr z => exact .inr ⟨z, PySem.W.cellsFrom_some _ _ _ (.inl z)⟩
  refine codeAny_call_function hr.depth (KX _ _ lk) rfl S.co S.gen rfl (PySem.W.codeRec_of KX hcd) ?_
  refine hb _ _ _ _ ?_
  refine wpAny_newFunctionEnv_cells S.kind par ?_
  rintro env rfl s1 x
  refine ⟨(e0.mod.nolimit.keeps keep).keeps x.toInCall.keep, ?_⟩
  refine codeAny_func ?_
  obtain ⟨t, ht, hq⟩ := hbody cdv A outer s H vs Q E hg (hr.deeper _) hsp
  have I : Inv (cxOf CX0 P w K mg base N q (defScope st) f cdv A outer s H E) [] (start N vs) H s1 := inv_start S hr.hd e0 (len _ _ _ _ hsp) r x
  refine wpAny_mono (ht.nox.run [] s1 (start N vs) H _ I hq) ?_ (fun _ _ z => z)
  intro fl s' hs
  match fl, hs with
  | .ret u, ⟨v, σ', H', J, rv, z⟩ => exact ⟨v, H', J.os, J.bare, J.base, J.hok, rv, z⟩
  | .next, ⟨σ', H', J, z⟩ => exact ⟨.non, H', J.os, J.bare, J.base, J.hok, rfl, z⟩
  | .brk, ⟨_, _, _, z⟩ => exact z.elim
  | .cont, ⟨_, _, _, z⟩ => exact z.elim
end
section
variable {P : Program} {w : World} {K : PySem.W.Frag} {mg mb : Str → Option Value} {k : Nat} {fa a : Addr} {fd : FuncData} {x : Str} {sp : Sp} {s₁ : Shared} {vs : List Value} {ns : List Int}
/-- the call of a law from an abstract heap that knows of the script at most -/
theorem callG_core {H : Hp} (KX : K.In s₁.heap) (hns : s₁.heap.Ns mainGlobals mg) (hb : s₁.heap.Ns builtinsNs mb) (hbb : ∀ x : Str, x ≠ "__name__" → mb x = bootBuiltins x) (hlim : s₁.heap.NoLimit) (hg : s₁.gens = #[])
    (isL : s₁.heap.get? a = some { cls := .type "list", data := .seq vs.toArray }) (hr : Room k callerA)
    (F : ∀ base : Heap, K.In base → base.Ns mainGlobals mg → FnG P w K mg base k fa fd [x] sp) (hbind : ∀ (s : Shared) (u : Value), BindsTo s fd ⟨[u], []⟩ [(x, u)])
    (hsp : sp [.ref a] H (fun v _ => v = .bl true) fun _ _ _ => False) (hO : Only H) (hok : HOk P w H s₁.heap) (hA : ∀ b, H b ≠ none → b = a) (hK : H a ≠ none → K.lookup a = none) :
    codeAny (model P w) callerA (.call (.ref fa) ⟨[.ref a], []⟩) (fun r s' => r = .ok (.ret (.bool true)) ∧ OldK s₁.heap s'.heap ∧ s'.os = s₁.os ∧ AllBare s'.gens) s₁ := by
  have free : ∀ b, b ≠ a → H b = none := fun b hne => by
    cases z : H b with
    | none => rfl
    | some u => exact absurd (hA b (by rw [z]; simp)) hne
  have stays : ∀ {b : Addr} {m : Str → Option Value}, s₁.heap.Ns b m → (hidT s₁.heap H).Ns b m := by
    rintro b m ⟨o, es, ep, e, d, rest⟩
    refine ⟨o, es, ep, hidT_get e (free b fun z => ?_), d, rest⟩
    rw [z, isL] at e
    cases e
    exact Data.noConfusion d
  have inB : K.In (hidT s₁.heap H) := by
    intro b o e
    refine hidT_get (KX b o e) ?_
    cases z : H b with
    | none => rfl
    | some u =>
      have nz : H b ≠ none := by rw [z]; simp
      have ea := hA b nz
      rw [ea] at e nz
      rw [hK nz] at e
      cases e
  obtain ⟨mc, lim1, lim2⟩ := hlim
  have md : Mod K mg (hidT s₁.heap H) := ⟨inB, stays hns, ⟨mb, stays hb, hbb⟩, ⟨mc, stays lim1, lim2⟩⟩
  have env : Env0 P w K mg (hidT s₁.heap H) callerA [] s₁ H := by
    refine ⟨rfl, md, fun b o e => of_hidT e, Nat.le_of_eq (hidT_size _ _), trivial, ?_, hok, .of_eq hg⟩
    intro b hb
    exact nomatch (show b ∈ ([] : List Addr) from hb)
  have go := (F _ inB (stays hns)).run callerA [] s₁ H ⟨[.ref a], []⟩ [.ref a] [.ref a] _ _ rfl hr env (hbind s₁ (.ref a)) (.cons rfl .nil) hsp
  refine codeAny_mono go ?_
  intro r s' h
  match r, h with
  | .ok (.ret u), ⟨v, H', os, bare, un, hok', ru, (ev : v = .bl true)⟩ =>
    subst ev
    cases (show u = Value.bool true from ru)
    refine ⟨rfl, OldK.of_keep ?_, os, bare⟩
    intro b o e
    rcases hO b with z | ⟨ob, xs, z⟩
    · exact un.keep b o e z (fun w => nomatch (show b ∈ ([] : List Addr) from w)) (by simp)
    · have e1 := (hok b _ z).1
      have e2 := (hok' b _ (un.frzs b ob _ z)).1
      rw [e] at e1
      cases e1
      exact e2
theorem callG {n : Nat} (KX : K.In s₁.heap) (hns : s₁.heap.Ns mainGlobals mg) (hb : s₁.heap.Ns builtinsNs mb) (hbb : ∀ x : Str, x ≠ "__name__" → mb x = bootBuiltins x) (hlim : s₁.heap.NoLimit) (hg : s₁.gens = #[])
    (isL : s₁.heap.get? a = some { cls := .type "list", data := .seq vs.toArray }) (hi : IntsAre vs ns) (hl : ns.length ≤ sizeLine) (hr : Room k callerA)
    (F : ∀ base : Heap, K.In base → base.Ns mainGlobals mg → FnG P w K mg base k fa fd [x] sp) (hbind : ∀ (s : Shared) (u : Value), BindsTo s fd ⟨[u], []⟩ [(x, u)])
    (hsp : ∀ H : Hp, Only H → SqL K H a (ns.map V.int) → sp [.ref a] H (fun v _ => v = .bl true) fun _ _ _ => False) :
    codeAny (model P w) callerA (.call (.ref fa) ⟨[.ref a], []⟩) (fun r s' => r = .ok (.ret (.bool true)) ∧ OldK s₁.heap s'.heap ∧ s'.os = s₁.os ∧ AllBare s'.gens) s₁ := by
  have rv := vals_ints hi
  have lenV := hi.length
  cases own : K.lookup a with
  | some o =>
    have e := KX a o own
    rw [isL] at e
    cases e
    have hO : Only (fun _ => none) := fun _ => .inl rfl
    have hS : SqL K (fun _ => none) a (ns.map V.int) := .inr ⟨_, vs.toArray, _, own, rfl, rfl, rfl, by rw [List.size_toArray, lenV]; exact hl, by simpa using rv⟩
    exact callG_core KX hns hb hbb hlim hg isL hr F hbind (hsp _ hO hS) hO (fun b u z => by cases z) (fun b z => absurd rfl z) (fun z => absurd rfl z)
  | none =>
    let H0 : Hp := fun b => if b = a then some (.frz { cls := .type "list", data := .seq vs.toArray } (.lst (ns.map V.int))) else none
    have at_a : H0 a = some (.frz { cls := .type "list", data := .seq vs.toArray } (.lst (ns.map V.int))) := if_pos rfl
    have off : ∀ b, b ≠ a → H0 b = none := fun b z => if_neg z
    have hO : Only H0 := fun b => by
      by_cases z : b = a
      · rw [z]; exact .inr ⟨_, _, at_a⟩
      · exact .inl (off b z)
    have hS : SqL K H0 a (ns.map V.int) := .inl (.inr ⟨{ cls := .type "list", data := .seq vs.toArray }, at_a⟩)
    refine callG_core KX hns hb hbb hlim hg isL hr F hbind (hsp _ hO hS) hO ?_ ?_ (fun _ => own)
    · intro b u hu
      by_cases z : b = a
      · subst z
        rw [at_a] at hu
        cases hu
        exact ⟨isL, by rw [List.length_map]; exact hl, vs, _, rv, isL⟩
      · rw [off b z] at hu
        cases hu
    · intro b hne
      by_cases z : b = a
      · exact z
      · exact absurd (off b z) hne
end
theorem walkG {l : PySem.W.OpenLaw} {n k : Nat} {q : Program} {loose : List Str} {XP : (Str → Option Value) → Heap → Prop} {YP : World → Heap → Prop} {d : DefRec} {x : Str}
    (hn : l.most = some n) (hn2 : n ≤ sizeLine) (hdf : d.params.defaults = []) (hr : Room k callerA)
    (F : ∀ (w : World) (mg : Str → Option Value) (fa : Addr) (h : Heap), YP w h → h.Ns mainGlobals mg → mg d.name = some (.ref fa) →
      ∃ (K : PySem.W.Frag) (fd : FuncData) (sp : Sp), K.In h ∧ (∀ (s : Shared) (u : Value), BindsTo s fd ⟨[u], []⟩ [(x, u)]) ∧
        (∀ (H : Hp) (a : Addr) (ns : List Int), ns.length ≤ n → SqL K H a (ns.map V.int) → sp [.ref a] H (fun v _ => v = .bl true) fun _ _ _ => False) ∧
        ∀ base : Heap, K.In base → base.Ns mainGlobals mg → FnG l.prog w K mg base k fa fd [x] sp) :
    PySem.W.WalkO q loose XP YP l.row.toRowW d [] (fun f vs => PySem.call f vs) := by
  refine Att.attach_call hn hdf ?_
  intro w s₀ s₁ mg mb fa o pm cd doc a vs ns G Y ho hd hcd hmg hobj hints hlen hg
  obtain ⟨K, fd, sp, KX, hb, hsp, hF⟩ := F w mg fa _ Y G.T.g hmg
  exact callG (n := n) KX G.T.g G.T.b G.T.builtins G.T.nolimit hg hobj hints (Nat.le_trans hlen hn2) hr hF hb (fun H _ hS => hsp H a ns hlen hS)
end L3

/-! values as plain data, over the tracked heap -/
namespace L4
open PySem L2
inductive D where
  | non | bl (b : Bool) | int (i : Int) | str (x : Str) | tup (ds : List D) | lst (ds : List D) | scr (ds : List D) | dic (ks vs : List D) | obj (c : Str) (ns : List Str) (vs : List D) | ref (n : Nat) | glo (x : Str) | ty (n : String)
instance : Inhabited D := ⟨.non⟩
inductive O where
  | lst (ds : List D) | dic (ks vs : List D) | ins (c : Str) (ns : List Str) (vs : List D)
abbrev M := List O
structure G where
  P : Program
  w : World
  K : PySem.W.Frag
abbrev gx (X : Cx) : G := ⟨X.prog, X.w, X.K⟩
mutual
def nk : D → Option NestedKey
  | .non => some .none
  | .bl b => some (.num (if b then 1 else 0))
  | .int i => some (.num i)
  | .str x => some (.text x)
  | .tup ds => (nks ds).map .tup
  | .lst _ => none
  | .scr _ => none
  | .dic _ _ => none
  | .obj _ _ _ => none
  | .ref _ => none
  | .glo _ => none
  | .ty _ => none
def nks : List D → Option (List NestedKey)
  | [] => some []
  | d :: ds => match nk d, nks ds with
    | some k, some ks => some (k :: ks)
    | _, _ => none
end
/-- a tuple that is a key -/
def nkT : D → Option NestedKey
  | .tup ds => match nks ds with
    | some ks => if (NestedKey.tup ks).depth ≤ 8 then some (.tup ks) else none
    | none => none
  | _ => none
/-- a dict with nested keys, by its own object -/
def dnO (g : G) (a : Addr) (kvs : List (NestedKey × Addr × V)) : HO := .ext fun h => kvs.length ≤ sizeLine ∧ (a == sysModules) = false ∧ ∃ xs : List (NestedKey × Addr × Value),
  Paired (fun (p : NestedKey × Addr × V) (q : NestedKey × Addr × Value) => p.1 = q.1 ∧ p.2.1 = q.2.1 ∧ RelV p.2.2 q.2.2) kvs xs ∧
  ∃ o es ep, h.get? a = some o ∧ o.ExactDict ∧ o.data = .dict es ep ∧ es.toList = xs.map (entryOfKey (nestedKind g.P g.w)) ∧ (xs.map (·.1)).Nodup
/-- what is tracked, and what may not be held as plain data -/
structure Tk where
  μ : List Addr
  ν : List Addr
  sub : ∀ a ∈ μ, a ∈ ν
/-- a read list, tuple that is not tracked: in the heap, or of the top -/
def FL (T : Tk) (H : Hp) (a : Addr) (vs : List V) : Prop := a ∉ T.ν ∧ H a = some (.lst vs)
/-- the script -/
def FS (K : PySem.W.Frag) (T : Tk) (H : Hp) (a : Addr) (vs : List V) : Prop := (a ∉ T.ν ∧ ∃ o, H a = some (.frz o (.lst vs))) ∨ SqL K (fun _ => none) a vs
def FT (K : PySem.W.Frag) (T : Tk) (H : Hp) (a : Addr) (vs : List V) : Prop := (a ∉ T.ν ∧ H a = some (.tup vs)) ∨ SqT K (fun _ => none) a vs
mutual
inductive Rep (g : G) (T : Tk) (H : Hp) : D → V → Prop
  | non : Rep g T H .non .non
  | bl (b) : Rep g T H (.bl b) (.bl b)
  | int (i) : Rep g T H (.int i) (.int i)
  | str (x) : Rep g T H (.str x) (.str x)
  | tup {a vs ds} : FT g.K T H a vs → RepL g T H ds vs → Rep g T H (.tup ds) (.ref a)
  | lst {a vs ds} : FL T H a vs → RepL g T H ds vs → Rep g T H (.lst ds) (.ref a)
  | scr {a vs ds} : FS g.K T H a vs → RepL g T H ds vs → Rep g T H (.scr ds) (.ref a)
  | dicF {a kvs ks vs} : a ∉ T.ν → Rd H a (.dK kvs) → RepL g T H ks (kvs.map fun p => kV p.1) → RepL g T H vs (kvs.map Prod.snd) → Rep g T H (.dic ks vs) (.ref a)
  | dicN {a kvs ks vs} : a ∉ T.ν → Rd H a (dnO g a kvs) → (ks.map nkT = kvs.map (fun p => some p.1) ∧ kvs ≠ []) → RepL g T H ks (kvs.map fun p => .ref p.2.1) → RepL g T H vs (kvs.map fun p => p.2.2) → Rep g T H (.dic ks vs) (.ref a)
  | obj {a dx fs c ns vs} : a ∉ T.ν → H a = some (.ins (He.ga g.K c) dx fs) → fs.map Prod.fst = ns → RepL g T H vs (fs.map Prod.snd) → Rep g T H (.obj c ns vs) (.ref a)
  | ref {n a} : T.μ[n]? = some a → Rep g T H (.ref n) (.ref a)
  | glo (x) : Rep g T H (.glo x) (.ref (He.ga g.K x))
  | ty (n) : Rep g T H (.ty n) (.ty n)
inductive RepL (g : G) (T : Tk) (H : Hp) : List D → List V → Prop
  | nil : RepL g T H [] []
  | cons {d v ds vs} : Rep g T H d v → RepL g T H ds vs → RepL g T H (d :: ds) (v :: vs)
end
/-- what came later: what isn't tracked stays, what is newly tracked was new -/
structure Le (T : Tk) (H : Hp) (T' : Tk) (H' : Hp) : Prop where
  pre : T.μ <+: T'.μ
  keep : ∀ a u, H a = some u → a ∉ T.μ → H' a = some u
  new : ∀ a ∈ T'.ν, a ∉ T.ν → H a = none
  newμ : ∀ a ∈ T'.μ, a ∉ T.μ → H a = none
  up : ∀ a ∈ T.ν, a ∈ T'.ν
section
variable {g : G} {T T1 T2 : Tk} {H H1 H2 : Hp}
theorem Tk.out {a : Addr} (h : a ∉ T.ν) : a ∉ T.μ := fun z => h (T.sub a z)
theorem Le.refl : Le T H T H := ⟨List.prefix_rfl, fun _ _ h _ => h, fun _ h n => absurd h n, fun _ h n => absurd h n, fun _ h => h⟩
theorem Le.out (l : Le T H T1 H1) {a : Addr} {u : HO} (h : H a = some u) (n : a ∉ T.ν) : a ∉ T1.ν := fun z => by rw [l.new a z n] at h; cases h
theorem Le.outμ (l : Le T H T1 H1) {a : Addr} {u : HO} (h : H a = some u) (n : a ∉ T.ν) : a ∉ T1.μ := Tk.out (l.out h n)
theorem Le.rd (l : Le T H T1 H1) {a : Addr} {u : HO} (h : Rd H a u) (n : a ∉ T.ν) : Rd H1 a u ∧ a ∉ T1.ν := by
  rcases h with h | ⟨o, h⟩
  · exact ⟨.inl (l.keep _ _ h (Tk.out n)), l.out h n⟩
  · exact ⟨.inr ⟨o, l.keep _ _ h (Tk.out n)⟩, l.out h n⟩
theorem Le.get (l : Le T H T1 H1) {n : Nat} {a : Addr} (h : T.μ[n]? = some a) : T1.μ[n]? = some a := by
  obtain ⟨t, e⟩ := l.pre
  rw [← e, List.getElem?_append_left (List.getElem?_eq_some_iff.mp h).1]
  exact h
theorem FL.le {a : Addr} {vs : List V} (l : Le T H T1 H1) (h : FL T H a vs) : FL T1 H1 a vs := ⟨l.out h.2 h.1, l.keep _ _ h.2 (Tk.out h.1)⟩
theorem FS.le {K : PySem.W.Frag} {a : Addr} {vs : List V} (l : Le T H T1 H1) (h : FS K T H a vs) : FS K T1 H1 a vs := by
  rcases h with ⟨n, o, h⟩ | h
  · exact .inl ⟨l.out h n, o, l.keep _ _ h (Tk.out n)⟩
  · exact .inr h
theorem FT.le {K : PySem.W.Frag} {a : Addr} {vs : List V} (l : Le T H T1 H1) (h : FT K T H a vs) : FT K T1 H1 a vs := by
  rcases h with ⟨n, h⟩ | h
  · exact .inl ⟨l.out h n, l.keep _ _ h (Tk.out n)⟩
  · exact .inr h
theorem FL.sq {K : PySem.W.Frag} {a : Addr} {vs : List V} (h : FL T H a vs) : SqL K H a vs := .of h.2
theorem FS.sq {K : PySem.W.Frag} {a : Addr} {vs : List V} (h : FS K T H a vs) : SqL K H a vs := by
  rcases h with ⟨n, o, h⟩ | h | h
  · exact .inl (.inr ⟨o, h⟩)
  · rcases h with h | ⟨_, h⟩ <;> cases h
  · exact .inr h
theorem FT.sq {K : PySem.W.Frag} {a : Addr} {vs : List V} (h : FT K T H a vs) : SqT K H a vs := by
  rcases h with ⟨n, h⟩ | h | h
  · exact .of h
  · rcases h with h | ⟨_, h⟩ <;> cases h
  · exact .inr h
mutual
theorem Rep.le (l : Le T H T1 H1) : ∀ {d : D} {v : V}, Rep g T H d v → Rep g T1 H1 d v
  | _, _, .non => .non
  | _, _, .bl b => .bl b
  | _, _, .int i => .int i
  | _, _, .str x => .str x
  | _, _, .tup f r => .tup (f.le l) (RepL.le l r)
  | _, _, .lst f r => .lst (f.le l) (RepL.le l r)
  | _, _, .scr f r => .scr (f.le l) (RepL.le l r)
  | _, _, .dicF n h r q => .dicF (l.rd h n).2 (l.rd h n).1 (RepL.le l r) (RepL.le l q)
  | _, _, .dicN n h e r q => .dicN (l.rd h n).2 (l.rd h n).1 e (RepL.le l r) (RepL.le l q)
  | _, _, .obj n h e r => .obj (l.out h n) (l.keep _ _ h (Tk.out n)) e (RepL.le l r)
  | _, _, .ref h => .ref (l.get h)
  | _, _, .glo x => .glo x
  | _, _, .ty n => .ty n
theorem RepL.le (l : Le T H T1 H1) : ∀ {ds : List D} {vs : List V}, RepL g T H ds vs → RepL g T1 H1 ds vs
  | _, _, .nil => .nil
  | _, _, .cons r s => .cons (Rep.le l r) (RepL.le l s)
end
theorem RepL.length : ∀ {ds : List D} {vs : List V}, RepL g T H ds vs → ds.length = vs.length
  | _, _, .nil => rfl
  | _, _, .cons _ s => by simp [RepL.length s]
theorem RepL.get : ∀ {ds : List D} {vs : List V} {i : Nat} {d : D}, RepL g T H ds vs → ds[i]? = some d → ∃ v, vs[i]? = some v ∧ Rep g T H d v
  | _, _, 0, _, .cons r _, h => by cases h; exact ⟨_, rfl, r⟩
  | _, _, i + 1, _, .cons _ s, h => by obtain ⟨v, e, q⟩ := RepL.get (i := i) s (by simpa using h); exact ⟨v, by simpa using e, q⟩
  | _, _, 0, _, .nil, h => by cases h
  | _, _, i + 1, _, .nil, h => by cases h
theorem RepL.back : ∀ {ds : List D} {vs : List V} {i : Nat} {v : V}, RepL g T H ds vs → vs[i]? = some v → ∃ d, ds[i]? = some d ∧ Rep g T H d v
  | _, _, 0, _, .cons r _, h => by cases h; exact ⟨_, rfl, r⟩
  | _, _, i + 1, _, .cons _ s, h => by obtain ⟨v, e, q⟩ := RepL.back (i := i) s (by simpa using h); exact ⟨v, by simpa using e, q⟩
  | _, _, 0, _, .nil, h => by cases h
  | _, _, i + 1, _, .nil, h => by cases h
theorem RepL.append : ∀ {ds es : List D} {vs us : List V}, RepL g T H ds vs → RepL g T H es us → RepL g T H (ds ++ es) (vs ++ us)
  | _, _, _, _, .nil, h => h
  | _, _, _, _, .cons r s, h => .cons r (RepL.append s h)
theorem RepL.of {ds : List D} {vs : List V} (hl : ds.length = vs.length) (h : ∀ (i : Nat) d v, ds[i]? = some d → vs[i]? = some v → Rep g T H d v) : RepL g T H ds vs := by
  induction ds generalizing vs with
  | nil => cases vs with
    | nil => exact .nil
    | cons _ _ => cases hl
  | cons d ds ih => cases vs with
    | nil => cases hl
    | cons v vs => exact .cons (h 0 d v rfl rfl) (ih (by simpa using hl) fun i e u p q => h (i + 1) e u (by simpa using p) (by simpa using q))
/-- a tracked object -/
inductive RepO (g : G) (T : Tk) (H : Hp) (a : Addr) : O → Prop
  | lst {ds vs} : H a = some (.lst vs) → RepL g T H ds vs → RepO g T H a (.lst ds)
  | dicF {kvs ks vs} : H a = some (.dK kvs) → RepL g T H ks (kvs.map fun p => kV p.1) → RepL g T H vs (kvs.map Prod.snd) → RepO g T H a (.dic ks vs)
  | dicN {kvs ks vs} : H a = some (dnO g a kvs) → (ks.map nkT = kvs.map (fun p => some p.1) ∧ kvs ≠ []) → RepL g T H ks (kvs.map fun p => .ref p.2.1) → RepL g T H vs (kvs.map fun p => p.2.2) → RepO g T H a (.dic ks vs)
  | ins {dx fs c ns vs} : H a = some (.ins (He.ga g.K c) dx fs) → fs.map Prod.fst = ns → RepL g T H vs (fs.map Prod.snd) → RepO g T H a (.ins c ns vs)
/-- an object that may change -/
def Mu : HO → Prop
  | .lst _ => True
  | .dK _ => True
  | .ext _ => True
  | .ins _ _ _ => True
  | _ => False
structure RepH (g : G) (T : Tk) (H : Hp) (m : M) : Prop where
  len : T.μ.length = m.length
  nd : T.μ.Nodup
  has : ∀ a ∈ T.ν, ∃ u, H a = some u ∧ Mu u
  at_ : ∀ (n : Nat) a o, T.μ[n]? = some a → m[n]? = some o → RepO g T H a o
theorem RepO.le {a : Addr} {o : O} (l : Le T H T1 H1) (e : H1 a = H a) (r : RepO g T H a o) : RepO g T1 H1 a o := by
  cases r with
  | lst h r => exact .lst (e.trans h) (r.le l)
  | dicF h r q => exact .dicF (e.trans h) (r.le l) (q.le l)
  | dicN h k r q => exact .dicN (e.trans h) k (r.le l) (q.le l)
  | ins h k r => exact .ins (e.trans h) k (r.le l)
theorem RepO.has {a : Addr} {o : O} (r : RepO g T H a o) : ∃ u, H a = some u ∧ Mu u := by
  cases r with
  | lst h _ => exact ⟨_, h, trivial⟩
  | dicF h _ _ => exact ⟨_, h, trivial⟩
  | dicN h _ _ _ => exact ⟨_, h, trivial⟩
  | ins h _ _ => exact ⟨_, h, trivial⟩
variable {m : M}
theorem RepH.nope (r : RepH g T H m) {p : Addr} (h : H p = none) : p ∉ T.ν := fun z => by obtain ⟨u, e, _⟩ := r.has p z; rw [h] at e; cases e
/-- what isn't tracked may change as long as what there is stays -/
theorem RepH.grow (r : RepH g T H m) (k : ∀ a u, H a = some u → H1 a = some u) : Le T H T H1 ∧ RepH g T H1 m := by
  have l : Le T H T H1 := ⟨List.prefix_rfl, fun a u e _ => k a u e, fun a h n => absurd h n, fun a h n => absurd h n, fun _ h => h⟩
  refine ⟨l, r.len, r.nd, fun a h => ?_, fun n a o h1 h2 => (r.at_ n a o h1 h2).le l ?_⟩
  · obtain ⟨u, e, z⟩ := r.has a h
    exact ⟨u, k a u e, z⟩
  · obtain ⟨v, e, _⟩ := (r.at_ n a o h1 h2).has
    rw [e, k a v e]
/-- a new object that isn't tracked -/
theorem RepH.fresh (r : RepH g T H m) {p : Addr} {u : HO} (h : H p = none) : Le T H T (upd H p u) ∧ RepH g T (upd H p u) m :=
  r.grow fun a v e => by rw [upd_ne (ne_of_none e h)]; exact e
def Tk.push (T : Tk) (p : Addr) : Tk := ⟨T.μ ++ [p], T.ν ++ [p], fun a h => by
  rcases List.mem_append.mp h with z | z
  · exact List.mem_append_left _ (T.sub a z)
  · exact List.mem_append_right _ z⟩
/-- a new object that is tracked -/
theorem RepH.push (r : RepH g T H m) {p : Addr} {u : HO} {o : O} (h : H p = none) (q : Le T H (T.push p) (upd H p u) → RepO g (T.push p) (upd H p u) p o) : Le T H (T.push p) (upd H p u) ∧ RepH g (T.push p) (upd H p u) (m ++ [o]) := by
  have l : Le T H (T.push p) (upd H p u) := ⟨List.prefix_append _ _, fun a v e _ => by rw [upd_ne (ne_of_none e h)]; exact e, fun a ha n => by
    rcases List.mem_append.mp ha with z | z
    · exact absurd z n
    · rw [List.mem_singleton.mp z]; exact h, fun a ha n => by
    rcases List.mem_append.mp ha with z | z
    · exact absurd z n
    · rw [List.mem_singleton.mp z]; exact h, fun a ha => List.mem_append_left _ ha⟩
  have np : p ∉ T.μ := Tk.out (r.nope h)
  refine ⟨l, by simp [Tk.push, r.len], List.nodup_append.mpr ⟨r.nd, by simp, fun a ha b hb => by rw [List.mem_singleton.mp hb]; rintro rfl; exact np ha⟩, fun a ha => ?_, fun n a o' h1 h2 => ?_⟩
  · rcases List.mem_append.mp ha with z | z
    · obtain ⟨v, e, q⟩ := r.has a z
      exact ⟨v, by rw [upd_ne (ne_of_none e h)]; exact e, q⟩
    · rw [List.mem_singleton.mp z]
      exact (q l).has
  by_cases hn : n < T.μ.length
  · change (T.μ ++ [p])[n]? = _ at h1
    rw [List.getElem?_append_left hn] at h1
    rw [List.getElem?_append_left (by rw [← r.len]; exact hn)] at h2
    refine (r.at_ n a o' h1 h2).le l ?_
    obtain ⟨v, e, _⟩ := (r.at_ n a o' h1 h2).has
    rw [upd_ne (ne_of_none e h)]
  · change (T.μ ++ [p])[n]? = _ at h1
    rw [List.getElem?_append_right (by omega)] at h1
    rw [List.getElem?_append_right (by rw [← r.len]; omega), ← r.len] at h2
    generalize n - T.μ.length = k at h1 h2
    cases k with
    | zero => cases h1; cases h2; exact q l
    | succ k => cases h1
/-- a tracked object is changed -/
theorem RepH.put (r : RepH g T H m) {n : Nat} {a : Addr} {u : HO} {o : O} (h : T.μ[n]? = some a) (q : Le T H T (upd H a u) → RepO g T (upd H a u) a o) : Le T H T (upd H a u) ∧ RepH g T (upd H a u) (m.set n o) := by
  have ha : a ∈ T.μ := List.mem_of_getElem? h
  have l : Le T H T (upd H a u) := ⟨List.prefix_rfl, fun b v e nb => by rw [upd_ne (show b ≠ a by rintro rfl; exact nb ha)]; exact e, fun b h n => absurd h n, fun b h n => absurd h n, fun _ h => h⟩
  refine ⟨l, by simp [r.len], r.nd, fun b hb => ?_, fun k b o' h1 h2 => ?_⟩
  · by_cases z : b = a
    · rw [z]
      exact (q l).has
    · obtain ⟨v, e, w⟩ := r.has b hb
      exact ⟨v, by rw [upd_ne z]; exact e, w⟩
  by_cases hk : n = k
  · subst hk
    rw [h] at h1
    cases h1
    have hl : n < m.length := by rw [← r.len]; exact (List.getElem?_eq_some_iff.mp h).1
    rw [List.getElem?_set_self hl] at h2
    cases h2
    exact q l
  · rw [List.getElem?_set_ne hk] at h2
    refine (r.at_ k b o' h1 h2).le l ?_
    have : b ≠ a := by
      rintro rfl
      exact hk ((List.getElem?_inj (List.getElem?_eq_some_iff.mp h).1 r.nd).mp (h.trans h1.symm))
    rw [upd_ne this]
theorem Le.trans (l : Le T H T1 H1) (m : Le T1 H1 T2 H2) : Le T H T2 H2 := by
  have key : ∀ a u, H a = some u → a ∉ T.μ → a ∉ T1.μ := fun a u h n z => by rw [l.newμ a z n] at h; cases h
  refine ⟨l.pre.trans m.pre, fun a u h n => m.keep a u (l.keep a u h n) (key a u h n), fun a h n => ?_, fun a h n => ?_, fun a h => m.up a (l.up a h)⟩
  · cases e : H a with
    | none => rfl
    | some u =>
      have := m.new a h (l.out e n)
      rw [l.keep a u e (Tk.out n)] at this
      cases this
  · cases e : H a with
    | none => rfl
    | some u =>
      have := m.newμ a h (key a u e n)
      rw [l.keep a u e n] at this
      cases this
end
end L4

/-! readings as functions of plain data -/
namespace L4
open PySem L2
abbrev Ss := List (Option D)
abbrev EF := Ss → M → Option (D × M)
abbrev TF := Ss → M → Option (Bool × M)
abbrev AF := Ss → M → Option (List D × M)
abbrev GF := D → Ss → M → Option (Ss × M)
inductive Fl where
  | nx (ρ : Ss) | rt (d : D) | bk (ρ : Ss) | ct (ρ : Ss)
abbrev SF := Ss → M → Option (Fl × M)
structure RepS (g : G) (T : Tk) (H : Hp) (σ : L2.St) (ρ : Ss) : Prop where
  len : σ.length = ρ.length
  at_ : ∀ (i : Nat) d, ρ[i]? = some (some d) → ∃ v, σ[i]? = some (some v) ∧ Rep g T H d v
section
variable {g : G} {T T1 : Tk} {H H1 : Hp} {σ : L2.St} {ρ : Ss}
theorem RepS.le (l : Le T H T1 H1) (r : RepS g T H σ ρ) : RepS g T1 H1 σ ρ := ⟨r.len, fun i d h => by obtain ⟨v, e, q⟩ := r.at_ i d h; exact ⟨v, e, q.le l⟩⟩
theorem RepS.set {i : Nat} {d : D} {v : V} (r : RepS g T H σ ρ) (q : Rep g T H d v) : RepS g T H (σ.set i (some v)) (ρ.set i (some d)) := by
  refine ⟨by simp [r.len], fun j e h => ?_⟩
  by_cases hj : i = j
  · subst hj
    have hl : i < ρ.length := by
      have := (List.getElem?_eq_some_iff.mp h).1
      simpa using this
    rw [List.getElem?_set_self hl] at h
    cases h
    exact ⟨v, by rw [List.getElem?_set_self (by rw [r.len]; exact hl)], q⟩
  · rw [List.getElem?_set_ne hj] at h
    obtain ⟨u, e1, q1⟩ := r.at_ j e h
    exact ⟨u, by rw [List.getElem?_set_ne hj]; exact e1, q1⟩
end
/-- what follows a value -/
def KV (g : G) (T : Tk) (H : Hp) (m : M) (d : D) (Q : VK) : Prop := ∀ v T' H', Le T H T' H' → RepH g T' H' m → Rep g T' H' d v → Q v H'
def KB (g : G) (T : Tk) (H : Hp) (m : M) (b : Bool) (Q : Bool → Hp → Prop) : Prop := ∀ T' H', Le T H T' H' → RepH g T' H' m → Q b H'
def KA (g : G) (T : Tk) (H : Hp) (m : M) (ds : List D) (Q : List V → Hp → Prop) : Prop := ∀ vs T' H', Le T H T' H' → RepH g T' H' m → RepL g T' H' ds vs → Q vs H'
def KS (g : G) (T : Tk) (H : Hp) (m : M) (ρ : Ss) (Q : L2.St → Hp → Prop) : Prop := ∀ σ T' H', Le T H T' H' → RepH g T' H' m → RepS g T' H' σ ρ → Q σ H'
def KF (g : G) (T : Tk) (H : Hp) (m : M) (r : Fl) (D : Ends) : Prop := match r with
  | .nx ρ => KS g T H m ρ D.nx
  | .rt d => KV g T H m d D.rt
  | .bk ρ => KS g T H m ρ D.bk
  | .ct ρ => KS g T H m ρ D.ct
section
variable {g : G} {T T1 : Tk} {H H1 : Hp} {m : M}
theorem KV.le {d : D} {Q : VK} (l : Le T H T1 H1) (k : KV g T H m d Q) : KV g T1 H1 m d Q := fun v T' H' l' => k v T' H' (l.trans l')
theorem KB.le {d : Bool} {Q : Bool → Hp → Prop} (l : Le T H T1 H1) (k : KB g T H m d Q) : KB g T1 H1 m d Q := fun T' H' l' => k T' H' (l.trans l')
theorem KA.le {d : List D} {Q : List V → Hp → Prop} (l : Le T H T1 H1) (k : KA g T H m d Q) : KA g T1 H1 m d Q := fun v T' H' l' => k v T' H' (l.trans l')
theorem KS.le {ρ : Ss} {Q : L2.St → Hp → Prop} (l : Le T H T1 H1) (k : KS g T H m ρ Q) : KS g T1 H1 m ρ Q := fun v T' H' l' => k v T' H' (l.trans l')
theorem KF.le {r : Fl} {D : Ends} (l : Le T H T1 H1) (k : KF g T H m r D) : KF g T1 H1 m r D := by
  cases r with
  | nx ρ => exact KS.le l k
  | rt d => exact KV.le l k
  | bk ρ => exact KS.le l k
  | ct ρ => exact KS.le l k
end
def RfE (g : G) (t : TE) (f : EF) : Prop := ∀ T σ H ρ m d m', RepH g T H m → RepS g T H σ ρ → f ρ m = some (d, m') → ∀ Q : VK, KV g T H m' d Q → t σ H Q
def RfT (g : G) (t : TT) (f : TF) : Prop := ∀ T σ H ρ m b m', RepH g T H m → RepS g T H σ ρ → f ρ m = some (b, m') → ∀ Q, KB g T H m' b Q → t σ H Q
def RfA (g : G) (t : TA) (f : AF) : Prop := ∀ T σ H ρ m ds m', RepH g T H m → RepS g T H σ ρ → f ρ m = some (ds, m') → ∀ Q, KA g T H m' ds Q → t σ H Q
def RfG (g : G) (t : TG) (f : GF) : Prop := ∀ T σ H ρ m d v ρ' m', RepH g T H m → RepS g T H σ ρ → Rep g T H d v → f d ρ m = some (ρ', m') → ∀ Q, KS g T H m' ρ' Q → t v σ H Q
def RfS (g : G) (t : TS) (f : SF) : Prop := ∀ T σ H ρ m r m', RepH g T H m → RepS g T H σ ρ → f ρ m = some (r, m') → ∀ D : Ends, KF g T H m' r D → t D σ H
structure DE (X : Cx) (e : Expr) (f : EF) : Prop where
  ex : ∃ t, PE X e t ∧ RfE (gx X) t f
structure DT (X : Cx) (e : Expr) (f : TF) : Prop where
  ex : ∃ t, PT X e t ∧ RfT (gx X) t f
structure DW (X : Cx) (e : Expr) (f : TF) : Prop where
  ex : ∃ t, PW X e t ∧ RfT (gx X) t f
structure DA (X : Cx) (es : List Expr) (f : AF) : Prop where
  ex : ∃ t, PA X es t ∧ RfA (gx X) t f
structure DG (X : Cx) (e : Expr) (f : GF) : Prop where
  ex : ∃ t, PG X e t ∧ RfG (gx X) t f
structure DS (X : Cx) (s : Stmt) (f : SF) : Prop where
  ex : ∃ t, PS X s t ∧ RfS (gx X) t f
structure DSs (X : Cx) (s : List Stmt) (f : SF) : Prop where
  ex : ∃ t, PSs X s t ∧ RfS (gx X) t f
/-! the functions -/
def bd {α β : Type} (r : Option (α × M)) (k : α → M → Option (β × M)) : Option (β × M) := match r with
  | some (d, m) => k d m
  | none => none
theorem bd_some {α β : Type} {r : Option (α × M)} {k : α → M → Option (β × M)} {b : β} {m' : M} (h : bd r k = some (b, m')) : ∃ d m, r = some (d, m) ∧ k d m = some (b, m') := by
  cases r with
  | none => cases h
  | some p => exact ⟨p.1, p.2, rfl, h⟩
@[simp] theorem bd_go {α β : Type} {d : α} {m : M} {k : α → M → Option (β × M)} : bd (some (d, m)) k = k d m := rfl
@[simp] theorem bd_no {α β : Type} {k : α → M → Option (β × M)} : bd none k = none := rfl
/-- a value that needs no heap -/
def pu {α : Type} (r : Option α) (m : M) : Option (α × M) := r.map (·, m)
theorem pu_some {α : Type} {r : Option α} {a : α} {m m' : M} (h : pu r m = some (a, m')) : r = some a ∧ m' = m := by
  cases r with
  | none => cases h
  | some b => cases h; exact ⟨rfl, rfl⟩
@[simp] theorem pu_go {α : Type} {a : α} {m : M} : pu (some a) m = some (a, m) := rfl
@[simp] theorem pu_no {α : Type} {m : M} : pu (none : Option α) m = none := rfl
def eVar (i : Nat) : EF := fun ρ m => pu (ρ.getD i none) m
def eC (d : D) : EF := fun _ m => some (d, m)
def eOp (f : M → D → D → Option D) (a b : EF) : EF := fun ρ m => bd (a ρ m) fun x m1 => bd (b ρ m1) fun y m2 => pu (f m2 x y) m2
def eUn (f : M → D → Option D) (a : EF) : EF := fun ρ m => bd (a ρ m) fun x m1 => pu (f m1 x) m1
def eCall (f : M → List D → Option D) (a : AF) : EF := fun ρ m => bd (a ρ m) fun xs m1 => pu (f m1 xs) m1
def aNil : AF := fun _ m => some ([], m)
def aCons (a : EF) (r : AF) : AF := fun ρ m => bd (a ρ m) fun x m1 => bd (r ρ m1) fun xs m2 => some (x :: xs, m2)
def tVal (a : EF) : TF := fun ρ m => bd (a ρ m) fun x m1 => match x with
  | .bl b => some (b, m1)
  | _ => none
def tAnd (a b : TF) : TF := fun ρ m => bd (a ρ m) fun x m1 => if x then b ρ m1 else some (false, m1)
def tOr (a b : TF) : TF := fun ρ m => bd (a ρ m) fun x m1 => if x then some (true, m1) else b ρ m1
def tNot (a : TF) : TF := fun ρ m => bd (a ρ m) fun x m1 => some (!x, m1)
def eAnd (a b : EF) : EF := fun ρ m => bd (a ρ m) fun x m1 => match x with
  | .bl true => b ρ m1
  | .bl false => some (.bl false, m1)
  | _ => none
def eOr (a b : EF) : EF := fun ρ m => bd (a ρ m) fun x m1 => match x with
  | .bl true => some (.bl true, m1)
  | .bl false => b ρ m1
  | _ => none
def eIf (c : TF) (a b : EF) : EF := fun ρ m => bd (c ρ m) fun x m1 => if x then a ρ m1 else b ρ m1
def gNm (i : Nat) : GF := fun d ρ m => some (ρ.set i (some d), m)
def sAsg (a : EF) (g : GF) : SF := fun ρ m => bd (a ρ m) fun x m1 => bd (g x ρ m1) fun ρ1 m2 => some (.nx ρ1, m2)
def sDrop (a : EF) : SF := fun ρ m => bd (a ρ m) fun _ m1 => some (.nx ρ, m1)
def sRet (a : EF) : SF := fun ρ m => bd (a ρ m) fun x m1 => some (.rt x, m1)
def sRetN : SF := fun _ m => some (.rt .non, m)
def sNop : SF := fun ρ m => some (.nx ρ, m)
def sBrk : SF := fun ρ m => some (.bk ρ, m)
def sCont : SF := fun ρ m => some (.ct ρ, m)
def sIf (c : TF) (a b : SF) : SF := fun ρ m => bd (c ρ m) fun x m1 => if x then a ρ m1 else b ρ m1
def sSeq (a b : SF) : SF := fun ρ m => bd (a ρ m) fun x m1 => match x with
  | .nx ρ1 => b ρ1 m1
  | r => some (r, m1)
/-! their soundness -/
section
variable {X : Cx} {pos : Pos}
theorem de_var {i : Nat} {x : Str} (hN : X.N[i]? = some x) (hv : Vis X.env.scope x) (hd : (x == ("__debug__" : Str)) = false := by decide) (hcd : (x == ("__classdict__" : Str)) = false := by decide) : DE X (.Name x pos) (eVar i) := by
  refine ⟨_, pe_var hN hv hd hcd, fun T σ H ρ m d m' hm hs hf Q k => ?_⟩
  obtain ⟨e, rfl⟩ := pu_some hf
  obtain ⟨v, e1, r⟩ := hs.at_ i d (by
    rw [List.getD_eq_getElem?_getD] at e
    cases h : ρ[i]? with
    | none => rw [h] at e; cases e
    | some o => rw [h] at e; cases e; rfl)
  exact ⟨v, e1, k v T H .refl hm r⟩
theorem rf_c {g : G} {v : V} {d : D} (h : ∀ T H, Rep g T H d v) : RfE g (tC v) (eC d) := by
  intro T σ H ρ m d m' hm hs hf Q k
  cases hf
  exact k v T H .refl hm (h T H)
theorem de_int {i j} : DE X (.Constant (.int i) j pos) (eC (.int i)) := ⟨_, pe_int, rf_c fun _ _ => .int i⟩
theorem de_bl {i j} : DE X (.Constant (.bool i) j pos) (eC (.bl i)) := ⟨_, pe_bl, rf_c fun _ _ => .bl i⟩
theorem de_str {i j} : DE X (.Constant (.str i) j pos) (eC (.str i)) := ⟨_, pe_str, rf_c fun _ _ => .str i⟩
theorem de_non {j} : DE X (.Constant .none j pos) (eC .non) := ⟨_, pe_non, rf_c fun _ _ => .non⟩
/-- an operation of two values -/
def RfO (g : G) (r : R2) (f : M → D → D → Option D) : Prop := ∀ T H m x y v u d, RepH g T H m → Rep g T H x v → Rep g T H y u → f m x y = some d → ∀ Q : VK, KV g T H m d Q → r v u H Q
def RfU (g : G) (r : V → Hp → VK → Prop) (f : M → D → Option D) : Prop := ∀ T H m x v d, RepH g T H m → Rep g T H x v → f m x = some d → ∀ Q : VK, KV g T H m d Q → r v H Q
def RfC (g : G) (r : List V → Hp → VK → Prop) (f : M → List D → Option D) : Prop := ∀ T H m xs vs d, RepH g T H m → RepL g T H xs vs → f m xs = some d → ∀ Q : VK, KV g T H m d Q → r vs H Q
theorem rf_op {g : G} {r : R2} {f : M → D → D → Option D} {ta tb : TE} {a b : EF} (hr : RfO g r f) (ha : RfE g ta a) (hb : RfE g tb b) : RfE g (tOp r ta tb) (eOp f a b) := by
  intro T σ H ρ m d m' hm hs hf Q k
  obtain ⟨x, m1, e1, hf⟩ := bd_some hf
  obtain ⟨y, m2, e2, hf⟩ := bd_some hf
  obtain ⟨e3, rfl⟩ := pu_some hf
  refine ha T σ H ρ m x m1 hm hs e1 _ fun v T1 H1 l1 hm1 r1 => ?_
  refine hb T1 σ H1 ρ m1 y _ hm1 (hs.le l1) e2 _ fun u T2 H2 l2 hm2 r2 => ?_
  exact hr T2 H2 _ x y v u d hm2 (r1.le l2) r2 e3 Q (k.le (l1.trans l2))
theorem rf_un {g : G} {r : V → Hp → VK → Prop} {f : M → D → Option D} {ta : TE} {a : EF} (hr : RfU g r f) (ha : RfE g ta a) : RfE g (tUn r ta) (eUn f a) := by
  intro T σ H ρ m d m' hm hs hf Q k
  obtain ⟨x, m1, e1, hf⟩ := bd_some hf
  obtain ⟨e3, rfl⟩ := pu_some hf
  refine ha T σ H ρ m x _ hm hs e1 _ fun v T1 H1 l1 hm1 r1 => ?_
  exact hr T1 H1 _ x v d hm1 r1 e3 Q (k.le l1)
theorem rf_call {g : G} {r : List V → Hp → VK → Prop} {f : M → List D → Option D} {ta : TA} {a : AF} (hr : RfC g r f) (ha : RfA g ta a) : RfE g (tCB r ta) (eCall f a) := by
  intro T σ H ρ m d m' hm hs hf Q k
  obtain ⟨x, m1, e1, hf⟩ := bd_some hf
  obtain ⟨e3, rfl⟩ := pu_some hf
  refine ha T σ H ρ m x _ hm hs e1 _ fun v T1 H1 l1 hm1 r1 => ?_
  exact hr T1 H1 _ x v d hm1 r1 e3 Q (k.le l1)
/-- an operator that is known by a function on data -/
structure OpD (X : Cx) (F : Value → Value → Sem Value) (f : M → D → D → Option D) : Prop where
  ex : ∃ r, OpR X F r ∧ RfO (gx X) r f
structure CallD (X : Cx) (F : Value) (f : M → List D → Option D) : Prop where
  ex : ∃ r, CallR X F r ∧ RfC (gx X) r f
structure UnD (X : Cx) (F : Value → Sem Value) (f : M → D → Option D) : Prop where
  ex : ∃ r, UnR X F r ∧ RfU (gx X) r f
theorem de_op {a b : Expr} {fa fb : EF} {op : Operator} {f} (ho : OpD X (binaryOp op) f) (ha : DE X a fa) (hb : DE X b fb) : DE X (.BinOp a op b pos) (eOp f fa fb) := by
  obtain ⟨r, h, q⟩ := ho.ex; obtain ⟨ta, pa, ra⟩ := ha.ex; obtain ⟨tb, pb, rb⟩ := hb.ex
  exact ⟨_, pe_op h pa pb, rf_op q ra rb⟩
theorem de_un {a : Expr} {fa : EF} {op : UnaryOp} {f} (ho : UnD X (unaryOp op) f) (ha : DE X a fa) : DE X (.UnaryOp op a pos) (eUn f fa) := by
  obtain ⟨r, h, q⟩ := ho.ex; obtain ⟨ta, pa, ra⟩ := ha.ex
  exact ⟨_, pe_un h pa, rf_un q ra⟩
theorem de_cmp {a b : Expr} {fa fb : EF} {op : CmpOp} {f} (ho : OpD X (compareOp op) f) (ha : DE X a fa) (hb : DE X b fb) (hm : behindInMarks op b = false) : DE X (.Compare a [op] [b] pos) (eOp f fa fb) := by
  obtain ⟨r, h, q⟩ := ho.ex; obtain ⟨ta, pa, ra⟩ := ha.ex; obtain ⟨tb, pb, rb⟩ := hb.ex
  exact ⟨_, pe_cmpR h pa pb hm, rf_op q ra rb⟩
theorem rf_test {g : G} {t : TE} {f : EF} (h : RfE g t f) : RfT g (tTest t) (tVal f) := by
  intro T σ H ρ m b m' hm hs hf Q k
  obtain ⟨x, m1, e1, hf⟩ := bd_some hf
  cases x with
  | bl c =>
    cases hf
    refine h T σ H ρ m _ _ hm hs e1 _ fun v T1 H1 l1 hm1 r1 => ?_
    cases r1
    exact ⟨b, rfl, k T1 H1 l1 hm1⟩
  | _ => cases hf
theorem dt_cmp {a b : Expr} {fa fb : EF} {op : CmpOp} {f} (ho : OpD X (compareOp op) f) (ha : DE X a fa) (hb : DE X b fb) (hm : behindInMarks op b = false) : DT X (.Compare a [op] [b] pos) (tVal (eOp f fa fb)) := by
  obtain ⟨r, h, q⟩ := ho.ex; obtain ⟨ta, pa, ra⟩ := ha.ex; obtain ⟨tb, pb, rb⟩ := hb.ex
  exact ⟨_, pt_cmpR h pa pb hm, rf_test (rf_op q ra rb)⟩
theorem dt_val {a : Expr} {fa : EF} (ha : DE X a fa) (he : ∀ whole, isTrue a X.env whole = (do let v ← whole; standAt a.pos; holding [v] (truthy v)) := by intro _; rfl) : DT X a (tVal fa) := by
  obtain ⟨ta, pa, ra⟩ := ha.ex
  exact ⟨_, pt_val pa he, rf_test ra⟩
theorem da_nil : DA X [] aNil := ⟨_, pa_nil, fun T σ H ρ m ds m' hm hs hf Q k => by cases hf; exact k [] T H .refl hm .nil⟩
end
end L4

namespace L4
open PySem L2
section
variable {X : Cx} {pos : Pos} {g : G}
theorem rf_cons {te : TE} {ta : TA} {a : EF} {r : AF} (ha : RfE g te a) (hr : RfA g ta r) : RfA g (tCons te ta) (aCons a r) := by
  intro T σ H ρ m ds m' hm hs hf Q k
  obtain ⟨x, m1, e1, hf⟩ := bd_some hf
  obtain ⟨xs, m2, e2, hf⟩ := bd_some hf
  cases hf
  refine ha T σ H ρ m x m1 hm hs e1 _ fun v T1 H1 l1 hm1 r1 => ?_
  refine hr T1 σ H1 ρ m1 xs _ hm1 (hs.le l1) e2 _ fun vs T2 H2 l2 hm2 r2 => ?_
  exact k _ T2 H2 (l1.trans l2) hm2 (.cons (r1.le l2) r2)
theorem da_cons {e : Expr} {es : List Expr} {a : EF} {r : AF} (ha : DE X e a) (hr : DA X es r) (hs : starEach (e :: es) X.env = (false, eval e X.env) :: starEach es X.env := by rfl) : DA X (e :: es) (aCons a r) := by
  obtain ⟨ta, pa, ra⟩ := ha.ex; obtain ⟨tb, pb, rb⟩ := hr.ex
  exact ⟨_, pa_cons pa pb hs, rf_cons ra rb⟩
theorem rf_and {t u : TT} {a b : TF} (ha : RfT g t a) (hb : RfT g u b) : RfT g (L2.tAnd t u) (tAnd a b) := by
  intro T σ H ρ m d m' hm hs hf Q k
  obtain ⟨x, m1, e1, hf⟩ := bd_some hf
  refine ha T σ H ρ m x m1 hm hs e1 _ fun T1 H1 l1 hm1 => ?_
  cases x with
  | true => exact hb T1 σ H1 ρ m1 d m' hm1 (hs.le l1) hf Q (k.le l1)
  | false => cases hf; exact k T1 H1 l1 hm1
theorem rf_or {t u : TT} {a b : TF} (ha : RfT g t a) (hb : RfT g u b) : RfT g (L2.tOr t u) (tOr a b) := by
  intro T σ H ρ m d m' hm hs hf Q k
  obtain ⟨x, m1, e1, hf⟩ := bd_some hf
  refine ha T σ H ρ m x m1 hm hs e1 _ fun T1 H1 l1 hm1 => ?_
  cases x with
  | true => cases hf; exact k T1 H1 l1 hm1
  | false => exact hb T1 σ H1 ρ m1 d m' hm1 (hs.le l1) hf Q (k.le l1)
theorem rf_not {t : TT} {a : TF} (ha : RfT g t a) : RfT g (L2.tNot t) (tNot a) := by
  intro T σ H ρ m d m' hm hs hf Q k
  obtain ⟨x, m1, e1, hf⟩ := bd_some hf
  cases hf
  exact ha T σ H ρ m x _ hm hs e1 _ fun T1 H1 l1 hm1 => k T1 H1 l1 hm1
theorem dw_and {a b : Expr} {rest : List Expr} {f h : TF} (ha : DT X a f) (hb : DW X (.BoolOp .And (b :: rest) pos) h) : DW X (.BoolOp .And (a :: b :: rest) pos) (tAnd f h) := by
  obtain ⟨ta, pa, ra⟩ := ha.ex; obtain ⟨tb, pb, rb⟩ := hb.ex
  exact ⟨_, pw_and pa pb, rf_and ra rb⟩
theorem dw_and1 {a : Expr} {f : TF} (ha : DT X a f) : DW X (.BoolOp .And [a] pos) f := by
  obtain ⟨ta, pa, ra⟩ := ha.ex
  exact ⟨_, pw_and1 pa, ra⟩
theorem dw_or {a b : Expr} {rest : List Expr} {f h : TF} (ha : DT X a f) (hb : DW X (.BoolOp .Or (b :: rest) pos) h) : DW X (.BoolOp .Or (a :: b :: rest) pos) (tOr f h) := by
  obtain ⟨ta, pa, ra⟩ := ha.ex; obtain ⟨tb, pb, rb⟩ := hb.ex
  exact ⟨_, pw_or pa pb, rf_or ra rb⟩
theorem dw_or1 {a : Expr} {f : TF} (ha : DT X a f) : DW X (.BoolOp .Or [a] pos) f := by
  obtain ⟨ta, pa, ra⟩ := ha.ex
  exact ⟨_, pw_or1 pa, ra⟩
theorem dt_w {a : Expr} {f : TF} (ha : DW X a f) : DT X a f := by
  obtain ⟨ta, pa, ra⟩ := ha.ex
  exact ⟨_, pa.pt, ra⟩
theorem dt_not {a : Expr} {f : TF} (ha : DT X a f) : DT X (.UnaryOp .Not a pos) (tNot f) := by
  obtain ⟨ta, pa, ra⟩ := ha.ex
  exact ⟨_, pt_not pa, rf_not ra⟩
theorem de_one {a : Expr} {op} {f : EF} (ha : DE X a f) : DE X (.BoolOp op [a] pos) f := by
  obtain ⟨ta, pa, ra⟩ := ha.ex
  exact ⟨_, pe_one pa, ra⟩
theorem de_and {a b : Expr} {rest : List Expr} {f h : EF} (ha : DE X a f) (hb : DE X (.BoolOp .And (b :: rest) pos) h) : DE X (.BoolOp .And (a :: b :: rest) pos) (eAnd f h) := by
  obtain ⟨ta, pa, ra⟩ := ha.ex; obtain ⟨tb, pb, rb⟩ := hb.ex
  refine ⟨_, pe_and pa pb, fun T σ H ρ m d m' hm hs hf Q k => ?_⟩
  obtain ⟨x, m1, e1, hf⟩ := bd_some hf
  refine ra T σ H ρ m x m1 hm hs e1 _ fun v T1 H1 l1 hm1 r1 => ?_
  cases r1 with
  | bl c => cases c with
    | true => exact ⟨true, rfl, rb T1 σ H1 ρ m1 d m' hm1 (hs.le l1) hf Q (k.le l1)⟩
    | false => cases hf; exact ⟨false, rfl, k _ T1 H1 l1 hm1 (.bl _)⟩
  | _ => cases hf
theorem de_or {a b : Expr} {rest : List Expr} {f h : EF} (ha : DE X a f) (hb : DE X (.BoolOp .Or (b :: rest) pos) h) : DE X (.BoolOp .Or (a :: b :: rest) pos) (eOr f h) := by
  obtain ⟨ta, pa, ra⟩ := ha.ex; obtain ⟨tb, pb, rb⟩ := hb.ex
  refine ⟨_, pe_or pa pb, fun T σ H ρ m d m' hm hs hf Q k => ?_⟩
  obtain ⟨x, m1, e1, hf⟩ := bd_some hf
  refine ra T σ H ρ m x m1 hm hs e1 _ fun v T1 H1 l1 hm1 r1 => ?_
  cases r1 with
  | bl c => cases c with
    | false => exact ⟨false, rfl, rb T1 σ H1 ρ m1 d m' hm1 (hs.le l1) hf Q (k.le l1)⟩
    | true => cases hf; exact ⟨true, rfl, k _ T1 H1 l1 hm1 (.bl _)⟩
  | _ => cases hf
def eNot (a : EF) : EF := fun ρ m => bd (a ρ m) fun x m1 => match x with
  | .bl b => some (.bl (!b), m1)
  | _ => none
theorem de_not {a : Expr} {f : EF} (ha : DE X a f) : DE X (.UnaryOp .Not a pos) (eNot f) := by
  obtain ⟨ta, pa, ra⟩ := ha.ex
  refine ⟨_, pe_not pa, fun T σ H ρ m d m' hm hs hf Q k => ?_⟩
  obtain ⟨x, m1, e1, hf⟩ := bd_some hf
  refine ra T σ H ρ m x m1 hm hs e1 _ fun v T1 H1 l1 hm1 r1 => ?_
  cases r1 with
  | bl c => cases hf; exact ⟨c, rfl, k _ T1 H1 l1 hm1 (.bl _)⟩
  | _ => cases hf
def isNon : D → Bool
  | .non => true
  | _ => false
def eIsN (a : EF) : EF := fun ρ m => bd (a ρ m) fun x m1 => some (.bl (isNon x), m1)
def eNotN (a : EF) : EF := fun ρ m => bd (a ρ m) fun x m1 => some (.bl (!isNon x), m1)
theorem Rep.isN {T : Tk} {H : Hp} {d : D} {v : V} (r : Rep g T H d v) : decide (v = .non) = isNon d := by cases r <;> rfl
theorem rf_isN {t : TE} {f : EF} (ra : RfE g t f) : RfE g (tIsN t) (eIsN f) := by
  intro T σ H ρ m d m' hm hs hf Q k
  obtain ⟨x, m1, e1, hf⟩ := bd_some hf
  cases hf
  refine ra T σ H ρ m x _ hm hs e1 _ fun v T1 H1 l1 hm1 r1 => ?_
  rw [r1.isN]
  exact k _ T1 H1 l1 hm1 (.bl _)
theorem rf_notN {t : TE} {f : EF} (ra : RfE g t f) : RfE g (tNotN t) (eNotN f) := by
  intro T σ H ρ m d m' hm hs hf Q k
  obtain ⟨x, m1, e1, hf⟩ := bd_some hf
  cases hf
  refine ra T σ H ρ m x _ hm hs e1 _ fun v T1 H1 l1 hm1 r1 => ?_
  rw [r1.isN]
  exact k _ T1 H1 l1 hm1 (.bl _)
theorem rf_tB {t : TE} {f : EF} (h : RfE g t f) : RfT g (tB t) (tVal f) := rf_test h
theorem de_isN {a : Expr} {f : EF} {j pos'} (ha : DE X a f) : DE X (.Compare a [.Is] [.Constant .none j pos'] pos) (eIsN f) := by
  obtain ⟨ta, pa, ra⟩ := ha.ex
  exact ⟨_, pe_cmp (pc_isN pa), rf_isN ra⟩
theorem de_notN {a : Expr} {f : EF} {j pos'} (ha : DE X a f) : DE X (.Compare a [.IsNot] [.Constant .none j pos'] pos) (eNotN f) := by
  obtain ⟨ta, pa, ra⟩ := ha.ex
  exact ⟨_, pe_cmp (pc_notN pa), rf_notN ra⟩
theorem dt_isN {a : Expr} {f : EF} {j pos'} (ha : DE X a f) : DT X (.Compare a [.Is] [.Constant .none j pos'] pos) (tVal (eIsN f)) := by
  obtain ⟨ta, pa, ra⟩ := ha.ex
  exact ⟨_, pt_cmp (pc_isN pa), rf_tB (rf_isN ra)⟩
theorem dt_notN {a : Expr} {f : EF} {j pos'} (ha : DE X a f) : DT X (.Compare a [.IsNot] [.Constant .none j pos'] pos) (tVal (eNotN f)) := by
  obtain ⟨ta, pa, ra⟩ := ha.ex
  exact ⟨_, pt_cmp (pc_notN pa), rf_tB (rf_notN ra)⟩
theorem de_if {c a b : Expr} {fc : TF} {fa fb : EF} (hc : DT X c fc) (ha : DE X a fa) (hb : DE X b fb) : DE X (.IfExp c a b pos) (eIf fc fa fb) := by
  obtain ⟨tc, pc, rc⟩ := hc.ex; obtain ⟨ta, pa, ra⟩ := ha.ex; obtain ⟨tb, pb, rb⟩ := hb.ex
  refine ⟨_, pe_ifExp pc pa pb, fun T σ H ρ m d m' hm hs hf Q k => ?_⟩
  obtain ⟨x, m1, e1, hf⟩ := bd_some hf
  refine rc T σ H ρ m x m1 hm hs e1 _ fun T1 H1 l1 hm1 => ?_
  cases x with
  | true => exact ra T1 σ H1 ρ m1 d m' hm1 (hs.le l1) hf Q (k.le l1)
  | false => exact rb T1 σ H1 ρ m1 d m' hm1 (hs.le l1) hf Q (k.le l1)
/-! statements -/
theorem dg_name {i : Nat} {x : Str} (hN : X.N.Nodup) (hi : X.N[i]? = some x) (hx : Loc X.env.scope x) (hf : X.fn x = true ∨ X.env.scope.names.lookup x = some .local := by first | exact .inl rfl | exact .inr rfl | assumption) : DG X (.Name x pos) (gNm i) := by
  refine ⟨_, pg_name hN hi hx hf, fun T σ H ρ m d v ρ' m' hm hs r hf Q k => ?_⟩
  cases hf
  exact k _ T H .refl hm (hs.set r)
theorem rf_asg {te : TE} {tg : TG} {a : EF} {f : GF} (ha : RfE g te a) (hg : RfG g tg f) : RfS g (tAsg te tg) (sAsg a f) := by
  intro T σ H ρ m d m' hm hs hf D k
  obtain ⟨x, m1, e1, hf⟩ := bd_some hf
  obtain ⟨ρ1, m2, e2, hf⟩ := bd_some hf
  cases hf
  refine ha T σ H ρ m x m1 hm hs e1 _ fun v T1 H1 l1 hm1 r1 => ?_
  exact hg T1 σ H1 ρ m1 x v ρ1 _ hm1 (hs.le l1) r1 e2 _ (KS.le l1 k)
theorem ds_asg {tg e : Expr} {a : EF} {f : GF} (ha : DE X e a) (hg : DG X tg f) (hs : swapsWithSole [tg] e pos.line X.env = pure false := by rfl) (hw : swappedStores [tg] e X.env = pure none := by rfl)
    (h1 : (assignEach [tg] X.env).map (·.2) = [assign tg X.env] := by rfl) : DS X (.Assign [tg] e pos) (sAsg a f) := by
  obtain ⟨ta, pa, ra⟩ := ha.ex; obtain ⟨tb, pb, rb⟩ := hg.ex
  exact ⟨_, ps_asg pa pb hs hw h1, rf_asg ra rb⟩
theorem ds_set {i : Nat} {x : Str} {e : Expr} {a : EF} {pos' : Pos} (hN : X.N.Nodup) (hi : X.N[i]? = some x) (hx : Loc X.env.scope x) (he : DE X e a) (hs : swapsWith e (some (.Name x pos')) pos.line X.env = pure false := by rfl) (hf : X.fn x = true ∨ X.env.scope.names.lookup x = some .local := by first | exact .inl rfl | exact .inr rfl | assumption) :
    DS X (.Assign [.Name x pos'] e pos) (sAsg a (gNm i)) := by
  obtain ⟨ta, pa, ra⟩ := he.ex
  refine ⟨_, ps_set hN hi hx pa hs hf, rf_asg ra fun T σ H ρ m d v ρ' m' hm hs r hf Q k => ?_⟩
  cases hf
  exact k _ T H .refl hm (hs.set r)
theorem ds_expr {e : Expr} {a : EF} (he : DE X e a) (hs : swapsWith e none pos.line X.env = pure false := by rfl) : DS X (.Expr e pos) (sDrop a) := by
  obtain ⟨ta, pa, ra⟩ := he.ex
  refine ⟨_, ps_expr pa hs, fun T σ H ρ m d m' hm hs hf D k => ?_⟩
  obtain ⟨x, m1, e1, hf⟩ := bd_some hf
  cases hf
  exact ra T σ H ρ m x _ hm hs e1 _ fun v T1 H1 l1 hm1 r1 => k σ T1 H1 l1 hm1 (hs.le l1)
theorem ds_ret {e : Expr} {a : EF} (he : DE X e a) : DS X (.Return (some e) pos) (sRet a) := by
  obtain ⟨ta, pa, ra⟩ := he.ex
  refine ⟨_, ps_ret pa, fun T σ H ρ m d m' hm hs hf D k => ?_⟩
  obtain ⟨x, m1, e1, hf⟩ := bd_some hf
  cases hf
  exact ra T σ H ρ m x _ hm hs e1 _ k
theorem ds_retN : DS X (.Return none pos) sRetN := ⟨_, ps_retN, fun T σ H ρ m d m' hm hs hf D k => by cases hf; exact k _ T H .refl hm .non⟩
theorem ds_pass : DS X (.Pass pos) sNop := ⟨_, ps_pass, fun T σ H ρ m d m' hm hs hf D k => by cases hf; exact k _ T H .refl hm hs⟩
theorem ds_doc {x j pos pos'} : DS X (.Expr (.Constant (.str x) j pos) pos') sNop := ⟨_, ps_doc, fun T σ H ρ m d m' hm hs hf D k => by cases hf; exact k _ T H .refl hm hs⟩
theorem ds_break : DS X (.Break pos) sBrk := ⟨_, ps_break, fun T σ H ρ m d m' hm hs hf D k => by cases hf; exact k _ T H .refl hm hs⟩
theorem ds_cont : DS X (.Continue pos) sCont := ⟨_, ps_continue, fun T σ H ρ m d m' hm hs hf D k => by cases hf; exact k _ T H .refl hm hs⟩
theorem dss_nil : DSs X [] sNop := ⟨_, pss_nil, fun T σ H ρ m d m' hm hs hf D k => by cases hf; exact k _ T H .refl hm hs⟩
theorem dss_one {s : Stmt} {f : SF} (h : DS X s f) : DSs X [s] f := by
  obtain ⟨ta, pa, ra⟩ := h.ex
  exact ⟨_, pss_one pa, ra⟩
theorem dss_cons {s : Stmt} {r : List Stmt} {a b : SF} (h : DS X s a) (hr : DSs X r b) : DSs X (s :: r) (sSeq a b) := by
  obtain ⟨ta, pa, ra⟩ := h.ex; obtain ⟨tb, pb, rb⟩ := hr.ex
  refine ⟨_, pss_cons pa pb, fun T σ H ρ m d m' hm hs hf D k => ?_⟩
  obtain ⟨x, m1, e1, hf⟩ := bd_some hf
  refine ra T σ H ρ m x m1 hm hs e1 _ ?_
  cases x with
  | nx ρ1 => exact fun σ1 T1 H1 l1 hm1 hs1 => rb T1 σ1 H1 ρ1 m1 d m' hm1 hs1 hf D (KF.le l1 k)
  | rt d => cases hf; exact k
  | bk ρ => cases hf; exact k
  | ct ρ => cases hf; exact k
theorem ds_if {c : Expr} {a b : List Stmt} {fc : TF} {fa fb : SF} (hc : DT X c fc) (ha : DSs X a fa) (hb : DSs X b fb) : DS X (.If c a b pos) (sIf fc fa fb) := by
  obtain ⟨tc, pc, rc⟩ := hc.ex; obtain ⟨ta, pa, ra⟩ := ha.ex; obtain ⟨tb, pb, rb⟩ := hb.ex
  refine ⟨_, ps_if pc pa pb, fun T σ H ρ m d m' hm hs hf D k => ?_⟩
  obtain ⟨x, m1, e1, hf⟩ := bd_some hf
  refine rc T σ H ρ m x m1 hm hs e1 _ fun T1 H1 l1 hm1 => ?_
  cases x with
  | true => exact ra T1 σ H1 ρ m1 d m' hm1 (hs.le l1) hf D (KF.le l1 k)
  | false => exact rb T1 σ H1 ρ m1 d m' hm1 (hs.le l1) hf D (KF.le l1 k)
/-! while -/
def sWhile (n : Nat) (c : TF) (b : SF) : SF := match n with
  | 0 => fun _ _ => none
  | n + 1 => fun ρ m => bd (c ρ m) fun x m1 => if x then bd (b ρ m1) fun r m2 => match r with
      | .nx ρ2 => sWhile n c b ρ2 m2
      | .ct ρ2 => sWhile n c b ρ2 m2
      | .bk ρ2 => some (.nx ρ2, m2)
      | .rt d => some (.rt d, m2)
    else some (.nx ρ, m1)
theorem ds_while {c : Expr} {body : List Stmt} {fc : TF} {fb : SF} (n : Nat) (hp : PassesOwn (model X.prog X.w) X.A X.env X.xe) (hc : DT X c fc) (hb : DSs X body fb) : DS X (.While c body [] pos) (sWhile n fc fb) := by
  obtain ⟨tc, pc, rc⟩ := hc.ex; obtain ⟨tb, pb, rb⟩ := hb.ex
  refine ⟨_, ps_while hp pc pb, fun T σ H ρ m r m' hm hs hf D k => ?_⟩
  refine ⟨fun j σ1 H1 => ∃ T1 ρ1 m1, Le T H T1 H1 ∧ RepH (gx X) T1 H1 m1 ∧ RepS (gx X) T1 H1 σ1 ρ1 ∧ sWhile j fc fb ρ1 m1 = some (r, m'), ⟨n, T, ρ, m, .refl, hm, hs, hf⟩, ?_⟩
  rintro j σ1 H1 ⟨T1, ρ1, m1, l1, hm1, hs1, hf1⟩
  cases j with
  | zero => cases hf1
  | succ j =>
    obtain ⟨x, m2, e2, hf2⟩ := bd_some hf1
    refine rc T1 σ1 H1 ρ1 m1 x m2 hm1 hs1 e2 _ fun T2 H2 l2 hm2 => ?_
    cases x with
    | false => cases hf2; exact k σ1 T2 H2 (l1.trans l2) hm2 (hs1.le l2)
    | true =>
      obtain ⟨y, m3, e3, hf3⟩ := bd_some hf2
      refine ⟨_, fun _ _ q => q, rb T2 σ1 H2 ρ1 m2 y m3 hm2 (hs1.le l2) e3 _ ?_⟩
      cases y with
      | nx ρ3 => exact fun σ3 T3 H3 l3 hm3 hs3 => ⟨j, Nat.lt_succ_self _, T3, ρ3, m3, l1.trans (l2.trans l3), hm3, hs3, hf3⟩
      | ct ρ3 => exact fun σ3 T3 H3 l3 hm3 hs3 => ⟨j, Nat.lt_succ_self _, T3, ρ3, m3, l1.trans (l2.trans l3), hm3, hs3, hf3⟩
      | bk ρ3 => cases hf3; exact KS.le (l1.trans l2) k
      | rt d => cases hf3; exact KV.le (l1.trans l2) k
/-! for -/
def ItOk (g : G) (T : Tk) (H : Hp) (J : It) (ds : List D) : Prop := ∀ T1 H1, Le T H T1 H1 → ∀ m1, RepH g T1 H1 m1 → ∀ i : Nat,
  (∀ d, ds[i]? = some d → J.go i H1 ∧ ∀ x H2, J.yld i H1 x H2 → ∃ T2, Le T1 H1 T2 H2 ∧ RepH g T2 H2 m1 ∧ Rep g T2 H2 d x) ∧ (ds.length = i → J.stop i H1)
def RfI (g : G) (wi : TI) (f : AF) : Prop := ∀ T σ H ρ m ds m', RepH g T H m → RepS g T H σ ρ → f ρ m = some (ds, m') → ∀ R : It → Hp → Prop, (∀ J T' H', Le T H T' H' → RepH g T' H' m' → ItOk g T' H' J ds → R J H') → wi σ H R
structure DI (X : Cx) (tg iter : Expr) (f : AF) : Prop where
  ex : ∃ wi, PI X tg iter wi ∧ RfI (gx X) wi f
def forGo (f : GF) (b : SF) : List D → SF
  | [] => fun ρ m => some (.nx ρ, m)
  | x :: xs => fun ρ m => bd (f x ρ m) fun ρ1 m1 => bd (b ρ1 m1) fun r m2 => match r with
      | .nx ρ2 => forGo f b xs ρ2 m2
      | .ct ρ2 => forGo f b xs ρ2 m2
      | .bk ρ2 => some (.nx ρ2, m2)
      | .rt d => some (.rt d, m2)
def sFor (it : AF) (f : GF) (b : SF) : SF := fun ρ m => bd (it ρ m) fun xs m1 => forGo f b xs ρ m1
theorem ds_for {tg iter : Expr} {body : List Stmt} {fi : AF} {fg : GF} {fb : SF} (hp : PassesOwn (model X.prog X.w) X.A X.env X.xe) (hc : X.calm = true) (hi : DI X tg iter fi) (hg : DG X tg fg) (hb : DSs X body fb)
    (hs : ∀ x, foldedSetIterable iter X.env x = pure x := by intro _; rfl) : DS X (.For tg iter body [] pos) (sFor fi fg fb) := by
  obtain ⟨ti, pi, ri⟩ := hi.ex; obtain ⟨tg', pg, rg⟩ := hg.ex; obtain ⟨tb, pb, rb⟩ := hb.ex
  refine ⟨_, ps_for hp hc pi pg pb hs, fun T σ H ρ m r m' hm hs hf D k => ?_⟩
  obtain ⟨ds, m1, e1, hf⟩ := bd_some hf
  refine ri T σ H ρ m ds m1 hm hs e1 _ fun J T0 H0 l0 hm0 ok => ?_
  refine ⟨fun i j σ1 H1 => i + j = ds.length ∧ ∃ T1 ρ1 m1, Le T0 H0 T1 H1 ∧ RepH (gx X) T1 H1 m1 ∧ RepS (gx X) T1 H1 σ1 ρ1 ∧ forGo fg fb (ds.drop i) ρ1 m1 = some (r, m'), ⟨ds.length, by simp, T0, ρ, m1, .refl, hm0, hs.le l0, by simpa using hf⟩, ?_⟩
  rintro i j σ1 H1 ⟨hij, T1, ρ1, m1, l1, hm1, hs1, hf1⟩
  obtain ⟨okG, okS⟩ := ok T1 H1 l1 m1 hm1 i
  cases j with
  | zero =>
    left
    rw [List.drop_of_length_le (by omega)] at hf1
    cases hf1
    exact ⟨okS (by omega), k σ1 T1 H1 (l0.trans l1) hm1 hs1⟩
  | succ j =>
    right
    have hi : i < ds.length := by omega
    rw [List.drop_eq_getElem_cons hi] at hf1
    obtain ⟨go, yl⟩ := okG ds[i] (List.getElem?_eq_getElem hi)
    refine ⟨go, _, fun _ _ q => q, fun x H2 y2 => ?_⟩
    obtain ⟨T2, l2, hm2, r2⟩ := yl x H2 y2
    obtain ⟨ρ3, m3, e3, hf3⟩ := bd_some hf1
    refine rg T2 σ1 H2 ρ1 m1 ds[i] x ρ3 m3 hm2 (hs1.le l2) r2 e3 _ fun σ3 T3 H3 l3 hm3 hs3 => ?_
    obtain ⟨y, m4, e4, hf4⟩ := bd_some hf3
    refine rb T3 σ3 H3 ρ3 m3 y m4 hm3 hs3 e4 _ ?_
    have l13 := l1.trans (l2.trans l3)
    cases y with
    | nx ρ4 => exact fun σ4 T4 H4 l4 hm4 hs4 => ⟨j, Nat.lt_succ_self _, by omega, T4, ρ4, m4, l13.trans l4, hm4, hs4, hf4⟩
    | ct ρ4 => exact fun σ4 T4 H4 l4 hm4 hs4 => ⟨j, Nat.lt_succ_self _, by omega, T4, ρ4, m4, l13.trans l4, hm4, hs4, hf4⟩
    | bk ρ4 => cases hf4; exact KS.le (l0.trans l13) k
    | rt d => cases hf4; exact KV.le (l0.trans l13) k
end
end L4

namespace L4
open PySem L2
/-! data without tracked things -/
mutual
def pureD : D → Bool
  | .tup ds => pureL ds
  | .lst ds => pureL ds
  | .scr ds => pureL ds
  | .dic ks vs => pureL ks && pureL vs
  | .obj _ _ vs => pureL vs
  | .ref _ => false
  | .non => true
  | .bl _ => true
  | .int _ => true
  | .str _ => true
  | .glo _ => true
  | .ty _ => true
def pureL : List D → Bool
  | [] => true
  | d :: ds => pureD d && pureL ds
end
mutual
def groundD : D → Bool
  | .tup ds => groundL ds
  | .lst _ => false
  | .scr _ => false
  | .dic _ _ => false
  | .obj _ _ _ => false
  | .ref _ => false
  | .non => true
  | .bl _ => true
  | .int _ => true
  | .str _ => true
  | .glo _ => true
  | .ty _ => true
def groundL : List D → Bool
  | [] => true
  | d :: ds => groundD d && groundL ds
end
def T0 (ν : List Addr) : Tk := ⟨[], ν, fun _ h => nomatch h⟩
section
variable {g : G} {T : Tk} {H : Hp}
theorem and2 {a b : Bool} (h : (a && b) = true) : a = true ∧ b = true := by cases a <;> cases b <;> first | exact ⟨rfl, rfl⟩ | cases h
theorem FT.less {K : PySem.W.Frag} {ν : List Addr} {a : Addr} {vs : List V} (hν : ∀ a ∈ ν, a ∈ T.ν) (f : FT K T H a vs) : FT K (T0 ν) H a vs := by
  rcases f with ⟨n, f⟩ | f
  · exact .inl ⟨fun z => n (hν _ z), f⟩
  · exact .inr f
theorem FL.less {ν : List Addr} {a : Addr} {vs : List V} (hν : ∀ a ∈ ν, a ∈ T.ν) (f : FL T H a vs) : FL (T0 ν) H a vs := ⟨fun z => f.1 (hν _ z), f.2⟩
theorem FS.less {K : PySem.W.Frag} {ν : List Addr} {a : Addr} {vs : List V} (hν : ∀ a ∈ ν, a ∈ T.ν) (f : FS K T H a vs) : FS K (T0 ν) H a vs := by
  rcases f with ⟨n, f⟩ | f
  · exact .inl ⟨fun z => n (hν _ z), f⟩
  · exact .inr f
mutual
theorem Rep.pure {ν : List Addr} (hν : ∀ a ∈ ν, a ∈ T.ν) : ∀ (d : D) {v : V}, pureD d = true → Rep g T H d v → Rep g (T0 ν) H d v
  | .non, _, _, r => by cases r; exact .non
  | .bl _, _, _, r => by cases r; exact .bl _
  | .int _, _, _, r => by cases r; exact .int _
  | .str _, _, _, r => by cases r; exact .str _
  | .glo _, _, _, r => by cases r; exact .glo _
  | .ty _, _, _, r => by cases r; exact .ty _
  | .ref _, _, h, _ => by rw [pureD] at h; cases h
  | .tup ds, _, h, r => by
    rw [pureD] at h
    cases r with
    | tup f r => exact .tup (f.less hν) (RepL.pure hν ds h r)
  | .lst ds, _, h, r => by
    rw [pureD] at h
    cases r with
    | lst f r => exact .lst (f.less hν) (RepL.pure hν ds h r)
  | .scr ds, _, h, r => by
    rw [pureD] at h
    cases r with
    | scr f r => exact .scr (f.less hν) (RepL.pure hν ds h r)
  | .dic ks vs, _, h, r => by
    rw [pureD] at h
    cases r with
    | dicF n f r q => exact .dicF (fun z => n (hν _ z)) f (RepL.pure hν ks (and2 h).1 r) (RepL.pure hν vs (and2 h).2 q)
    | dicN n f e r q => exact .dicN (fun z => n (hν _ z)) f e (RepL.pure hν ks (and2 h).1 r) (RepL.pure hν vs (and2 h).2 q)
  | .obj c ns vs, _, h, r => by
    rw [pureD] at h
    cases r with
    | obj n f e r => exact .obj (fun z => n (hν _ z)) f e (RepL.pure hν vs h r)
theorem RepL.pure {ν : List Addr} (hν : ∀ a ∈ ν, a ∈ T.ν) : ∀ (ds : List D) {vs : List V}, pureL ds = true → RepL g T H ds vs → RepL g (T0 ν) H ds vs
  | [], _, _, r => by cases r; exact .nil
  | d :: ds, _, h, r => by
    rw [pureL] at h
    cases r with
    | cons r s => exact .cons (Rep.pure hν d (and2 h).1 r) (RepL.pure hν ds (and2 h).2 s)
end
mutual
theorem Rep.lift : ∀ (d : D) {v : V}, Rep g (T0 T.ν) H d v → Rep g T H d v
  | .non, _, r => by cases r; exact .non
  | .bl _, _, r => by cases r; exact .bl _
  | .int _, _, r => by cases r; exact .int _
  | .str _, _, r => by cases r; exact .str _
  | .glo _, _, r => by cases r; exact .glo _
  | .ty _, _, r => by cases r; exact .ty _
  | .ref _, _, r => by
    cases r with
    | ref h => exact absurd h (by simp [T0])
  | .tup ds, _, r => by
    cases r with
    | tup f r => exact .tup f (RepL.lift ds r)
  | .lst ds, _, r => by
    cases r with
    | lst f r => exact .lst f (RepL.lift ds r)
  | .scr ds, _, r => by
    cases r with
    | scr f r => exact .scr f (RepL.lift ds r)
  | .dic ks vs, _, r => by
    cases r with
    | dicF n f r q => exact .dicF n f (RepL.lift ks r) (RepL.lift vs q)
    | dicN n f e r q => exact .dicN n f e (RepL.lift ks r) (RepL.lift vs q)
  | .obj c ns vs, _, r => by
    cases r with
    | obj n f e r => exact .obj n f e (RepL.lift vs r)
theorem RepL.lift : ∀ (ds : List D) {vs : List V}, RepL g (T0 T.ν) H ds vs → RepL g T H ds vs
  | [], _, r => by cases r; exact .nil
  | d :: ds, _, r => by
    cases r with
    | cons r s => exact .cons (Rep.lift d r) (RepL.lift ds s)
end
theorem notup (hν : ∀ a ∈ T.ν, ∃ u, H a = some u ∧ Mu u) {a : Addr} {xs : List V} (h : H a = some (.tup xs)) : a ∉ T.ν := fun z => by
  obtain ⟨u, e, q⟩ := hν a z
  rw [h] at e
  cases e
  exact q
mutual
theorem Rep.ground {ν : List Addr} (hν : ∀ a ∈ T.ν, ∃ u, H a = some u ∧ Mu u) : ∀ (d : D) {v : V}, groundD d = true → Rep g (T0 ν) H d v → Rep g T H d v
  | .non, _, _, r => by cases r; exact .non
  | .bl _, _, _, r => by cases r; exact .bl _
  | .int _, _, _, r => by cases r; exact .int _
  | .str _, _, _, r => by cases r; exact .str _
  | .glo _, _, _, r => by cases r; exact .glo _
  | .ty _, _, _, r => by cases r; exact .ty _
  | .ref _, _, h, _ => by rw [groundD] at h; cases h
  | .lst _, _, h, _ => by rw [groundD] at h; cases h
  | .scr _, _, h, _ => by rw [groundD] at h; cases h
  | .dic _ _, _, h, _ => by rw [groundD] at h; cases h
  | .obj _ _ _, _, h, _ => by rw [groundD] at h; cases h
  | .tup ds, _, h, r => by
    rw [groundD] at h
    cases r with
    | tup f r =>
      refine .tup ?_ (RepL.ground hν ds h r)
      rcases f with ⟨_, f⟩ | f
      · exact .inl ⟨notup hν f, f⟩
      · exact .inr f
theorem RepL.ground {ν : List Addr} (hν : ∀ a ∈ T.ν, ∃ u, H a = some u ∧ Mu u) : ∀ (ds : List D) {vs : List V}, groundL ds = true → RepL g (T0 ν) H ds vs → RepL g T H ds vs
  | [], _, _, r => by cases r; exact .nil
  | d :: ds, _, h, r => by
    rw [groundL] at h
    cases r with
    | cons r s => exact .cons (Rep.ground hν d (and2 h).1 r) (RepL.ground hν ds (and2 h).2 s)
end
end
/-! tracked things told as data -/
def mapO (f : D → Option D) : List D → Option (List D)
  | [] => some []
  | d :: ds => match f d, mapO f ds with
    | some e, some es => some (e :: es)
    | _, _ => none
def frzGo (m : M) : Nat → D → Option D
  | 0, _ => none
  | n + 1, .tup ds => (mapO (frzGo m n) ds).map .tup
  | n + 1, .lst ds => (mapO (frzGo m n) ds).map .lst
  | n + 1, .scr ds => (mapO (frzGo m n) ds).map .scr
  | n + 1, .dic ks vs => match mapO (frzGo m n) ks, mapO (frzGo m n) vs with
    | some a, some b => if pureL ks then some (.dic ks b) else none
    | _, _ => none
  | n + 1, .obj c ns vs => (mapO (frzGo m n) vs).map (.obj c ns)
  | n + 1, .ref k => match m[k]? with
    | some (.lst ds) => (mapO (frzGo m n) ds).map .lst
    | some (.dic ks vs) => if pureL ks then (mapO (frzGo m n) vs).map (.dic ks) else none
    | some (.ins c ns vs) => (mapO (frzGo m n) vs).map (.obj c ns)
    | none => none
  | _ + 1, d => some d
def frz (m : M) (d : D) : Option D := if pureD d then some d else frzGo m 40 d
def frzL (m : M) (ds : List D) : Option (List D) := if pureL ds then some ds else mapO (frz m) ds
section
variable {g : G} {T : Tk} {H : Hp} {m : M}
theorem RepL.mapO {T' : Tk} {f : D → Option D} (hf : ∀ d e v, f d = some e → Rep g T H d v → Rep g T' H e v) : ∀ {ds es : List D} {vs : List V}, L4.mapO f ds = some es → RepL g T H ds vs → RepL g T' H es vs
  | [], _, _, h, .nil => by cases h; exact .nil
  | d :: ds, es, _, h, .cons r s => by
    unfold L4.mapO at h
    split at h
    · next e es' h1 h2 => cases h; exact .cons (hf _ _ _ h1 r) (RepL.mapO hf h2 s)
    · cases h
theorem frzGo_ok {ν : List Addr} (hm : RepH g T H m) (hν : ∀ a ∈ ν, a ∈ T.ν) (hμ : ∀ a ∈ T.μ, a ∉ ν) : ∀ (n : Nat) (d e : D) (v : V), frzGo m n d = some e → Rep g T H d v → Rep g (T0 ν) H e v
  | 0, _, _, _, h, _ => by cases h
  | n + 1, d, e, v, h, r => by
    have ih := frzGo_ok hm hν hμ n
    cases r with
    | non => cases h; exact .non
    | bl b => cases h; exact .bl b
    | int i => cases h; exact .int i
    | str x => cases h; exact .str x
    | glo x => cases h; exact .glo x
    | ty x => cases h; exact .ty x
    | tup f r =>
      obtain ⟨es, h1, rfl⟩ := Option.map_eq_some_iff.mp h
      exact .tup (f.less hν) (r.mapO ih h1)
    | lst f r =>
      obtain ⟨es, h1, rfl⟩ := Option.map_eq_some_iff.mp h
      exact .lst (f.less hν) (r.mapO ih h1)
    | scr f r =>
      obtain ⟨es, h1, rfl⟩ := Option.map_eq_some_iff.mp h
      exact .scr (f.less hν) (r.mapO ih h1)
    | dicF k f r q =>
      unfold frzGo at h
      split at h
      · next a b h1 h2 =>
        split at h
        · next hp => cases h; exact .dicF (fun z => k (hν _ z)) f (RepL.pure hν _ hp r) (q.mapO ih h2)
        · cases h
      · cases h
    | dicN k f e r q =>
      unfold frzGo at h
      split at h
      · next a b h1 h2 =>
        split at h
        · next hp => cases h; exact .dicN (fun z => k (hν _ z)) f e (RepL.pure hν _ hp r) (q.mapO ih h2)
        · cases h
      · cases h
    | obj k f e r =>
      obtain ⟨es, h1, rfl⟩ := Option.map_eq_some_iff.mp h
      exact .obj (fun z => k (hν _ z)) f e (r.mapO ih h1)
    | @ref k a hk =>
      have na : a ∉ ν := hμ a (List.mem_of_getElem? hk)
      unfold frzGo at h
      split at h
      · next ds h1 =>
        obtain ⟨es, h2, rfl⟩ := Option.map_eq_some_iff.mp h
        cases hm.at_ _ _ _ hk h1 with
        | lst f r => exact .lst ⟨na, f⟩ (r.mapO ih h2)
      · next ks vs h1 =>
        split at h
        · next hp =>
          obtain ⟨es, h2, rfl⟩ := Option.map_eq_some_iff.mp h
          cases hm.at_ _ _ _ hk h1 with
          | dicF f r q => exact .dicF na (.inl f) (RepL.pure hν _ hp r) (q.mapO ih h2)
          | dicN f e r q => exact .dicN na (.inl f) e (RepL.pure hν _ hp r) (q.mapO ih h2)
        · cases h
      · next c ns vs h1 =>
        obtain ⟨es, h2, rfl⟩ := Option.map_eq_some_iff.mp h
        cases hm.at_ _ _ _ hk h1 with
        | ins f e r => exact .obj na f e (r.mapO ih h2)
      · cases h
theorem frz_ok {ν : List Addr} (hm : RepH g T H m) (hν : ∀ a ∈ ν, a ∈ T.ν) (hμ : ∀ a ∈ T.μ, a ∉ ν) {d e : D} {v : V} (h : frz m d = some e) (r : Rep g T H d v) : Rep g (T0 ν) H e v := by
  unfold frz at h
  split at h
  · next hp => cases h; exact Rep.pure hν _ hp r
  · exact frzGo_ok hm hν hμ _ _ _ _ h r
theorem frzL_ok {ν : List Addr} (hm : RepH g T H m) (hν : ∀ a ∈ ν, a ∈ T.ν) (hμ : ∀ a ∈ T.μ, a ∉ ν) {d e : List D} {v : List V} (h : frzL m d = some e) (r : RepL g T H d v) : RepL g (T0 ν) H e v := by
  unfold frzL at h
  split at h
  · next hp => cases h; exact RepL.pure hν _ hp r
  · exact r.mapO (fun d e v h r => frz_ok hm hν hμ h r) h
end
/-! defs -/
structure FnG (P : Program) (w : World) (K : PySem.W.Frag) (mg : Str → Option Value) (base : Heap) (CX : CXT) (k : Nat) (f : Addr) (fd : FuncData) (ps : List Str) (sp : Sp) : Prop where
  len : ∀ vs H Q E, sp vs H Q E → vs.length = ps.length
  run : ∀ (A : Around) (outer : List Env) (s : Shared) (H : Hp) (args : Args) (us : List Value) (vs : List V) (Q : VK) (E : XK), A.guards = some [] → Room k A → Env0 P w K mg base A outer s H →
    BindsTo s fd args (ps.zip us) → Vals vs us → sp vs H Q E → codeAny (model P w) A (.call (.ref f) args) (CR CX outer P w H s Q E) s
theorem FnG.old {P : Program} {w : World} {K : PySem.W.Frag} {mg : Str → Option Value} {base : Heap} {k : Nat} {f : Addr} {fd : FuncData} {ps : List Str} {sp : Sp} (F : L3.FnG P w K mg base k f fd ps sp) : FnG P w K mg base CX0 k f fd ps sp := ⟨F.len, F.run⟩
/-- where a call may be made -/
structure Gd (k : Nat) (X : Cx) : Prop where
  g : X.A.guards = some []
  r : Room k X.A
theorem Gd.mono {j k : Nat} {X : Cx} (h : Gd k X) (l : j ≤ k) : Gd j X := ⟨h.g, h.r.mono l⟩
section
variable {X : Cx} {k : Nat} {f : Addr} {fd : FuncData} {ps : List Str} {sp : Sp} {ds : List Value} {dvs : List V}
theorem FnG.call (F : FnG X.prog X.w X.K X.mg X.base CX0 k f fd ps sp) (hr : Gd k X) (hb : Binds X.K fd ps ds) (hd : Vals dvs ds) : CallR X (.ref f) fun vs H Q => sp (vs ++ dvs) H Q E0 := by
  intro pins s σ H vs us Q I r h
  have r2 : Vals (vs ++ dvs) (us ++ ds) := r.append hd
  have hl : (us ++ ds).length = ps.length := by rw [← r2.length]; exact F.len _ _ _ _ h
  refine wpAny_call (codeAny_mono (F.run X.A X.stack s H ⟨us, []⟩ (us ++ ds) (vs ++ dvs) Q E0 hr.g hr.r I.env0 (hb s us I.kIn hl) r2 h) fun r s' hq => ?_)
  cases r with
  | error e => exact hq.elim
  | ok fl =>
    cases fl with
    | ret u => exact I.after hq
    | next => exact False.elim hq
    | brk => exact False.elim hq
    | cont => exact False.elim hq
variable {r : List V → Hp → VK → Prop} {x : Str} {p pos : Pos} {e : Expr} {es : List Expr} {t : TA}
theorem pe_callR (hc : CallR X (.ref f) r) (hg : Gl X x) (hm : X.mg x = some (.ref f)) (hk : PySem.W.keepIn X.K (.ref f) = true) (ha : PA X (e :: es) t) (hdb : (x == ("__debug__" : Str)) = false := by decide)
    (he : starEach (e :: es) X.env = (false, eval e X.env) :: starEach es X.env := by rfl) (hpl : (backTo pos (starEach es X.env)).any (·.1) = false := by rfl) : PE X (.Call (.Name x p) (e :: es) [] pos) (tCB r t) := by
  refine ⟨fun pins s σ H Q I h => ?_⟩
  refine wpAny_Call_Name_kw (ld_glob I hg hm ?_ hdb)
  refine PySem.W.callWith_K (h₀ := X.base) I.ok.mod.kin hk (thn (ha.run pos pins s σ H _ I h) fun us s1 ⟨vs, H1, I1, r, q⟩ => ⟨I1.kIn, ?_⟩) he hpl
  exact hc pins s1 σ H1 vs us Q I1 r q
theorem pe_callR0 (hc : CallR X (.ref f) r) (hg : Gl X x) (hm : X.mg x = some (.ref f)) (hk : PySem.W.keepIn X.K (.ref f) = true) (hdb : (x == ("__debug__" : Str)) = false := by decide) : PE X (.Call (.Name x p) [] [] pos) (tCB r tNil) := by
  refine ⟨fun pins s σ H Q I h => ?_⟩
  refine wpAny_Call_Name_kw (ld_glob I hg hm ?_ hdb)
  exact PySem.W.callWith_K0 I.kIn hk (hc pins s σ H [] [] Q I .nil h)
end
/-- what a def on plain data promises -/
def spP (g : G) (n : Nat) (F : List D → Option D) : Sp := fun vs H Q _ => vs.length = n ∧ ∃ (ν : List Addr) (ds : List D) (d : D), (∀ a ∈ ν, ∃ u, H a = some u ∧ Mu u) ∧ RepL g (T0 ν) H ds vs ∧ F ds = some d ∧
  ∀ v H', (∀ a u, H a = some u → H' a = some u) → Rep g (T0 ν) H' d v → Q v H'
/-- .. on tracked things too -/
def spM (g : G) (n : Nat) (F : List D → M → Option (D × M)) : Sp := fun vs H Q _ => vs.length = n ∧ ∃ (T : Tk) (m : M) (ds : List D) (d : D) (m' : M), RepH g T H m ∧ RepL g T H ds vs ∧ F ds m = some (d, m') ∧ KV g T H m' d Q
def startD (n : Nat) (ds : List D) : Ss := ds.map some ++ List.replicate (n - ds.length) none
theorem repS_start {g : G} {T : Tk} {H : Hp} {N : List Str} {ds : List D} {vs : List V} (r : RepL g T H ds vs) : RepS g T H (L2.start N vs) (startD N.length ds) := by
  refine ⟨by simp [L2.start, startD, r.length], fun i d h => ?_⟩
  unfold startD at h
  by_cases hi : i < ds.length
  · rw [List.getElem?_append_left (by simpa using hi), List.getElem?_map] at h
    obtain ⟨e, h1, h2⟩ := Option.map_eq_some_iff.mp h
    cases h2
    obtain ⟨v, h3, q⟩ := r.get h1
    exact ⟨v, by
      unfold L2.start
      rw [List.getElem?_append_left (by simpa [← r.length] using hi), List.getElem?_map, h3]
      rfl, q⟩
  · rw [List.getElem?_append_right (by simpa using hi)] at h
    have := List.mem_of_getElem? h
    simp at this
def endP : Option (Fl × M) → Option D
  | some (.rt d, m) => frz m d
  | some (.nx _, _) => some .non
  | _ => none
def endM : Option (Fl × M) → Option (D × M)
  | some (.rt d, m') => some (d, m')
  | some (.nx _, m') => some (.non, m')
  | _ => none
def runP (a n : Nat) (b : SF) (ds : List D) : Option D := if ds.length = a then endP (b (startD n ds) []) else none
def runM (a n : Nat) (b : SF) (ds : List D) (m : M) : Option (D × M) := if ds.length = a then endM (b (startD n ds) m) else none
theorem ite_some {α : Type} {c : Prop} [Decidable c] {a : Option α} {b : α} (h : (if c then a else none) = some b) : c ∧ a = some b := by
  split at h
  · next hc => exact ⟨hc, h⟩
  · cases h
theorem runP_len {a n : Nat} {b : SF} {ds : List D} {d : D} (h : runP a n b ds = some d) : ds.length = a := (ite_some h).1
theorem runM_len {a n : Nat} {b : SF} {ds : List D} {m : M} {r : D × M} (h : runM a n b ds m = some r) : ds.length = a := (ite_some h).1
theorem spP_run {g : G} {n a : Nat} {N : List Str} {t : TS} {b : SF} (ht : RfS g t b) {vs : List V} {H : Hp} {Q : VK} {E : XK} (h : spP g n (runP a N.length b) vs H Q E) : t { nx := fun _ H' => Q .non H', rt := Q } (L2.start N vs) H := by
  obtain ⟨_, ν, ds, d, hν, r, hf, k⟩ := h
  have hm : RepH g (T0 ν) H [] := ⟨rfl, List.nodup_nil, hν, fun n a o h _ => by cases h⟩
  replace hf := (ite_some hf).2
  unfold endP at hf
  split at hf
  · next d' m e =>
    refine ht (T0 ν) _ H _ [] _ _ hm (repS_start r) e _ fun v T' H' l hm' rv => ?_
    refine k v H' (fun a u h => l.keep a u h fun z => nomatch z) (frz_ok hm' (fun a h => l.up a h) (fun a h z => ?_) hf rv)
    have := l.newμ a h fun z => nomatch z
    obtain ⟨u, q, _⟩ := hν a z
    rw [this] at q
    cases q
  · next e =>
    cases hf
    exact ht (T0 ν) _ H _ [] _ _ hm (repS_start r) e _ fun σ T' H' l hm' rv => k _ H' (fun a u h => l.keep a u h fun z => nomatch z) .non
  · cases hf
theorem spM_run {g : G} {n a : Nat} {N : List Str} {t : TS} {b : SF} (ht : RfS g t b) {vs : List V} {H : Hp} {Q : VK} {E : XK} (h : spM g n (runM a N.length b) vs H Q E) : t { nx := fun _ H' => Q .non H', rt := Q } (L2.start N vs) H := by
  obtain ⟨_, T, m, ds, d, m', hm, r, hf, k⟩ := h
  replace hf := (ite_some hf).2
  unfold endM at hf
  split at hf
  · next d' m e =>
    cases hf
    exact ht T _ H _ m _ _ hm (repS_start r) e _ k
  · next e =>
    cases hf
    exact ht T _ H _ m _ _ hm (repS_start r) e _ fun σ T' H' l hm' rv => k _ T' H' l hm' .non
  · cases hf
/-- a call of a def on plain data: tracked things are lent where what comes back is plain -/
def callP (F : List D → Option D) (m : M) (ds : List D) : Option D := if pureL ds then F ds else match mapO (frz m) ds with
  | some es => match F es with
    | some d => if groundD d then some d else none
    | none => none
  | none => none
theorem rf_callP {g : G} {n : Nat} {F : List D → Option D} (hn : ∀ ds d, F ds = some d → ds.length = n) : RfC g (fun vs H Q => spP g n F vs H Q E0) (callP F) := by
  intro T H m xs vs d hm r hf Q k
  unfold callP at hf
  split at hf
  · next hp =>
    refine ⟨by rw [← r.length]; exact hn _ _ hf, T.ν, xs, d, hm.has, RepL.pure (fun _ h => h) _ hp r, hf, fun v H' up rv => ?_⟩
    obtain ⟨l, hm'⟩ := hm.grow up
    exact k v T H' l hm' (Rep.lift _ rv)
  · split at hf
    · next es h1 =>
      split at hf
      · next d' h2 =>
        split at hf
        · next hg =>
          cases hf
          have re : RepL g (T0 []) H es vs := r.mapO (fun d e v h q => frz_ok hm (fun a h => (List.not_mem_nil h).elim) (fun a _ h => (List.not_mem_nil h).elim) h q) h1
          refine ⟨by rw [← re.length]; exact hn _ _ h2, [], es, d, fun a h => (List.not_mem_nil h).elim, re, h2, fun v H' up rv => ?_⟩
          obtain ⟨l, hm'⟩ := hm.grow up
          exact k v T H' l hm' (Rep.ground hm'.has _ hg rv)
        · cases hf
      · cases hf
    · cases hf
/-- a call of a def on tracked things -/
def eCallM (F : List D → M → Option (D × M)) (a : AF) : EF := fun ρ m => bd (a ρ m) fun xs m1 => F xs m1
theorem rf_callM {g : G} {n : Nat} {F : List D → M → Option (D × M)} {t : TA} {a : AF} (hn : ∀ ds m r, F ds m = some r → ds.length = n) (ha : RfA g t a) : RfE g (tCB (fun vs H Q => spM g n F vs H Q E0) t) (eCallM F a) := by
  intro T σ H ρ m d m' hm hs hf Q k
  obtain ⟨x, m1, e1, hf⟩ := bd_some hf
  refine ha T σ H ρ m x _ hm hs e1 _ fun v T1 H1 l1 hm1 r1 => ?_
  exact ⟨by rw [← r1.length]; exact hn _ _ _ hf, T1, m1, x, d, m', hm1, r1, hf, k.le l1⟩
end L4

namespace L4
open PySem L2
/-! whole numbers -/
def addI : D → D → Option D
  | .int i, .int j => some (.int (i + j))
  | _, _ => none
def subD : M → D → D → Option D
  | _, .int i, .int j => some (.int (i - j))
  | _, _, _ => none
def fdivD : M → D → D → Option D
  | _, .int i, .int j => if 0 < j ∧ j < 1073741824 then some (.int (i / j)) else none
  | _, _, _ => none
def modD : M → D → D → Option D
  | _, .int i, .int j => if 0 < j then some (.int (i % j)) else none
  | _, _, _ => none
def powD : M → D → D → Option D
  | _, .int i, .int j => if 0 ≤ j ∧ j ≤ 1000000 ∧ i.natAbs < 2 ^ 64 then some (.int (i ^ j.toNat)) else none
  | _, _, _ => none
def negD : M → D → Option D
  | _, .int i => some (.int (-i))
  | _, _ => none
section
variable {X : Cx} {g : G} {T : Tk} {H : Hp} {m : M} {Q : VK}
theorem KV.now {d : D} {v : V} (k : KV g T H m d Q) (hm : RepH g T H m) (r : Rep g T H d v) : Q v H := k v T H .refl hm r
theorem op_sub' : OpD X (binaryOp .Sub) subD := ⟨_, op_sub, fun T H m x y v u d hm rx ry hf Q k => by
  cases rx <;> cases ry <;> first | (cases hf; exact ⟨_, _, rfl, rfl, k.now hm (.int _)⟩) | (cases hf; done)⟩
theorem op_fdiv' : OpD X (binaryOp .FloorDiv) fdivD := ⟨_, op_fdiv, fun T H m x y v u d hm rx ry hf Q k => by
  cases rx <;> cases ry <;> first | (cases hf; done) | (obtain ⟨h, hf⟩ := ite_some hf; cases hf; exact ⟨_, _, rfl, rfl, h, k.now hm (.int _)⟩)⟩
theorem op_mod' : OpD X (binaryOp .Mod) modD := ⟨_, op_mod, fun T H m x y v u d hm rx ry hf Q k => by
  cases rx <;> cases ry <;> first | (cases hf; done) | (obtain ⟨h, hf⟩ := ite_some hf; cases hf; exact ⟨_, _, rfl, rfl, h, k.now hm (.int _)⟩)⟩
theorem op_pow' : OpD X (binaryOp .Pow) powD := ⟨_, op_pow, fun T H m x y v u d hm rx ry hf Q k => by
  cases rx <;> cases ry <;> first | (cases hf; done) | (obtain ⟨h, hf⟩ := ite_some hf; cases hf; exact ⟨_, _, rfl, rfl, h, k.now hm (.int _)⟩)⟩
theorem un_neg' : UnD X (unaryOp .USub) negD := ⟨_, un_neg, fun T H m x v d hm rx hf Q k => by
  cases rx <;> first | (cases hf; exact ⟨_, rfl, k.now hm (.int _)⟩) | (cases hf; done)⟩
/-! comparisons of whole numbers and texts -/
def cmpI (p : Int → Int → Bool) (q : List Nat → List Nat → Bool) : M → D → D → Option D
  | _, .int i, .int j => some (.bl (p i j))
  | _, .str i, .str j => some (.bl (q i.cps.toList j.cps.toList))
  | _, _, _ => none
def ltD := cmpI (fun i j => decide (i < j)) (fun i j => decide (i < j))
def leD : M → D → D → Option D
  | _, .int i, .int j => some (.bl (decide (i ≤ j)))
  | _, _, _ => none
def gtD : M → D → D → Option D
  | _, .int i, .int j => some (.bl (decide (j < i)))
  | _, _, _ => none
def geD : M → D → D → Option D
  | _, .int i, .int j => some (.bl (decide (j ≤ i)))
  | _, _, _ => none
theorem orR {F : Value → Value → Sem Value} {r q : R2} (h1 : OpR X F r) (h2 : OpR X F q) : OpR X F (fun x y H Q => r x y H Q ∨ q x y H Q) := by
  intro pins s σ H x y v u Q I rx ry h
  rcases h with h | h
  · exact h1 pins s σ H x y v u Q I rx ry h
  · exact h2 pins s σ H x y v u Q I rx ry h
theorem op_lt' : OpD X (compareOp .Lt) ltD := ⟨_, orR op_lt op_lt_str, fun T H m x y v u d hm rx ry hf Q k => by
  cases rx <;> cases ry <;> first | (cases hf; exact .inl ⟨_, _, rfl, rfl, k.now hm (.bl _)⟩) | (cases hf; exact .inr ⟨_, _, rfl, rfl, k.now hm (.bl _)⟩) | (cases hf; done)⟩
theorem op_le' : OpD X (compareOp .LtE) leD := ⟨_, op_le, fun T H m x y v u d hm rx ry hf Q k => by
  cases rx <;> cases ry <;> first | (cases hf; exact ⟨_, _, rfl, rfl, k.now hm (.bl _)⟩) | (cases hf; done)⟩
theorem op_gt' : OpD X (compareOp .Gt) gtD := ⟨_, op_gt, fun T H m x y v u d hm rx ry hf Q k => by
  cases rx <;> cases ry <;> first | (cases hf; exact ⟨_, _, rfl, rfl, k.now hm (.bl _)⟩) | (cases hf; done)⟩
theorem op_ge' : OpD X (compareOp .GtE) geD := ⟨_, op_ge, fun T H m x y v u d hm rx ry hf Q k => by
  cases rx <;> cases ry <;> first | (cases hf; exact ⟨_, _, rfl, rfl, k.now hm (.bl _)⟩) | (cases hf; done)⟩
/-! lists and tuples that are read -/
def lstO : O → Option (List D)
  | .lst ds => some ds
  | _ => none
def lstOf (m : M) : D → Option (List D)
  | .lst ds => some ds
  | .ref n => (m[n]?).bind lstO
  | _ => none
theorem lst_rep {x : D} {v : V} {ds : List D} (hm : RepH g T H m) (r : Rep g T H x v) (h : lstOf m x = some ds) : ∃ a vs, v = .ref a ∧ H a = some (.lst vs) ∧ RepL g T H ds vs := by
  cases r with
  | lst f r => cases h; exact ⟨_, _, rfl, f.2, r⟩
  | ref e =>
    obtain ⟨o, h1, h2⟩ := Option.bind_eq_some_iff.mp h
    cases hm.at_ _ _ _ e h1 with
    | lst f r => cases h2; exact ⟨_, _, rfl, f, r⟩
    | _ => cases h2
  | _ => cases h
/-- a list that is read, the script too -/
def lstR (m : M) : D → Option (List D)
  | .scr ds => some ds
  | d => lstOf m d
theorem lstR_rep {x : D} {v : V} {ds : List D} (hm : RepH g T H m) (r : Rep g T H x v) (h : lstR m x = some ds) : ∃ a vs, v = .ref a ∧ SqL g.K H a vs ∧ RepL g T H ds vs := by
  unfold lstR at h
  split at h
  · cases h
    cases r with
    | scr f r => exact ⟨_, _, rfl, f.sq, r⟩
  · obtain ⟨a, vs, e, q, r⟩ := lst_rep hm r h
    exact ⟨a, vs, e, .of q, r⟩
theorem tup_rep {v : V} {ds : List D} (r : Rep g T H (.tup ds) v) : ∃ a vs, v = .ref a ∧ SqT g.K H a vs ∧ RepL g T H ds vs := by
  cases r with
  | tup f r => exact ⟨_, _, rfl, f.sq, r⟩
/-- a new tuple -/
theorem KV.tup {ds : List D} {vs : List V} (k : KV g T H m (.tup ds) Q) (hm : RepH g T H m) (r : RepL g T H ds vs) (p : Addr) (hp : H p = none) : Q (.ref p) (upd H p (.tup vs)) := by
  obtain ⟨l, hm'⟩ := hm.fresh (u := .tup vs) hp
  exact k _ T _ l hm' (.tup (.inl ⟨fun z => hm.nope hp z, upd_same⟩) (r.le l))
/-- a new list that stays as it is -/
theorem KV.lst {ds : List D} {vs : List V} (k : KV g T H m (.lst ds) Q) (hm : RepH g T H m) (r : RepL g T H ds vs) (p : Addr) (hp : H p = none) : Q (.ref p) (upd H p (.lst vs)) := by
  obtain ⟨l, hm'⟩ := hm.fresh (u := .lst vs) hp
  exact k _ T _ l hm' (.lst ⟨fun z => hm.nope hp z, upd_same⟩ (r.le l))
/-- a new list that is tracked -/
theorem KV.newL {ds : List D} {vs : List V} (k : KV g T H (m ++ [.lst ds]) (.ref m.length) Q) (hm : RepH g T H m) (r : RepL g T H ds vs) (p : Addr) (hp : H p = none) : Q (.ref p) (upd H p (.lst vs)) := by
  obtain ⟨l, hm'⟩ := hm.push (u := .lst vs) (o := .lst ds) hp fun l => .lst upd_same (r.le l)
  refine k _ (T.push p) _ l hm' (.ref ?_)
  show (T.μ ++ [p])[m.length]? = some p
  rw [← hm.len, List.getElem?_append_right (Nat.le_refl _)]
  simp
def eTup (a : AF) : EF := fun ρ m => bd (a ρ m) fun xs m1 => if xs.length ≤ sizeLine then some (.tup xs, m1) else none
def eLst (a : AF) : EF := fun ρ m => bd (a ρ m) fun xs m1 => if xs.length ≤ sizeLine then some (.lst xs, m1) else none
def eNewL (a : AF) : EF := fun ρ m => bd (a ρ m) fun xs m1 => if xs.length ≤ sizeLine then some (.ref m1.length, m1 ++ [.lst xs]) else none
variable {pos : Pos}
theorem de_tup {es : List Expr} {f : AF} {k} (ha : DA X es f) : DE X (.Tuple es k pos) (eTup f) := by
  obtain ⟨ta, pa, ra⟩ := ha.ex
  refine ⟨_, pe_tup pa, fun T σ H ρ m d m' hm hs hf Q k => ?_⟩
  obtain ⟨x, m1, e1, hf⟩ := bd_some hf
  obtain ⟨hz, hf⟩ := ite_some hf
  cases hf
  refine ra T σ H ρ m x _ hm hs e1 _ fun vs T1 H1 l1 hm1 r1 => ⟨by rw [← r1.length]; exact hz, fun p hp => ?_⟩
  exact (k.le l1).tup hm1 r1 p hp
theorem de_lst {es : List Expr} {f : AF} (ha : DA X es f) : DE X (.List es pos) (eLst f) := by
  obtain ⟨ta, pa, ra⟩ := ha.ex
  refine ⟨_, pe_lst pa, fun T σ H ρ m d m' hm hs hf Q k => ?_⟩
  obtain ⟨x, m1, e1, hf⟩ := bd_some hf
  obtain ⟨hz, hf⟩ := ite_some hf
  cases hf
  refine ra T σ H ρ m x _ hm hs e1 _ fun vs T1 H1 l1 hm1 r1 => ⟨by rw [← r1.length]; exact hz, fun p hp => ?_⟩
  exact (k.le l1).lst hm1 r1 p hp
theorem de_newL {es : List Expr} {f : AF} (ha : DA X es f) : DE X (.List es pos) (eNewL f) := by
  obtain ⟨ta, pa, ra⟩ := ha.ex
  refine ⟨_, pe_lst pa, fun T σ H ρ m d m' hm hs hf Q k => ?_⟩
  obtain ⟨x, m1, e1, hf⟩ := bd_some hf
  obtain ⟨hz, hf⟩ := ite_some hf
  cases hf
  refine ra T σ H ρ m x _ hm hs e1 _ fun vs T1 H1 l1 hm1 r1 => ⟨by rw [← r1.length]; exact hz, fun p hp => ?_⟩
  exact (k.le l1).newL hm1 r1 p hp
/-- two texts, one behind the other -/
def catS (i j : Str) : Str := ⟨(i.cps.toList ++ j.cps.toList).toArray⟩
theorem catS_eq (i j : Str) : i ++ j = catS i j := by
  cases i with
  | mk a => cases j with
    | mk b =>
      show (⟨a ++ b⟩ : Str) = ⟨(a.toList ++ b.toList).toArray⟩
      congr 1
      exact Array.ext' (by simp)
/-! + and * -/
def addD (m : M) (x y : D) : Option D := match x, y with
  | .int i, .int j => some (.int (i + j))
  | .str i, .str j => if i.length + j.length ≤ sizeLine then some (.str (catS i j)) else none
  | .tup a, .tup b => if a.length + b.length ≤ sizeLine then some (.tup (a ++ b)) else none
  | x, y => match lstOf m x, lstOf m y with
    | some a, some b => if a.length + b.length ≤ sizeLine then some (.lst (a ++ b)) else none
    | _, _ => none
theorem addD_lst {m : M} {x y d : D} (h : addD m x y = some d) : (∃ i j, x = .int i ∧ y = .int j ∧ d = .int (i + j)) ∨ (∃ i j, x = .str i ∧ y = .str j ∧ i.length + j.length ≤ sizeLine ∧ d = .str (catS i j)) ∨
    (∃ a b, x = .tup a ∧ y = .tup b ∧ a.length + b.length ≤ sizeLine ∧ d = .tup (a ++ b)) ∨ (∃ a b, lstOf m x = some a ∧ lstOf m y = some b ∧ a.length + b.length ≤ sizeLine ∧ d = .lst (a ++ b)) := by
  unfold addD at h
  split at h
  · cases h; exact .inl ⟨_, _, rfl, rfl, rfl⟩
  · obtain ⟨hz, h⟩ := ite_some h; cases h; exact .inr (.inl ⟨_, _, rfl, rfl, hz, rfl⟩)
  · obtain ⟨hz, h⟩ := ite_some h; cases h; exact .inr (.inr (.inl ⟨_, _, rfl, rfl, hz, rfl⟩))
  · split at h
    · next h1 h2 => obtain ⟨hz, h⟩ := ite_some h; cases h; exact .inr (.inr (.inr ⟨_, _, h1, h2, hz, rfl⟩))
    · cases h
theorem op_add' : OpD X (binaryOp .Add) addD := ⟨_, orR op_add (orR op_add_str (orR op_catA op_cat)), fun T H m x y v u d hm rx ry hf Q k => by
  rcases addD_lst hf with ⟨i, j, rfl, rfl, rfl⟩ | ⟨i, j, rfl, rfl, hz, rfl⟩ | ⟨a, b, rfl, rfl, hz, rfl⟩ | ⟨a, b, h1, h2, hz, rfl⟩
  · cases rx; cases ry; exact .inl ⟨_, _, rfl, rfl, k.now hm (.int _)⟩
  · cases rx; cases ry; exact .inr (.inl ⟨_, _, rfl, rfl, hz, by rw [catS_eq]; exact k.now hm (.str _)⟩)
  · obtain ⟨p, xs, rfl, hx, r1⟩ := tup_rep rx
    obtain ⟨q, ys, rfl, hy, r2⟩ := tup_rep ry
    refine .inr (.inr (.inl ⟨p, q, xs, ys, rfl, rfl, hx, hy, by rw [← r1.length, ← r2.length]; exact hz, fun e => ?_, fun _ e => ?_, fun _ _ z hz => k.tup hm (r1.append r2) z hz⟩))
    · subst e; cases r1; exact k.now hm ry
    · subst e; cases r2; rw [List.append_nil] at k; exact k.now hm rx
  · obtain ⟨p, xs, rfl, hx, r1⟩ := lst_rep hm rx h1
    obtain ⟨q, ys, rfl, hy, r2⟩ := lst_rep hm ry h2
    exact .inr (.inr (.inr ⟨p, q, xs, ys, rfl, rfl, hx, hy, by rw [← r1.length, ← r2.length]; exact hz, fun z hz => k.lst hm (r1.append r2) z hz⟩))⟩
def mulD (m : M) (x y : D) : Option D := match x, y with
  | .int i, .int j => if (-(2 ^ 64) < i ∧ i < 2 ^ 64) ∨ (-(2 ^ 64) < j ∧ j < 2 ^ 64) then some (.int (i * j)) else none
  | .tup a, .int k => if a ≠ [] ∧ a.length ≤ 1000 ∧ 0 ≤ k ∧ k ≤ 1000 then some (.tup (List.replicate k.toNat a).flatten) else none
  | .lst a, .int k => if a.length ≤ 1000 ∧ 0 ≤ k ∧ k ≤ 1000 then some (.lst (List.replicate k.toNat a).flatten) else none
  | _, _ => none
theorem tuple_mul1 (l : Addr) (items : Array Value) (n : Nat) (dd : Option Addr) (sl : Array (Option Value)) (u : Tok) :
    Meets (Builtin.«tuple.__mul__» ⟨[.ref l, .int 1 u], []⟩) (fun _ R s => s.heap.get? l = some { cls := .type "tuple", dict := dd, data := .seq items n, slots := sl } ∧ R (.ok (.ret (Value.ref l))) s) :=
  .of_wp fun prog w A R s h => by
    obtain ⟨hp, g, d, tk, os⟩ := s
    obtain ⟨hl, h⟩ := h
    have f1 := AutoSeq1.idx_int
    wp_walk using wpAny_loadPart' hl
    exact ⟨_, rfl, h⟩
theorem tuple_mul0 (l : Addr) (items : Array Value) (n : Nat) (dd : Option Addr) (sl : Array (Option Value)) (u : Tok) (hi : items.isEmpty = false) :
    Meets (Builtin.«tuple.__mul__» ⟨[.ref l, .int 0 u], []⟩) (fun _ R s => s.heap.get? l = some { cls := .type "tuple", dict := dd, data := .seq items n, slots := sl } ∧ R (.ok (.ret (Value.ref s.heap.objs.size))) { s with heap := s.heap.push { cls := Value.type "tuple", data := Data.seq #[] } }) :=
  .of_wp fun prog w A R s h => by
    obtain ⟨hp, g, d, tk, os⟩ := s
    obtain ⟨hl, h⟩ := h
    have f1 := AutoSeq1.idx_int
    have c1 : (items.isEmpty || (0 : Int) == 1) = false := by rw [hi]; rfl
    wp_walk using wpAny_loadPart' hl
    repeat (first
      | (refine wpAny_ite_false (decide_eq_false (by rw [c1]; exact Bool.false_ne_true)) ?_; wp_walk using wpAny_loadPart' hl))
    exact ⟨_, rfl, h⟩
theorem repT_core {l : Addr} {k : Int} {t : Tok} {xs : List V} {pins : List (Addr × Obj)} {s : Shared} {σ : L2.St} {H : Hp} {Q : VK} (I : Inv X pins σ H s) (hT : SqT X.K H l xs) (h1 : k = 1 → Q (.ref l) H) (h0 : k = 0 → xs ≠ [] ∧ ∀ p, H p = none → Q (.ref p) (upd H p (.tup []))) (hk : k = 0 ∨ k = 1) :
    wpAny (model X.prog X.w) X.A (binaryOp .Mult (.ref l) (.int k t)) (EP X pins σ Q) X.xe s := by
  obtain ⟨its, r, ⟨⟨cls, dd, data, sl⟩, ho, hc, n, hd⟩, hs⟩ := I.tuple hT
  simp only at hc hd
  subst hc hd
  refine wpAny_binaryOp_repeat_ref (T := "tuple") (U := "int") (by decide) ⟨_, ho, rfl⟩ (fun s' => typeIs_int s' k t) noFill_tuple_mul F.fills_int_mul F.slot_int_rmul repeat_tuple F.slot_int_index.lookup
    (call_meets F.slot_int_rmul (typeIs_int s k t) F.entry_int_rmul (F.args_int_rmul_2 _ _) (int_rmul_tuple k t l its.toArray n dd sl)
      ⟨ho, rfl, ⟨_, ho, rfl⟩, ?_⟩)
  rcases hk with rfl | rfl
  · obtain ⟨hne, q⟩ := h0 rfl
    refine call_meets F.slot_tuple_mul ⟨_, ho, rfl⟩ F.entry_tuple_mul (F.args_tuple_mul_2 _ _) (tuple_mul0 l its.toArray n dd sl t ?_) ⟨ho, ?_⟩
    · cases its with
      | nil => cases r; exact absurd rfl hne
      | cons _ _ => rfl
    · exact ⟨.ref s.heap.objs.size, _, I.laid (t' := s.toks) (o := .tup []) (fun b ob q => Heap.get?_push_of_some _ q) (Nat.le_refl _) ⟨Nat.zero_le _, _, .nil, PyProof.Rows.IsTup.new _ _⟩, rfl, q _ (I.hok.fresh (Nat.le_refl _))⟩
  · refine call_meets F.slot_tuple_mul ⟨_, ho, rfl⟩ F.entry_tuple_mul (F.args_tuple_mul_2 _ _) (tuple_mul1 l its.toArray n dd sl t) ⟨ho, ?_⟩
    exact ⟨.ref l, H, I, rfl, h1 rfl⟩
def rRepS (K : PySem.W.Frag) : R2 := fun x y H Q => ∃ l k xs, x = .ref l ∧ y = .int k ∧ SqT K H l xs ∧ (k = 1 → Q (.ref l) H) ∧ (k = 0 → xs ≠ [] ∧ ∀ p, H p = none → Q (.ref p) (upd H p (.tup []))) ∧ (k = 0 ∨ k = 1)
theorem op_repS : OpR X (binaryOp .Mult) (rRepS X.K) := by
  intro pins s σ H x y v u Q I rx ry h
  obtain ⟨l, k, xs, rfl, rfl, hT, h1, h0, hk⟩ := h
  cases rx
  obtain ⟨t, rfl⟩ := ry
  exact repT_core I hT h1 h0 hk
theorem rep_nil {α : Type} (xs : List α) : (List.replicate 1 xs).flatten = xs := by simp
theorem RepL.rep {xs : List D} {vs : List V} (r : RepL g T H xs vs) : ∀ n : Nat, RepL g T H (List.replicate n xs).flatten (List.replicate n vs).flatten
  | 0 => .nil
  | n + 1 => by
    rw [List.replicate_succ, List.replicate_succ, List.flatten_cons, List.flatten_cons]
    exact r.append (RepL.rep r n)
theorem mulD_some {m : M} {x y d : D} (h : mulD m x y = some d) : (∃ i j, x = .int i ∧ y = .int j ∧ CMul i j ∧ d = .int (i * j)) ∨
    (∃ a k, x = .tup a ∧ y = .int k ∧ (a ≠ [] ∧ a.length ≤ 1000 ∧ 0 ≤ k ∧ k ≤ 1000) ∧ d = .tup (List.replicate k.toNat a).flatten) ∨ (∃ a k, x = .lst a ∧ y = .int k ∧ (a.length ≤ 1000 ∧ 0 ≤ k ∧ k ≤ 1000) ∧ d = .lst (List.replicate k.toNat a).flatten) := by
  unfold mulD at h
  split at h
  · obtain ⟨hz, h⟩ := ite_some h; cases h; exact .inl ⟨_, _, rfl, rfl, hz, rfl⟩
  · obtain ⟨hz, h⟩ := ite_some h; cases h; exact .inr (.inl ⟨_, _, rfl, rfl, hz, rfl⟩)
  · obtain ⟨hz, h⟩ := ite_some h; cases h; exact .inr (.inr ⟨_, _, rfl, rfl, hz, rfl⟩)
  · cases h
theorem op_mul' : OpD X (binaryOp .Mult) mulD := ⟨_, orR op_mul (orR op_repS (orR op_repT op_rep)), fun T H m x y v u d hm rx ry hf Q k => by
  rcases mulD_some hf with ⟨i, j, rfl, rfl, hc, rfl⟩ | ⟨a, n, rfl, rfl, ⟨h1, h2, h3, h4⟩, rfl⟩ | ⟨a, n, rfl, rfl, ⟨h2, h3, h4⟩, rfl⟩
  · cases rx; cases ry; exact .inl ⟨_, _, rfl, rfl, hc, k.now hm (.int _)⟩
  · obtain ⟨p, xs, rfl, hx, r1⟩ := tup_rep rx
    cases ry
    have hne : xs ≠ [] := fun e => by subst e; cases r1; exact h1 rfl
    by_cases hn : n = 0 ∨ n = 1
    · refine .inr (.inl ⟨p, n, xs, rfl, rfl, hx, fun e => ?_, fun e => ⟨hne, fun z hz => ?_⟩, hn⟩)
      · subst e; rw [show (List.replicate (1 : Int).toNat a).flatten = a from rep_nil a] at k; exact k.now hm rx
      · subst e; exact k.tup hm .nil z hz
    · refine .inr (.inr (.inl ⟨p, n, xs, rfl, rfl, hx, hne, by omega, h4, by rw [← r1.length]; exact h2, fun z hz => k.tup hm (r1.rep _) z hz⟩))
  · cases rx with
    | lst f r1 =>
      cases ry
      refine .inr (.inr (.inr ⟨_, n, _, rfl, rfl, f.2, by omega, by omega, ?_, fun z hz => k.lst hm (r1.rep _) z hz⟩))
      rw [← r1.length, sizeLine_eq]
      have : a.length * n.toNat ≤ 1000 * 1000 := Nat.mul_le_mul h2 (by omega)
      omega⟩
/-- [e] * n as a tracked list -/
def eRepNew (a n : EF) : EF := fun ρ m => bd (a ρ m) fun x m1 => bd (n ρ m1) fun y m2 => match x, y with
  | .lst a, .int k => if a.length ≤ 1000 ∧ 0 ≤ k ∧ k ≤ 1000 then some (.ref m2.length, m2 ++ [.lst (List.replicate k.toNat a).flatten]) else none
  | _, _ => none
theorem de_repNew {a b : Expr} {fa fb : EF} (ha : DE X a fa) (hb : DE X b fb) : DE X (.BinOp a .Mult b pos) (eRepNew fa fb) := by
  obtain ⟨ta, pa, ra⟩ := ha.ex; obtain ⟨tb, pb, rb⟩ := hb.ex
  refine ⟨_, pe_op op_rep pa pb, fun T σ H ρ m d m' hm hs hf Q k => ?_⟩
  obtain ⟨x, m1, e1, hf⟩ := bd_some hf
  obtain ⟨y, m2, e2, hf⟩ := bd_some hf
  refine ra T σ H ρ m x m1 hm hs e1 _ fun v T1 H1 l1 hm1 r1 => ?_
  refine rb T1 σ H1 ρ m1 y _ hm1 (hs.le l1) e2 _ fun u T2 H2 l2 hm2 r2 => ?_
  cases r1.le l2 with
  | @lst p vs a f q1 => cases r2 with
    | int n =>
      obtain ⟨⟨h2, h3, h4⟩, hf⟩ := ite_some hf
      cases hf
      refine ⟨_, n, _, rfl, rfl, f.2, by omega, by omega, ?_, fun z hz => (k.le (l1.trans l2)).newL hm2 (q1.rep _) z hz⟩
      rw [← q1.length, sizeLine_eq]
      have : a.length * n.toNat ≤ 1000 * 1000 := Nat.mul_le_mul h2 (by omega)
      omega
    | _ => cases hf
  | _ => cases hf
end
end L4

namespace L4
open PySem L2
section
variable {X : Cx} {g : G} {T : Tk} {H : Hp} {m : M} {Q : VK} {pos : Pos}
/-! subscripts -/
theorem RepL.atI {ds : List D} {vs : List V} {i : Int} {d : D} (r : RepL g T H ds vs) (h : L2.atI ds i = some d) : ∃ v, L2.atI vs i = some v ∧ Rep g T H d v := by
  unfold L2.atI at h ⊢
  obtain ⟨j, h1, h2⟩ := Option.bind_eq_some_iff.mp h
  obtain ⟨v, h3, q⟩ := r.get h2
  rw [← r.length, h1]
  exact ⟨v, h3, q⟩
def ixD (m : M) (x y : D) : Option D := match x, y with
  | .tup ds, .int i => L2.atI ds i
  | .str z, .int i => if z.length ≤ sizeLine then (L2.atI z.cps.toList i).map fun c => .str ⟨#[c]⟩ else none
  | x, .int i => (lstR m x).bind fun ds => L2.atI ds i
  | _, _ => none
theorem ixD_some {m : M} {x y d : D} (h : ixD m x y = some d) : (∃ ds i, x = .tup ds ∧ y = .int i ∧ L2.atI ds i = some d) ∨ (∃ z i c, x = .str z ∧ y = .int i ∧ z.length ≤ sizeLine ∧ L2.atI z.cps.toList i = some c ∧ d = .str ⟨#[c]⟩) ∨ (∃ ds i, lstR m x = some ds ∧ y = .int i ∧ L2.atI ds i = some d) := by
  unfold ixD at h
  split at h
  · exact .inl ⟨_, _, rfl, rfl, h⟩
  · obtain ⟨hz, h⟩ := ite_some h
    obtain ⟨c, h1, h2⟩ := Option.map_eq_some_iff.mp h
    exact .inr (.inl ⟨_, _, c, rfl, rfl, hz, h1, h2.symm⟩)
  · obtain ⟨ds, h1, h2⟩ := Option.bind_eq_some_iff.mp h
    exact .inr (.inr ⟨ds, _, h1, rfl, h2⟩)
  · cases h
theorem ixR_or {r q : R2} (h1 : IxR X r) (h2 : IxR X q) : IxR X (fun x y H Q => r x y H Q ∨ q x y H Q) := by
  intro value slice pins s σ H x y v u Q I rx ry h hs
  rcases h with h | h
  · exact h1 value slice pins s σ H x y v u Q I rx ry h hs
  · exact h2 value slice pins s σ H x y v u Q I rx ry h hs
theorem de_ix {a b : Expr} {fa fb : EF} (ha : DE X a fa) (hb : DE X b fb) (hs : PlainIx b := by exact fun _ _ => rfl) : DE X (.Subscript a b pos) (eOp ixD fa fb) := by
  obtain ⟨ta, pa, ra⟩ := ha.ex; obtain ⟨tb, pb, rb⟩ := hb.ex
  refine ⟨_, pe_ix (ixR_or ix_tup (ixR_or ix_str ix_list)) pa pb hs, rf_op (fun T H m x y v u d hm rx ry hf Q k => ?_) ra rb⟩
  rcases ixD_some hf with ⟨ds, i, rfl, rfl, h⟩ | ⟨z, i, c, rfl, rfl, hz, h, rfl⟩ | ⟨ds, i, h1, rfl, h⟩
  · obtain ⟨p, vs, rfl, hx, r1⟩ := tup_rep rx
    cases ry
    obtain ⟨w, e, q⟩ := r1.atI h
    exact .inl ⟨p, vs, i, w, rfl, rfl, hx, e, k.now hm q⟩
  · cases rx; cases ry
    exact .inr (.inl ⟨z, i, c, rfl, rfl, hz, h, k.now hm (.str _)⟩)
  · obtain ⟨p, vs, rfl, hx, r1⟩ := lstR_rep hm rx h1
    cases ry
    obtain ⟨w, e, q⟩ := r1.atI h
    exact .inr (.inr ⟨p, vs, i, w, rfl, rfl, hx, e, k.now hm q⟩)
/-! slices -/
abbrev OF := Ss → M → Option (Option Int × M)
def RfP (g : G) (t : TO) (f : OF) : Prop := ∀ T σ H ρ m d m', RepH g T H m → RepS g T H σ ρ → f ρ m = some (d, m') → ∀ Q : Option Int → Hp → Prop, (∀ T' H', Le T H T' H' → RepH g T' H' m' → Q d H') → t σ H Q
structure DP (X : Cx) (e : Option Expr) (f : OF) : Prop where
  ex : ∃ t, PO X e t ∧ RfP (gx X) t f
def oNo : OF := fun _ m => some (none, m)
def oYes (a : EF) : OF := fun ρ m => bd (a ρ m) fun x m1 => match x with
  | .int i => some (some i, m1)
  | _ => none
theorem dp_no : DP X none oNo := ⟨_, po_none, fun T σ H ρ m d m' hm hs hf Q k => by cases hf; exact k T H .refl hm⟩
theorem dp_yes {e : Expr} {f : EF} (h : DE X e f) : DP X (some e) (oYes f) := by
  obtain ⟨t, p, r⟩ := h.ex
  refine ⟨_, po_some p, fun T σ H ρ m d m' hm hs hf Q k => ?_⟩
  obtain ⟨x, m1, e1, hf⟩ := bd_some hf
  refine r T σ H ρ m x m1 hm hs e1 _ fun v T1 H1 l1 hm1 r1 => ?_
  cases r1 with
  | int i => cases hf; exact ⟨i, rfl, k T1 H1 l1 hm1⟩
  | _ => cases hf
def cutD {α : Type} (xs : List α) (lo hi : Option Int) : List α := (xs.drop (HT.sIx xs.length 0 lo)).take (HT.sIx xs.length xs.length hi - HT.sIx xs.length 0 lo)
theorem RepL.drop {ds : List D} {vs : List V} (n : Nat) (r : RepL g T H ds vs) : RepL g T H (ds.drop n) (vs.drop n) := by
  induction n generalizing ds vs with
  | zero => exact r
  | succ n ih => cases r with
    | nil => exact .nil
    | cons _ s => exact ih s
theorem RepL.take {ds : List D} {vs : List V} (n : Nat) (r : RepL g T H ds vs) : RepL g T H (ds.take n) (vs.take n) := by
  induction n generalizing ds vs with
  | zero => exact .nil
  | succ n ih => cases r with
    | nil => exact .nil
    | cons q s => exact .cons q (ih s)
theorem RepL.cut {ds : List D} {vs : List V} (r : RepL g T H ds vs) (lo hi : Option Int) : RepL g T H (cutD ds lo hi) (L2.cutV vs lo hi) := by
  unfold cutD L2.cutV
  rw [r.length]
  exact (r.drop _).take _
def slD (m : M) (x : D) (lo hi : Option Int) : Option D := match x with
  | .tup ds => some (.tup (cutD ds lo hi))
  | .str z => if z.length ≤ sizeLine then some (.str (L2.cutS z lo hi)) else none
  | x => (lstR m x).map fun ds => .lst (cutD ds lo hi)
theorem slD_some {m : M} {x d : D} {lo hi : Option Int} (h : slD m x lo hi = some d) : (∃ ds, x = .tup ds ∧ d = .tup (cutD ds lo hi)) ∨ (∃ z, x = .str z ∧ z.length ≤ sizeLine ∧ d = .str (L2.cutS z lo hi)) ∨ (∃ ds, lstR m x = some ds ∧ d = .lst (cutD ds lo hi)) := by
  unfold slD at h
  split at h
  · cases h; exact .inl ⟨_, rfl, rfl⟩
  · obtain ⟨hz, h⟩ := ite_some h; cases h; exact .inr (.inl ⟨_, rfl, hz, rfl⟩)
  · obtain ⟨ds, h1, h2⟩ := Option.map_eq_some_iff.mp h
    exact .inr (.inr ⟨ds, h1, h2.symm⟩)
theorem slR_or {r q : V → Option Int → Option Int → Hp → VK → Prop} (h1 : SlR X r) (h2 : SlR X q) : SlR X (fun x lo hi H Q => r x lo hi H Q ∨ q x lo hi H Q) := by
  intro pins s σ H x v vl vu lo hi sl Q I rx hs pl pu h
  rcases h with h | h
  · exact h1 pins s σ H x v vl vu lo hi sl Q I rx hs pl pu h
  · exact h2 pins s σ H x v vl vu lo hi sl Q I rx hs pl pu h
def eSl (a : EF) (lo hi : OF) : EF := fun ρ m => bd (a ρ m) fun x m1 => bd (lo ρ m1) fun l m2 => bd (hi ρ m2) fun u m3 => pu (slD m3 x l u) m3
theorem whole_cut {α : Type} {xs : List α} {lo hi : Option Int} (h : HT.sIx xs.length 0 lo = 0 ∧ HT.sIx xs.length xs.length hi = xs.length) : cutD xs lo hi = xs := by
  unfold cutD
  rw [h.1, h.2]
  simp
theorem de_sl {e : Expr} {lo hi : Option Expr} {f : EF} {fl fh : OF} {p2 : Pos} (he : DE X e f) (hl : DP X lo fl) (hh : DP X hi fh) : DE X (.Subscript e (.Slice lo hi none p2) pos) (eSl f fl fh) := by
  obtain ⟨t, p, r⟩ := he.ex; obtain ⟨tl, pl, rl⟩ := hl.ex; obtain ⟨th, ph, rh⟩ := hh.ex
  refine ⟨_, pe_slice (slR_or sl_tupA (slR_or sl_str sl_list)) p pl ph, fun T σ H ρ m d m' hm hs hf Q k => ?_⟩
  obtain ⟨x, m1, e1, hf⟩ := bd_some hf
  obtain ⟨a, m2, e2, hf⟩ := bd_some hf
  obtain ⟨b, m3, e3, hf⟩ := bd_some hf
  obtain ⟨e4, rfl⟩ := pu_some hf
  refine r T σ H ρ m x m1 hm hs e1 _ fun v T1 H1 l1 hm1 r1 => ?_
  refine rl T1 σ H1 ρ m1 a m2 hm1 (hs.le l1) e2 _ fun T2 H2 l2 hm2 => ?_
  refine rh T2 σ H2 ρ m2 b _ hm2 (hs.le (l1.trans l2)) e3 _ fun T3 H3 l3 hm3 => ?_
  have k3 := k.le (l1.trans (l2.trans l3))
  have r3 := r1.le (l2.trans l3)
  rcases slD_some e4 with ⟨ds, rfl, rfl⟩ | ⟨z, rfl, hz, rfl⟩ | ⟨ds, h1, rfl⟩
  · obtain ⟨q, vs, rfl, hx, rr⟩ := tup_rep r3
    refine .inl ⟨q, vs, rfl, hx, fun hw => ?_, fun _ z hz => k3.tup hm3 (rr.cut _ _) z hz⟩
    rw [← rr.length] at hw
    rw [whole_cut hw] at k3
    exact k3.now hm3 r3
  · cases r3
    exact .inr (.inl ⟨z, rfl, hz, k3.now hm3 (.str _)⟩)
  · obtain ⟨q, vs, rfl, hx, rr⟩ := lstR_rep hm3 r3 h1
    exact .inr (.inr ⟨q, vs, rfl, hx, fun z hz => k3.lst hm3 (rr.cut _ _) z hz⟩)
/-! equality and in -/
mutual
def pd : D → Option PyData
  | .non => some .none
  | .bl b => some (.bool b)
  | .int i => some (.int i)
  | .str x => some (.str x)
  | .tup ds => (pdL ds).map .tuple
  | .lst ds => (pdL ds).map .list
  | .scr ds => (pdL ds).map .list
  | .dic _ _ => none
  | .obj _ _ _ => none
  | .ref _ => none
  | .glo _ => none
  | .ty _ => none
def pdL : List D → Option (List PyData)
  | [] => some []
  | d :: ds => match pd d, pdL ds with
    | some a, some b => some (a :: b)
    | _, _ => none
end
mutual
theorem pd_rep : ∀ (d : D) {v : V} {a : PyData}, pd d = some a → Rep g T H d v → Dp g.K H v a
  | .non, _, _, h, r => by rw [pd] at h; cases h; cases r; exact .non
  | .bl _, _, _, h, r => by rw [pd] at h; cases h; cases r; exact .bl _
  | .int _, _, _, h, r => by rw [pd] at h; cases h; cases r; exact .int _
  | .str _, _, _, h, r => by rw [pd] at h; cases h; cases r; exact .str _
  | .tup ds, _, _, h, r => by
    rw [pd] at h
    obtain ⟨as, h1, rfl⟩ := Option.map_eq_some_iff.mp h
    cases r with
    | tup f r => exact .tup f.sq (pdL_rep ds h1 r)
  | .lst ds, _, _, h, r => by
    rw [pd] at h
    obtain ⟨as, h1, rfl⟩ := Option.map_eq_some_iff.mp h
    cases r with
    | lst f r => exact .lst f.sq (pdL_rep ds h1 r)
  | .scr ds, _, _, h, r => by
    rw [pd] at h
    obtain ⟨as, h1, rfl⟩ := Option.map_eq_some_iff.mp h
    cases r with
    | scr f r => exact .lst f.sq (pdL_rep ds h1 r)
  | .dic _ _, _, _, h, _ => by rw [pd] at h; cases h
  | .obj _ _ _, _, _, h, _ => by rw [pd] at h; cases h
  | .ref _, _, _, h, _ => by rw [pd] at h; cases h
  | .glo _, _, _, h, _ => by rw [pd] at h; cases h
  | .ty _, _, _, h, _ => by rw [pd] at h; cases h
theorem pdL_rep : ∀ (ds : List D) {vs : List V} {as : List PyData}, pdL ds = some as → RepL g T H ds vs → DpAll g.K H vs as
  | [], _, _, h, r => by rw [pdL] at h; cases h; cases r; exact .nil
  | d :: ds, _, _, h, r => by
    rw [pdL] at h
    cases h1 : pd d with
    | none => rw [h1] at h; cases h
    | some a => cases h2 : pdL ds with
      | none => rw [h1, h2] at h; cases h
      | some b =>
        rw [h1, h2] at h
        cases h
        cases r with
        | cons r s => exact .cons (pd_rep d h1 r) (pdL_rep ds h2 s)
end
/-- the plain data of a value, of a tracked list too -/
def pdM (m : M) (d : D) : Option PyData := match (frz m d).bind pd with
  | some a => if SeqAt.shaped a then some a else none
  | none => none
theorem pdM_rep {d : D} {v : V} {a : PyData} (hm : RepH g T H m) (h : pdM m d = some a) (r : Rep g T H d v) : Dp g.K H v a ∧ SeqAt.shaped a = true := by
  unfold pdM at h
  split at h
  · next h1 =>
    obtain ⟨hz, h⟩ := ite_some h
    cases h
    obtain ⟨e, h2, h3⟩ := Option.bind_eq_some_iff.mp h1
    exact ⟨pd_rep e h3 (frz_ok hm (fun a h => (List.not_mem_nil h).elim) (fun a _ h => (List.not_mem_nil h).elim) h2 r), hz⟩
  · cases h
def eqD (m : M) (x y : D) : Option D := match pdM m x, pdM m y with
  | some a, some b => some (.bl (PyData.eqv a b))
  | _, _ => none
def neD (m : M) (x y : D) : Option D := match pdM m x, pdM m y with
  | some a, some b => some (.bl (!PyData.eqv a b))
  | _, _ => none
theorem Gd.u64 {k : Nat} (h : Gd k X) : X.A.units + 65 < cLine := by have := h.r.un; omega
theorem op_eq' {k : Nat} (gd : Gd k X) : OpD X (compareOp .Eq) eqD := ⟨_, op_eqD (by have := gd.u64; omega), fun T H m x y v u d hm rx ry hf Q k => by
  unfold eqD at hf
  split at hf
  · next h1 h2 => cases hf; obtain ⟨d1, s1⟩ := pdM_rep hm h1 rx; obtain ⟨d2, s2⟩ := pdM_rep hm h2 ry; exact ⟨_, _, d1, d2, s1, s2, k.now hm (.bl _)⟩
  · cases hf⟩
theorem op_ne' {k : Nat} (gd : Gd k X) : OpD X (compareOp .NotEq) neD := ⟨_, op_neD (by have := gd.u64; omega), fun T H m x y v u d hm rx ry hf Q k => by
  unfold neD at hf
  split at hf
  · next h1 h2 => cases hf; obtain ⟨d1, s1⟩ := pdM_rep hm h1 rx; obtain ⟨d2, s2⟩ := pdM_rep hm h2 ry; exact ⟨_, _, d1, d2, s1, s2, k.now hm (.bl _)⟩
  · cases hf⟩
def rInT (K : PySem.W.Frag) (b : Bool) : R2 := fun x y H Q => ∃ d ds, Dp K H x d ∧ Dp K H y (.tuple ds) ∧ SeqAt.shaped d = true ∧ SeqAt.shaped (.tuple ds) = true ∧ Q (.bl ((ds.any fun z => PyData.eqv z d) != b)) H
theorem room_t {A : Around} {d : PyData} {ds : List PyData} (sd : SeqAt.shaped d = true) (hu : A.units + 65 < cLine) : A.units + 1 + min (PyData.depthAll ds) d.depth < cLine := by
  have := SeqAt.depth_of_shaped sd
  have h2 : min (PyData.depthAll ds) d.depth ≤ d.depth := Nat.min_le_right _ _
  omega
theorem op_inT (hu : X.A.units + 65 < cLine) : OpR X (compareOp .In) (rInT X.K false) := by
  intro pins s σ H x y v u Q I rx ry h
  obtain ⟨d, ds, hd, he, sd, se, q⟩ := h
  obtain ⟨as, r1⟩ := Dp.reads I d x v hd rx
  obtain ⟨bs, r2⟩ := Dp.reads I (.tuple ds) y u he ry
  rw [Bool.bne_false] at q
  exact SeqAt.in_tuple_reads r2 r1 (SeqAt.canLay_of_shaped se) (SeqAt.canLay_of_shaped sd) (room_t sd hu) ⟨.bl _, H, I, rfl, q⟩
theorem op_ninT (hu : X.A.units + 65 < cLine) : OpR X (compareOp .NotIn) (rInT X.K true) := by
  intro pins s σ H x y v u Q I rx ry h
  obtain ⟨d, ds, hd, he, sd, se, q⟩ := h
  obtain ⟨as, r1⟩ := Dp.reads I d x v hd rx
  obtain ⟨bs, r2⟩ := Dp.reads I (.tuple ds) y u he ry
  rw [Bool.bne_true] at q
  exact SeqAt.notIn_tuple_reads r2 r1 (SeqAt.canLay_of_shaped se) (SeqAt.canLay_of_shaped sd) (room_t sd hu) ⟨.bl _, H, I, rfl, q⟩
/-- x in a text: one sign is looked up by itself -/
def inStr (i j : Str) : Bool := match i.cps.toList with
  | [c] => j.cps.toList.contains c
  | _ => !(Builtin.Str.occurrences j i 0 j.length 1).isEmpty
theorem sign_of {i : Str} {c : Nat} (h : i.cps.toList = [c]) : i = ⟨#[c]⟩ := by
  cases i with
  | mk a => congr 1; exact Array.ext' h
/-- x in a tuple, a list, a text -/
def inB (m : M) (x y : D) : Option Bool := match x, y with
  | .str i, .str j => some (inStr i j)
  | x, y => match pdM m x, pdM m y with
    | some a, some (.tuple ds) => some (ds.any fun z => PyData.eqv z a)
    | some a, some (.list ds) => some (ds.any fun z => PyData.eqv z a)
    | _, _ => none
theorem inB_some {m : M} {x y : D} {b : Bool} (h : inB m x y = some b) : (∃ i j, x = .str i ∧ y = .str j ∧ b = inStr i j) ∨
    (∃ a ds, pdM m x = some a ∧ pdM m y = some (.tuple ds) ∧ b = ds.any fun z => PyData.eqv z a) ∨ (∃ a ds, pdM m x = some a ∧ pdM m y = some (.list ds) ∧ b = ds.any fun z => PyData.eqv z a) := by
  unfold inB at h
  split at h
  · cases h; exact .inl ⟨_, _, rfl, rfl, rfl⟩
  · split at h
    · next h1 h2 => cases h; exact .inr (.inl ⟨_, _, h1, h2, rfl⟩)
    · next h1 h2 => cases h; exact .inr (.inr ⟨_, _, h1, h2, rfl⟩)
    · cases h
def inD (m : M) (x y : D) : Option D := (inB m x y).map .bl
def ninD (m : M) (x y : D) : Option D := (inB m x y).map fun b => .bl (!b)
theorem op_in' {k : Nat} (gd : Gd k X) : OpD X (compareOp .In) inD := ⟨_, orR op_in_sign (orR op_in_str (orR (op_inT gd.u64) (op_inD gd.u64))), fun T H m x y v u d hm rx ry hf Q k => by
  obtain ⟨b, hb, rfl⟩ := Option.map_eq_some_iff.mp hf
  rcases inB_some hb with ⟨i, j, rfl, rfl, rfl⟩ | ⟨a, ds, h1, h2, rfl⟩ | ⟨a, ds, h1, h2, rfl⟩
  · cases rx; cases ry
    unfold inStr at k
    split at k
    · next c hc =>
      refine .inl ⟨c, j, by rw [sign_of hc], rfl, ?_⟩
      have e : decide (c ∈ j.cps.toList) = j.cps.toList.contains c := by simp
      rw [e]
      exact k.now hm (.bl _)
    · exact .inr (.inl ⟨i, j, rfl, rfl, k.now hm (.bl _)⟩)
  · obtain ⟨d1, s1⟩ := pdM_rep hm h1 rx; obtain ⟨d2, s2⟩ := pdM_rep hm h2 ry
    exact .inr (.inr (.inl ⟨a, ds, d1, d2, s1, s2, by rw [Bool.bne_false]; exact k.now hm (.bl _)⟩))
  · obtain ⟨d1, s1⟩ := pdM_rep hm h1 rx; obtain ⟨d2, s2⟩ := pdM_rep hm h2 ry
    exact .inr (.inr (.inr ⟨a, ds, d1, d2, s1, s2, k.now hm (.bl _)⟩))⟩
theorem op_nin' {k : Nat} (gd : Gd k X) : OpD X (compareOp .NotIn) ninD := ⟨_, orR op_notIn_sign (orR op_notin_str (orR (op_ninT gd.u64) (op_notInD gd.u64))), fun T H m x y v u d hm rx ry hf Q k => by
  obtain ⟨b, hb, rfl⟩ := Option.map_eq_some_iff.mp hf
  rcases inB_some hb with ⟨i, j, rfl, rfl, rfl⟩ | ⟨a, ds, h1, h2, rfl⟩ | ⟨a, ds, h1, h2, rfl⟩
  · cases rx; cases ry
    unfold inStr at k
    split at k
    · next c hc =>
      refine .inl ⟨c, j, by rw [sign_of hc], rfl, ?_⟩
      have e : decide (c ∈ j.cps.toList) = j.cps.toList.contains c := by simp
      rw [e]
      exact k.now hm (.bl _)
    · exact .inr (.inl ⟨i, j, rfl, rfl, k.now hm (.bl _)⟩)
  · obtain ⟨d1, s1⟩ := pdM_rep hm h1 rx; obtain ⟨d2, s2⟩ := pdM_rep hm h2 ry
    exact .inr (.inr (.inl ⟨a, ds, d1, d2, s1, s2, by rw [Bool.bne_true]; exact k.now hm (.bl _)⟩))
  · obtain ⟨d1, s1⟩ := pdM_rep hm h1 rx; obtain ⟨d2, s2⟩ := pdM_rep hm h2 ry
    exact .inr (.inr (.inr ⟨a, ds, d1, d2, s1, s2, k.now hm (.bl _)⟩))⟩
end
end L4

namespace L4
open PySem L2
section
variable {X : Cx} {g : G} {T T' : Tk} {H : Hp} {m : M} {Q : VK} {pos : Pos}
/-! less is forbidden -/
mutual
theorem Rep.wk (hμ : T'.μ = T.μ) (hν : ∀ a ∈ T'.ν, a ∈ T.ν) : ∀ (d : D) {v : V}, Rep g T H d v → Rep g T' H d v
  | .non, _, r => by cases r; exact .non
  | .bl _, _, r => by cases r; exact .bl _
  | .int _, _, r => by cases r; exact .int _
  | .str _, _, r => by cases r; exact .str _
  | .glo _, _, r => by cases r; exact .glo _
  | .ty _, _, r => by cases r; exact .ty _
  | .ref _, _, r => by
    cases r with
    | ref h => exact .ref (by rw [hμ]; exact h)
  | .tup ds, _, r => by
    cases r with
    | tup f r =>
      refine .tup ?_ (RepL.wk hμ hν ds r)
      rcases f with ⟨n, f⟩ | f
      · exact .inl ⟨fun z => n (hν _ z), f⟩
      · exact .inr f
  | .lst ds, _, r => by
    cases r with
    | lst f r => exact .lst ⟨fun z => f.1 (hν _ z), f.2⟩ (RepL.wk hμ hν ds r)
  | .scr ds, _, r => by
    cases r with
    | scr f r =>
      refine .scr ?_ (RepL.wk hμ hν ds r)
      rcases f with ⟨n, f⟩ | f
      · exact .inl ⟨fun z => n (hν _ z), f⟩
      · exact .inr f
  | .dic ks vs, _, r => by
    cases r with
    | dicF n f r q => exact .dicF (fun z => n (hν _ z)) f (RepL.wk hμ hν ks r) (RepL.wk hμ hν vs q)
    | dicN n f e r q => exact .dicN (fun z => n (hν _ z)) f e (RepL.wk hμ hν ks r) (RepL.wk hμ hν vs q)
  | .obj c ns vs, _, r => by
    cases r with
    | obj n f e r => exact .obj (fun z => n (hν _ z)) f e (RepL.wk hμ hν vs r)
theorem RepL.wk (hμ : T'.μ = T.μ) (hν : ∀ a ∈ T'.ν, a ∈ T.ν) : ∀ (ds : List D) {vs : List V}, RepL g T H ds vs → RepL g T' H ds vs
  | [], _, r => by cases r; exact .nil
  | d :: ds, _, r => by
    cases r with
    | cons r s => exact .cons (Rep.wk hμ hν d r) (RepL.wk hμ hν ds s)
end
theorem pre_get {α : Type} {xs ys : List α} {n : Nat} {a : α} (h : xs <+: ys) (e : xs[n]? = some a) : ys[n]? = some a := by
  obtain ⟨t, rfl⟩ := h
  rw [List.getElem?_append_left (List.getElem?_eq_some_iff.mp e).1]
  exact e
mutual
theorem Rep.ext (hμ : T.μ <+: T'.μ) (hν : ∀ a ∈ T'.ν, a ∈ T.ν) : ∀ (d : D) {v : V}, Rep g T H d v → Rep g T' H d v
  | .non, _, r => by cases r; exact .non
  | .bl _, _, r => by cases r; exact .bl _
  | .int _, _, r => by cases r; exact .int _
  | .str _, _, r => by cases r; exact .str _
  | .glo _, _, r => by cases r; exact .glo _
  | .ty _, _, r => by cases r; exact .ty _
  | .ref _, _, r => by
    cases r with
    | ref h => exact .ref (pre_get hμ h)
  | .tup ds, _, r => by
    cases r with
    | tup f r =>
      refine .tup ?_ (RepL.ext hμ hν ds r)
      rcases f with ⟨n, f⟩ | f
      · exact .inl ⟨fun z => n (hν _ z), f⟩
      · exact .inr f
  | .lst ds, _, r => by
    cases r with
    | lst f r => exact .lst ⟨fun z => f.1 (hν _ z), f.2⟩ (RepL.ext hμ hν ds r)
  | .scr ds, _, r => by
    cases r with
    | scr f r =>
      refine .scr ?_ (RepL.ext hμ hν ds r)
      rcases f with ⟨n, f⟩ | f
      · exact .inl ⟨fun z => n (hν _ z), f⟩
      · exact .inr f
  | .dic ks vs, _, r => by
    cases r with
    | dicF n f r q => exact .dicF (fun z => n (hν _ z)) f (RepL.ext hμ hν ks r) (RepL.ext hμ hν vs q)
    | dicN n f e r q => exact .dicN (fun z => n (hν _ z)) f e (RepL.ext hμ hν ks r) (RepL.ext hμ hν vs q)
  | .obj c ns vs, _, r => by
    cases r with
    | obj n f e r => exact .obj (fun z => n (hν _ z)) f e (RepL.ext hμ hν vs r)
theorem RepL.ext (hμ : T.μ <+: T'.μ) (hν : ∀ a ∈ T'.ν, a ∈ T.ν) : ∀ (ds : List D) {vs : List V}, RepL g T H ds vs → RepL g T' H ds vs
  | [], _, r => by cases r; exact .nil
  | d :: ds, _, r => by
    cases r with
    | cons r s => exact .cons (Rep.ext hμ hν d r) (RepL.ext hμ hν ds s)
end
/-- a forbidden object changes -/
theorem rd_upd {a p : Addr} {u w : HO} (n : a ∉ T.ν) (hp : p ∈ T.ν) (h : Rd H a u) : Rd (upd H p w) a u := by
  have : a ≠ p := by rintro rfl; exact n hp
  unfold Rd
  rw [upd_ne this]
  exact h
mutual
theorem Rep.upF {p : Addr} {w : HO} (hp : p ∈ T.ν) : ∀ (d : D) {v : V}, Rep g T H d v → Rep g T (upd H p w) d v
  | .non, _, r => by cases r; exact .non
  | .bl _, _, r => by cases r; exact .bl _
  | .int _, _, r => by cases r; exact .int _
  | .str _, _, r => by cases r; exact .str _
  | .glo _, _, r => by cases r; exact .glo _
  | .ty _, _, r => by cases r; exact .ty _
  | .ref _, _, r => by
    cases r with
    | ref h => exact .ref h
  | .tup ds, _, r => by
    cases r with
    | tup f r =>
      refine .tup ?_ (RepL.upF hp ds r)
      rcases f with ⟨n, f⟩ | f
      · exact .inl ⟨n, by rw [upd_ne (show _ ≠ p by rintro rfl; exact n hp)]; exact f⟩
      · exact .inr f
  | .lst ds, _, r => by
    cases r with
    | lst f r => exact .lst ⟨f.1, by rw [upd_ne (show _ ≠ p by rintro rfl; exact f.1 hp)]; exact f.2⟩ (RepL.upF hp ds r)
  | .scr ds, _, r => by
    cases r with
    | scr f r =>
      refine .scr ?_ (RepL.upF hp ds r)
      rcases f with ⟨n, o, f⟩ | f
      · exact .inl ⟨n, o, by rw [upd_ne (show _ ≠ p by rintro rfl; exact n hp)]; exact f⟩
      · exact .inr f
  | .dic ks vs, _, r => by
    cases r with
    | dicF n f r q => exact .dicF n (rd_upd n hp f) (RepL.upF hp ks r) (RepL.upF hp vs q)
    | dicN n f e r q => exact .dicN n (rd_upd n hp f) e (RepL.upF hp ks r) (RepL.upF hp vs q)
  | .obj c ns vs, _, r => by
    cases r with
    | obj n f e r => exact .obj n (by rw [upd_ne (show _ ≠ p by rintro rfl; exact n hp)]; exact f) e (RepL.upF hp vs r)
theorem RepL.upF {p : Addr} {w : HO} (hp : p ∈ T.ν) : ∀ (ds : List D) {vs : List V}, RepL g T H ds vs → RepL g T (upd H p w) ds vs
  | [], _, r => by cases r; exact .nil
  | d :: ds, _, r => by
    cases r with
    | cons r s => exact .cons (Rep.upF hp d r) (RepL.upF hp ds s)
end
theorem RepO.wk (hμ : T'.μ = T.μ) (hν : ∀ a ∈ T'.ν, a ∈ T.ν) {a : Addr} {o : O} (r : RepO g T H a o) : RepO g T' H a o := by
  cases r with
  | lst h r => exact .lst h (RepL.wk hμ hν _ r)
  | dicF h r q => exact .dicF h (RepL.wk hμ hν _ r) (RepL.wk hμ hν _ q)
  | dicN h k r q => exact .dicN h k (RepL.wk hμ hν _ r) (RepL.wk hμ hν _ q)
  | ins h k r => exact .ins h k (RepL.wk hμ hν _ r)
theorem RepO.ext (hμ : T.μ <+: T'.μ) (hν : ∀ a ∈ T'.ν, a ∈ T.ν) {a : Addr} {o : O} (r : RepO g T H a o) : RepO g T' H a o := by
  cases r with
  | lst h r => exact .lst h (RepL.ext hμ hν _ r)
  | dicF h r q => exact .dicF h (RepL.ext hμ hν _ r) (RepL.ext hμ hν _ q)
  | dicN h k r q => exact .dicN h k (RepL.ext hμ hν _ r) (RepL.ext hμ hν _ q)
  | ins h k r => exact .ins h k (RepL.ext hμ hν _ r)
theorem RepO.upF {p : Addr} {w : HO} (hp : p ∈ T.ν) {a : Addr} {o : O} (ha : a ≠ p) (r : RepO g T H a o) : RepO g T (upd H p w) a o := by
  cases r with
  | lst h r => exact .lst (by rw [upd_ne ha]; exact h) (RepL.upF hp _ r)
  | dicF h r q => exact .dicF (by rw [upd_ne ha]; exact h) (RepL.upF hp _ r) (RepL.upF hp _ q)
  | dicN h k r q => exact .dicN (by rw [upd_ne ha]; exact h) k (RepL.upF hp _ r) (RepL.upF hp _ q)
  | ins h k r => exact .ins (by rw [upd_ne ha]; exact h) k (RepL.upF hp _ r)
/-! the list that a comprehension makes: forbidden, not tracked, until it is done -/
def Tk.forb (T : Tk) (p : Addr) : Tk := ⟨T.μ, p :: T.ν, fun a h => List.mem_cons_of_mem _ (T.sub a h)⟩
structure Made (g : G) (T : Tk) (H : Hp) (m : M) (p : Addr) (ds : List D) : Prop where
  np : p ∉ T.ν
  hm : RepH g (T.forb p) H m
  at_ : ∃ vs, H p = some (.lst vs) ∧ RepL g (T.forb p) H ds vs
theorem Made.new {p : Addr} (hm : RepH g T H m) (hp : H p = none) : Made g T (upd H p (.lst [])) m p [] ∧ Le T H (T.forb p) (upd H p (.lst [])) := by
  have np : p ∉ T.ν := hm.nope hp
  have l : Le T H (T.forb p) (upd H p (.lst [])) := ⟨List.prefix_rfl, fun a u e _ => by rw [upd_ne (ne_of_none e hp)]; exact e, fun a ha n => by
    rcases List.mem_cons.mp ha with rfl | z
    · exact hp
    · exact absurd z n, fun a ha n => absurd ha n, fun a h => List.mem_cons_of_mem _ h⟩
  refine ⟨⟨np, ⟨hm.len, hm.nd, fun a ha => ?_, fun n a o h1 h2 => (hm.at_ n a o h1 h2).le l ?_⟩, [], upd_same, .nil⟩, l⟩
  · rcases List.mem_cons.mp ha with rfl | z
    · exact ⟨_, upd_same, trivial⟩
    · obtain ⟨u, e, q⟩ := hm.has a z
      exact ⟨u, by rw [upd_ne (ne_of_none e hp)]; exact e, q⟩
  · obtain ⟨v, e, _⟩ := (hm.at_ n a o h1 h2).has
    rw [upd_ne (ne_of_none e hp)]
/-- what came of an evaluation while the list was being made -/
theorem Le.unforb {p : Addr} {T0 T1 : Tk} {H0 H1 : Hp} (l0 : Le T0 H0 T H) (hp0 : H0 p = none) (np : p ∉ T.ν) (hH : ∃ u, H p = some u) (l : Le (T.forb p) H T1 H1) : ∃ T2 : Tk, T2.μ = T1.μ ∧ p ∉ T2.ν ∧ (∀ a, a ∈ (T2.forb p).ν ↔ a ∈ T1.ν) ∧ Le T0 H0 T2 H1 := by
  obtain ⟨u, hu⟩ := hH
  have npμ : p ∉ T1.μ := fun z => by
    have := l.newμ p z (fun y => np (T.sub p y))
    rw [hu] at this
    cases this
  refine ⟨⟨T1.μ, T1.ν.filter (· ≠ p), fun a h => List.mem_filter.mpr ⟨T1.sub a h, by simp; rintro rfl; exact npμ h⟩⟩, rfl, by simp, fun a => ?_, ?_⟩
  · show a ∈ p :: T1.ν.filter (· ≠ p) ↔ _
    by_cases ha : a = p
    · subst ha
      simp
      exact l.up _ (List.mem_cons_self ..)
    · simp [ha]
  · refine ⟨l0.pre.trans l.pre, fun a v h n => ?_, fun a ha n => ?_, fun a ha n => ?_, fun a h => ?_⟩
    · have h1 : a ∉ T.μ := fun z => by rw [l0.newμ a z n] at h; cases h
      exact l.keep a v (l0.keep a v h n) h1
    · obtain ⟨ha, hne⟩ := List.mem_filter.mp ha
      cases e : H0 a with
      | none => rfl
      | some v =>
        have n1 : a ∉ T.ν := l0.out e n
        have := l.new a ha (fun z => by rcases List.mem_cons.mp z with z | z; simp [z] at hne; exact n1 z)
        rw [l0.keep a v e (Tk.out n)] at this
        cases this
    · cases e : H0 a with
      | none => rfl
      | some v =>
        have h1 : a ∉ T.μ := fun z => by rw [l0.newμ a z n] at e; cases e
        have := l.newμ a ha h1
        rw [l0.keep a v e n] at this
        cases this
    · refine List.mem_filter.mpr ⟨l.up a (List.mem_cons_of_mem _ (l0.up a h)), ?_⟩
      have : a ≠ p := by rintro rfl; exact np (l0.up _ h)
      simpa using this
/-- one element more -/
theorem Made.app {p : Addr} {T0 : Tk} {H0 : Hp} {ds : List D} {d : D} {v : V} (l0 : Le T0 H0 T H) (hp0 : H0 p = none) (k : Made g T H m p ds) (r : Rep g (T.forb p) H d v) {vs : List V} (hv : H p = some (.lst vs)) :
    Made g T (upd H p (.lst (vs ++ [v]))) m p (ds ++ [d]) ∧ Le T0 H0 T (upd H p (.lst (vs ++ [v]))) := by
  obtain ⟨np, hm, ws, hw, rl⟩ := k
  rw [hv] at hw
  cases hw
  have hp : p ∈ (T.forb p).ν := List.mem_cons_self ..
  refine ⟨⟨np, ⟨hm.len, hm.nd, fun a ha => ?_, fun n a o h1 h2 => (hm.at_ n a o h1 h2).upF hp ?_⟩, _, upd_same, (RepL.upF hp _ rl).append (.cons (Rep.upF hp _ r) .nil)⟩, ⟨l0.pre, fun a u h n => ?_, l0.new, l0.newμ, l0.up⟩⟩
  · by_cases z : a = p
    · rw [z]; exact ⟨_, upd_same, trivial⟩
    · obtain ⟨u, e, q⟩ := hm.has a ha
      exact ⟨u, by rw [upd_ne z]; exact e, q⟩
  · rintro rfl
    exact np (T.sub _ (List.mem_of_getElem? h1))
  · rw [upd_ne (ne_of_none h hp0)]
    exact l0.keep a u h n
/-- the list is done -/
theorem Made.done {p : Addr} {T0 : Tk} {H0 : Hp} {ds : List D} (l0 : Le T0 H0 T H) (k : Made g T H m p ds) : RepH g T H m ∧ Rep g T H (.lst ds) (.ref p) := by
  obtain ⟨np, hm, ws, hw, rl⟩ := k
  have sub : ∀ a ∈ T.ν, a ∈ (T.forb p).ν := fun a h => List.mem_cons_of_mem _ h
  exact ⟨⟨hm.len, hm.nd, fun a h => hm.has a (sub a h), fun n a o h1 h2 => RepO.wk (T := T.forb p) (T' := T) rfl sub (hm.at_ n a o h1 h2)⟩, .lst ⟨np, hw⟩ (RepL.wk (T := T.forb p) (T' := T) rfl sub _ rl)⟩
theorem Made.step {p : Addr} {T0 T1 : Tk} {H0 H1 : Hp} {ds : List D} {m1 : M} (l0 : Le T0 H0 T H) (hp0 : H0 p = none) (k : Made g T H m p ds) (l : Le (T.forb p) H T1 H1) (hm : RepH g T1 H1 m1) :
    ∃ T2 : Tk, Le T0 H0 T2 H1 ∧ Made g T2 H1 m1 p ds ∧ T2.μ = T1.μ ∧ ∀ a, a ∈ (T2.forb p).ν ↔ a ∈ T1.ν := by
  obtain ⟨np, _, ws, hw, rl⟩ := k
  obtain ⟨T2, e1, e2, e3, l2⟩ := l0.unforb hp0 np ⟨_, hw⟩ l
  refine ⟨T2, l2, ⟨e2, ⟨by rw [← hm.len]; exact congrArg List.length e1, by show T2.μ.Nodup; rw [e1]; exact hm.nd, fun a h => hm.has a ((e3 a).mp h), fun n a o h1 h2 => ?_⟩, ws, l.keep _ _ hw (fun y => np (T.sub p y)), ?_⟩, e1, e3⟩
  · exact RepO.wk (T := T1) (T' := T2.forb p) e1 (fun a h => (e3 a).mp h) (hm.at_ n a o (by rw [← e1]; exact h1) h2)
  · exact RepL.wk (T := T1) (T' := T2.forb p) e1 (fun a h => (e3 a).mp h) _ (rl.le l)
/-! slots -/
def setMany {α : Type} (σ : List (Option α)) : List Nat → List α → List (Option α)
  | i :: is, v :: vs => setMany (σ.set i (some v)) is vs
  | _, _ => σ
theorem wipe_set {i : Nat} {x : Option V} : ∀ {vs : List Nat} {σ : L2.St}, i ∈ vs → wipe (σ.set i x) vs = wipe σ vs := by
  intro vs
  induction vs with
  | nil => intro σ h; cases h
  | cons v vs ih =>
    intro σ h
    unfold wipe
    by_cases hi : i ∈ vs
    · rw [ih hi]
    · have e : i = v := by rcases List.mem_cons.mp h with z | z; exact z; exact absurd z hi
      subst e
      have key : ∀ (us : List Nat) (τ : L2.St), i ∉ us → wipe (τ.set i x) us = (wipe τ us).set i x := by
        intro us
        induction us with
        | nil => intro τ _; rfl
        | cons u us ih2 =>
          intro τ hu
          unfold wipe
          rw [ih2 τ (fun z => hu (List.mem_cons_of_mem _ z)), List.set_comm _ _ (fun z => hu (by rw [z]; exact List.mem_cons_self ..))]
      rw [key vs σ hi, List.set_set]
theorem wipe_wipe {vs : List Nat} {σ : L2.St} : ∀ us : List Nat, (∀ u ∈ us, u ∈ vs) → wipe (wipe σ us) vs = wipe σ vs
  | [], _ => rfl
  | u :: us, h => by
    show wipe ((wipe σ us).set u none) vs = _
    rw [wipe_set (h u (List.mem_cons_self ..)), wipe_wipe us fun w hw => h w (List.mem_cons_of_mem _ hw)]
theorem wipe_many {vs : List Nat} : ∀ (is : List Nat) (ws : List V) (σ : L2.St), (∀ u ∈ is, u ∈ vs) → wipe (setMany σ is ws) vs = wipe σ vs
  | [], _, _, _ => rfl
  | i :: is, [], _, _ => rfl
  | i :: is, w :: ws, σ, h => by
    show wipe (setMany (σ.set i (some w)) is ws) vs = _
    rw [wipe_many is ws _ fun u hu => h u (List.mem_cons_of_mem _ hu), wipe_set (h i (List.mem_cons_self ..))]
theorem many_len {α : Type} : ∀ (is : List Nat) (ws : List α) (σ : List (Option α)), (setMany σ is ws).length = σ.length
  | [], _, _ => rfl
  | i :: is, [], _ => rfl
  | i :: is, w :: ws, σ => by
    show (setMany (σ.set i (some w)) is ws).length = _
    rw [many_len]
    simp
theorem wipe_other {i : Nat} : ∀ {vs : List Nat} {σ : L2.St}, i ∉ vs → (wipe σ vs)[i]? = σ[i]?
  | [], _, _ => rfl
  | v :: vs, σ, h => by
    show ((wipe σ vs).set v none)[i]? = _
    rw [List.getElem?_set_ne (fun z => h (by rw [z]; exact List.mem_cons_self ..)), wipe_other fun z => h (List.mem_cons_of_mem _ z)]
theorem many_other {α : Type} {i : Nat} : ∀ {is : List Nat} {ws : List α} {σ : List (Option α)}, i ∉ is → (setMany σ is ws)[i]? = σ[i]?
  | [], _, _, _ => rfl
  | j :: is, [], _, _ => rfl
  | j :: is, w :: ws, σ, h => by
    show (setMany (σ.set j (some w)) is ws)[i]? = _
    rw [many_other fun z => h (List.mem_cons_of_mem _ z), List.getElem?_set_ne (fun z => h (by rw [z]; exact List.mem_cons_self ..))]
theorem RepS.many {σ : L2.St} {ρ : Ss} : ∀ {is : List Nat} {ds : List D} {vs : List V}, RepS g T H σ ρ → RepL g T H ds vs → RepS g T H (setMany σ is vs) (setMany ρ is ds)
  | [], _, _, h, _ => h
  | i :: is, _, _, h, .nil => h
  | i :: is, _, _, h, .cons r s => RepS.many (is := is) (RepS.set (i := i) h r) s
/-- the slots that are set are the ones that were wiped -/
theorem many_wiped {is : List Nat} {ds : List D} {vs : List V} {σ : L2.St} {ρ : Ss} (h : RepS g T H σ ρ) (r : RepL g T H ds vs) (hl : is.length = ds.length) : RepS g T H (setMany (wipe σ is) is vs) (setMany ρ is ds) := by
  have h0 : RepS g T H (setMany σ is vs) (setMany ρ is ds) := h.many r
  refine ⟨by rw [many_len, many_len, wipe_length]; exact h.len, fun i d e => ?_⟩
  obtain ⟨v, e1, q⟩ := h0.at_ i d e
  refine ⟨v, ?_, q⟩
  by_cases hi : i ∈ is
  · have key : ∀ (is : List Nat) (vs : List V) (σ τ : L2.St), σ.length = τ.length → is.length = vs.length → i ∈ is → (setMany σ is vs)[i]? = (setMany τ is vs)[i]? := by
      intro is
      induction is with
      | nil => intro vs σ τ _ _ hi; cases hi
      | cons j is ih =>
        intro vs σ τ hl hs hi
        cases vs with
        | nil => cases hs
        | cons w vs =>
          show (setMany (σ.set j (some w)) is vs)[i]? = (setMany (τ.set j (some w)) is vs)[i]?
          by_cases hj : i ∈ is
          · exact ih vs _ _ (by simpa using hl) (by simpa using hs) hj
          · rw [many_other hj, many_other hj]
            rcases List.mem_cons.mp hi with rfl | z
            · by_cases hb : i < σ.length
              · rw [List.getElem?_set_self hb, List.getElem?_set_self (by omega)]
              · rw [List.getElem?_eq_none (by simp; omega), List.getElem?_eq_none (by simp; omega)]
            · exact absurd z hj
    rw [key is vs (wipe σ is) σ (wipe_length _ _) (by rw [hl, r.length]) hi]
    exact e1
  · rw [many_other hi, wipe_other hi]
    rw [many_other hi] at e1
    exact e1
/-! targets of comprehensions -/
def unpk (n : Nat) (d : D) : Option (List D) := match d with
  | .tup ds => if ds.length = n then some ds else none
  | _ => none
inductive Tgt where
  | one (i : Nat) | many (is : List Nat)
def Tgt.is : Tgt → List Nat
  | .one i => [i]
  | .many is => is
def Tgt.un : Tgt → D → Option (List D)
  | .one _, d => some [d]
  | .many is, d => unpk is.length d
structure DGn (X : Cx) (e : Expr) (t : Tgt) : Prop where
  ex : ∃ tg, PG X e tg ∧ ∀ T σ H d v ds, Rep (gx X) T H d v → t.un d = some ds → ∀ Q, (∀ vs, RepL (gx X) T H ds vs → Q (setMany σ t.is vs) H) → tg v σ H Q
theorem dgn_name {i : Nat} {x : Str} (hN : X.N.Nodup) (hi : X.N[i]? = some x) (hx : Loc X.env.scope x) (hf : X.fn x = true ∨ X.env.scope.names.lookup x = some .local := by first | exact .inl rfl | exact .inr rfl | assumption) : DGn X (.Name x pos) (.one i) :=
  ⟨_, pg_name hN hi hx hf, fun T σ H d v ds r h Q k => by cases h; exact k [v] (.cons r .nil)⟩
structure DGns (X : Cx) (es : List Expr) (is : List Nat) : Prop where
  ex : ∃ tg, PGs X es tg ∧ ∀ vs σ H, vs.length = is.length → ∀ Q, Q (setMany σ is vs) H → tg vs σ H Q
theorem dgns_nil : DGns X [] [] := ⟨_, pgs_nil, fun vs σ H h Q k => ⟨List.eq_nil_of_length_eq_zero h, by cases vs; exact k; cases h⟩⟩
theorem dgns_cons {i : Nat} {x : Str} {es : List Expr} {is : List Nat} (hN : X.N.Nodup) (hi : X.N[i]? = some x) (hx : Loc X.env.scope x) (h2 : DGns X es is) (hf : X.fn x = true ∨ X.env.scope.names.lookup x = some .local := by first | exact .inl rfl | exact .inr rfl | assumption)
    (hs : (assignEach (.Name x pos :: es) X.env).map (·.2) = assign (.Name x pos) X.env :: (assignEach es X.env).map (·.2) := by rfl) : DGns X (.Name x pos :: es) (i :: is) := by
  obtain ⟨tg, pg, rg⟩ := h2.ex
  refine ⟨_, pgs_cons (pg_name hN hi hx hf) pg hs, fun vs σ H h Q k => ?_⟩
  cases vs with
  | nil => cases h
  | cons v vs => exact ⟨v, vs, rfl, rg vs _ H (by simpa using h) Q k⟩
theorem dgn_tup {es : List Expr} {k : Nat} {is : List Nat} (hc : X.calm = true) (h : DGns X es is)
    (hn : (assignEach es X.env).length = is.length := by rfl) (hst : (assignEach es X.env).findIdx? (·.1) = none := by rfl) : DGn X (.Tuple es k pos) (.many is) := by
  obtain ⟨tg, pg, rg⟩ := h.ex
  refine ⟨_, pg_tup hc pg hn hst, fun T σ H d v ds r h Q k => ?_⟩
  change unpk is.length d = some ds at h
  unfold unpk at h
  split at h
  · obtain ⟨hl, h⟩ := ite_some h
    cases h
    obtain ⟨a, vs, rfl, hx, rl⟩ := tup_rep r
    exact ⟨a, vs, rfl, hx, by rw [← rl.length]; exact hl, rg vs σ H (by rw [← rl.length]; exact hl) Q (k vs rl)⟩
  · cases h
/-- as the target of an assignment or a loop -/
def gTgt (t : Tgt) : GF := fun d ρ m => match t.un d with
  | some ds => some (setMany ρ t.is ds, m)
  | none => none
theorem dg_of {e : Expr} {t : Tgt} (h : DGn X e t) : DG X e (gTgt t) := by
  obtain ⟨tg, pg, rg⟩ := h.ex
  refine ⟨_, pg, fun T σ H ρ m d v ρ' m' hm hs r hf Q k => ?_⟩
  unfold gTgt at hf
  split at hf
  · next ds h1 =>
    cases hf
    exact rg T σ H d v ds r h1 Q fun vs rl => k _ T H .refl hm (hs.many rl)
  · cases hf
/-! comprehensions -/
/-- an object that stood by itself is tracked from now on -/
theorem trackIt {p : Addr} {o : O} {T3 : Tk} (hm : RepH g T H m) (hp : p ∈ T.ν) (np : p ∉ T.μ) (e : T3.μ = T.μ ++ [p]) (e3 : ∀ a ∈ T3.ν, a ∈ T.ν) (ho : RepO g T3 H p o) : RepH g T3 H (m ++ [o]) := by
  have pre : T.μ <+: T3.μ := by rw [e]; exact List.prefix_append _ _
  refine ⟨by rw [e]; simp [hm.len], ?_, fun a ha => hm.has a (e3 a ha), fun n a o' h1 h2 => ?_⟩
  · rw [e]
    exact List.nodup_append.mpr ⟨hm.nd, by simp, fun a ha b hb => by rw [List.mem_singleton.mp hb]; rintro rfl; exact np ha⟩
  · rw [e] at h1
    by_cases hn : n < T.μ.length
    · rw [List.getElem?_append_left hn] at h1
      rw [List.getElem?_append_left (by rw [← hm.len]; exact hn)] at h2
      exact (hm.at_ n a o' h1 h2).ext pre e3
    · rw [List.getElem?_append_right (by omega)] at h1
      rw [List.getElem?_append_right (by rw [← hm.len]; omega), ← hm.len] at h2
      generalize n - T.μ.length = k at h1 h2
      cases k with
      | zero => cases h1; cases h2; exact ho
      | succ k => cases h1
theorem Le.pushed {p : Addr} {T0 : Tk} {H0 : Hp} (l : Le T0 H0 T H) (hp0 : H0 p = none) : Le T0 H0 (T.push p) H := by
  refine ⟨l.pre.trans (List.prefix_append _ _), l.keep, fun a ha n => ?_, fun a ha n => ?_, fun a h => List.mem_append_left _ (l.up a h)⟩
  · rcases List.mem_append.mp ha with z | z
    · exact l.new a z n
    · rw [List.mem_singleton.mp z]; exact hp0
  · rcases List.mem_append.mp ha with z | z
    · exact l.newμ a z n
    · rw [List.mem_singleton.mp z]; exact hp0
theorem forb_push {p a : Addr} : a ∈ (T.push p).ν → a ∈ (T.forb p).ν := fun h => by
  rcases List.mem_append.mp h with z | z
  · exact List.mem_cons_of_mem _ z
  · rw [List.mem_singleton.mp z]; exact List.mem_cons_self ..
theorem Made.track {p : Addr} {T0 : Tk} {H0 : Hp} {ds : List D} (l0 : Le T0 H0 T H) (hp0 : H0 p = none) (k : Made g T H m p ds) : Le T0 H0 (T.push p) H ∧ RepH g (T.push p) H (m ++ [.lst ds]) ∧ Rep g (T.push p) H (.ref m.length) (.ref p) := by
  obtain ⟨np, hm, ws, hw, rl⟩ := k
  have sub : ∀ a ∈ (T.push p).ν, a ∈ (T.forb p).ν := fun a h => forb_push h
  have l : T.μ.length = m.length := hm.len
  refine ⟨l0.pushed hp0, trackIt (T := T.forb p) hm (List.mem_cons_self ..) (fun z => np (T.sub p z)) rfl sub (.lst hw (RepL.ext (T := T.forb p) (List.prefix_append _ _) sub _ rl)), .ref ?_⟩
  show (T.μ ++ [p])[m.length]? = some p
  rw [← l, List.getElem?_append_right (Nat.le_refl _)]
  simp
def compGo (t : Tgt) (c : TF) (e : EF) (ρ : Ss) : List D → M → Option (List D × M)
  | [], m => some ([], m)
  | x :: xs, m => match t.un x with
    | some ds => bd (c (setMany ρ t.is ds) m) fun b m1 => if b then bd (e (setMany ρ t.is ds) m1) fun y m2 => bd (compGo t c e ρ xs m2) fun ys m3 => some (y :: ys, m3) else compGo t c e ρ xs m1
    | none => none
def eLcK (nw : Bool) (it : AF) (t : Tgt) (c : TF) (e : EF) : EF := fun ρ m => bd (it ρ m) fun xs m1 => if xs.length ≤ 1000000 then bd (compGo t c e ρ xs m1) fun ys m2 => some (bif nw then (.ref m2.length, m2 ++ [.lst ys]) else (.lst ys, m2)) else none
theorem Tgt.un_len {t : Tgt} {d : D} {ds : List D} (h : t.un d = some ds) : t.is.length = ds.length := by
  cases t with
  | one i => cases h; rfl
  | many is =>
    change unpk is.length d = some ds at h
    unfold unpk at h
    split at h
    · obtain ⟨hl, h⟩ := ite_some h; cases h; exact hl.symm
    · cases h
theorem rf_lc {wi : TI} {it : AF} {t : Tgt} {tg : TG} {tt : TT} {te : TE} {c : TF} {e : EF} (hi : RfI g wi it) (hg : ∀ T σ H d v ds, Rep g T H d v → t.un d = some ds → ∀ Q, (∀ vs, RepL g T H ds vs → Q (setMany σ t.is vs) H) → tg v σ H Q)
    (hc : RfT g tt c) (he : RfE g te e) {is : List Nat} (his : is = t.is) {nw : Bool} : RfE g (tLc wi tg tt te is) (eLcK nw it t c e) := by
  subst his
  intro T σ H ρ m d m' hm hs hf Q k
  obtain ⟨xs, m1, e1, hf⟩ := bd_some hf
  obtain ⟨hz, hf⟩ := ite_some hf
  obtain ⟨ys, mz, e2, hf⟩ := bd_some hf
  have hf := Option.some.inj hf
  refine hi T σ H ρ m xs m1 hm hs e1 _ fun J T0 H0 l0 hm0 ok p hp => ?_
  have hs0 := hs.le l0
  obtain ⟨md, lf⟩ := Made.new hm0 hp
  have start : Le T0 H0 T0 (upd H0 p (.lst [])) := ⟨List.prefix_rfl, fun a u e _ => by rw [upd_ne (ne_of_none e hp)]; exact e, fun a h n => absurd h n, fun a h n => absurd h n, fun a h => h⟩
  refine ⟨fun i j H1 => i + j = xs.length ∧ ∃ T1 m1 ds rest, Le T0 H0 T1 H1 ∧ Made g T1 H1 m1 p ds ∧ ds.length ≤ i ∧ RepS g (T1.forb p) H1 σ ρ ∧ compGo t c e ρ (xs.drop i) m1 = some (rest, mz) ∧ ys = ds ++ rest, ⟨xs.length, by simp, T0, m1, [], ys, start, md, Nat.le_refl _, hs0.le lf, by simpa using e2, rfl⟩, ?_⟩
  rintro i j H1 ⟨hij, T1, m1', ds, rest, l1, md1, hdl, hs1, hf1, hy⟩
  obtain ⟨vs1, hv1, rl1⟩ := md1.at_
  have okT : ItOk g (T1.forb p) H1 J xs := fun T2 H2 l2 mm hmm => ok (⟨T2.μ, T2.ν, T2.sub⟩) H2 (by
    refine ⟨l1.pre.trans l2.pre, fun a u h n => l2.keep a u (l1.keep a u h n) fun z => ?_, fun a ha n => ?_, fun a ha n => ?_, fun a h => l2.up a (List.mem_cons_of_mem _ (l1.up a h))⟩
    · rw [l1.newμ a z n] at h; cases h
    · cases e : H0 a with
      | none => rfl
      | some u =>
        have n1 : a ∉ (T1.forb p).ν := fun z => by
          rcases List.mem_cons.mp z with rfl | z
          · rw [hp] at e; cases e
          · exact l1.out e n z
        have := l2.new a ha n1
        rw [l1.keep a u e (Tk.out n)] at this
        cases this
    · cases e : H0 a with
      | none => rfl
      | some u =>
        have n1 : a ∉ T1.μ := fun z => by rw [l1.newμ a z n] at e; cases e
        have := l2.newμ a ha n1
        rw [l1.keep a u e n] at this
        cases this) mm hmm
  obtain ⟨okG, okS⟩ := okT (T1.forb p) H1 .refl m1' md1.hm i
  cases j with
  | zero =>
    left
    rw [List.drop_of_length_le (by omega)] at hf1
    cases hf1
    rw [List.append_nil] at hy
    subst hy
    refine ⟨okS (by omega), ?_⟩
    cases nw with
    | false =>
      cases hf
      obtain ⟨hmd, rd⟩ := md1.done l1
      exact k _ T1 H1 (l0.trans l1) hmd rd
    | true =>
      cases hf
      obtain ⟨l3, hmd, rd⟩ := md1.track l1 hp
      exact k _ _ H1 (l0.trans l3) hmd rd
  | succ j =>
    right
    have hi' : i < xs.length := by omega
    rw [List.drop_eq_getElem_cons hi'] at hf1
    obtain ⟨go, yl⟩ := okG xs[i] (List.getElem?_eq_getElem hi')
    refine ⟨go, _, fun _ q => q, fun x H2 y2 => ?_⟩
    obtain ⟨T2, l2, hm2, r2⟩ := yl x H2 y2
    unfold compGo at hf1
    split at hf1
    · next es hes =>
      obtain ⟨b, m3, e3, hf3⟩ := bd_some hf1
      refine hg T2 (wipe σ t.is) H2 xs[i] x es r2 hes _ fun vs rv => ⟨?_, ?_⟩
      · rw [wipe_many t.is vs _ fun u hu => hu, wipe_wipe t.is fun u hu => hu]
      · have hs2 : RepS g T2 H2 (setMany (wipe σ t.is) t.is vs) (setMany ρ t.is es) := many_wiped (hs1.le l2) rv (Tgt.un_len hes)
        refine hc T2 _ H2 _ m1' b m3 hm2 hs2 e3 _ fun T3 H3 l3 hm3 => ?_
        cases b with
        | false =>
          obtain ⟨T4, l4, md4, e4, e5⟩ := md1.step l1 hp (l2.trans l3) hm3
          exact ⟨j, Nat.lt_succ_self _, by omega, T4, m3, ds, rest, l4, md4, by omega, ⟨hs1.len, fun q d hq => by
            obtain ⟨v, h1, h2⟩ := (hs1.le (l2.trans l3)).at_ q d hq
            exact ⟨v, h1, Rep.wk (T' := T4.forb p) e4 (fun a h => (e5 a).mp h) _ h2⟩⟩, hf3, hy⟩
        | true =>
          obtain ⟨y, m4, e6, hf4⟩ := bd_some hf3
          obtain ⟨ys', m5, e7, hf5⟩ := bd_some hf4
          cases hf5
          refine he T3 _ H3 _ m3 y m4 hm3 (hs2.le l3) e6 _ fun v T4 H4 l4 hm4 r4 => ?_
          obtain ⟨T5, l5, md5, e8, e9⟩ := md1.step l1 hp (l2.trans (l3.trans l4)) hm4
          obtain ⟨vs5, hv5, _⟩ := md5.at_
          have r5 : Rep g (T5.forb p) H4 y v := Rep.wk (T' := T5.forb p) e8 (fun a h => (e9 a).mp h) _ r4
          obtain ⟨md6, l6⟩ := md5.app l5 hp r5 hv5
          have hl5 : vs5.length = ds.length := by
            obtain ⟨w, hw, q⟩ := md5.at_
            rw [hv5] at hw
            cases hw
            exact q.length.symm
          refine ⟨vs5, hv5, ?_, j, Nat.lt_succ_self _, by omega, T5, m4, ds ++ [y], ys', l6, md6, by simp; omega, ⟨hs1.len, fun q d hq => ?_⟩, e7, by rw [hy]; simp⟩
          · rw [hl5, sizeLine_eq]; omega
          · obtain ⟨w, h1, h2⟩ := (hs1.le (l2.trans (l3.trans l4))).at_ q d hq
            exact ⟨w, h1, Rep.upF (List.mem_cons_self ..) _ (Rep.wk (T' := T5.forb p) e8 (fun a h => (e9 a).mp h) _ h2)⟩
    · cases hf1
end
end L4

namespace L4
open PySem L2
section
variable {X : Cx} {g : G} {T T' : Tk} {H : Hp} {m : M} {Q : VK} {pos : Pos}
/-! comprehensions -/
structure DTs (X : Cx) (ifs : List Expr) (f : TF) : Prop where
  ex : ∃ t, PTs X ifs t ∧ RfT (gx X) t f
def tTrue : TF := fun _ m => some (true, m)
theorem dts_nil : DTs X [] tTrue := ⟨_, pts_nil, fun T σ H ρ m b m' hm hs hf Q k => by cases hf; exact k T H .refl hm⟩
theorem dts_one {c : Expr} {f : TF} (h : DT X c f) : DTs X [c] f := by
  obtain ⟨t, p, r⟩ := h.ex
  exact ⟨_, pts_one p, r⟩
/-- the readings of a block's parts hang on nothing of the block -/
structure DB {α : Type} (X : Cx) (scope : Scope) (P : Cx → α → Prop) (t : α) : Prop where
  all : ∀ (s : Shared) (H : Hp) (C : Addr) (cl : List (Str × Addr)) (fp : List Addr), P (X.blk s H scope (compEnvC scope cl C X.env) fp) t
theorem wpE {X : Cx} {e : Expr} {f : EF} (h : DE X e f) : PE X e (fun σ H Q => ∃ t, PE X e t ∧ t σ H Q) := ⟨fun pins s σ H Q I ⟨t, p, q⟩ => p.run pins s σ H Q I q⟩
theorem de_lc {nw : Bool} {elt tg iter : Expr} {ifs : List Expr} {scope : Scope} {own : List (Str × Nat)} {fi : AF} {t : Tgt} {fc : TF} {fe : EF} (hc : X.calm = true) (hN : X.N.Nodup) (hi : DI X tg iter fi) (ok : BlkOk X.N X.env.scope scope own)
    (hg : ∀ (s : Shared) (H : Hp) (C : Addr) (cl : List (Str × Addr)) (fp : List Addr), DGn (X.blk s H scope (compEnvC scope cl C X.env) fp) tg t) (ht : ∀ (s : Shared) (H : Hp) (C : Addr) (cl : List (Str × Addr)) (fp : List Addr), DTs (X.blk s H scope (compEnvC scope cl C X.env) fp) ifs fc)
    (he : ∀ (s : Shared) (H : Hp) (C : Addr) (cl : List (Str × Addr)) (fp : List Addr), DE (X.blk s H scope (compEnvC scope cl C X.env) fp) elt fe) (hq : own.map (·.2) = t.is := by rfl) (hs : ∀ x, foldedSetIterable iter X.env x = pure x := by intro _; rfl) :
    DE X (.ListComp elt [⟨tg, iter, ifs, 0⟩] scope pos) (eLcK nw fi t fc fe) := by
  obtain ⟨ti, pi, ri⟩ := hi.ex
  refine ⟨_, pe_lc (g := fun v σ H Q => ∀ s H' C cl fp, ∃ t, PG (X.blk s H' scope (compEnvC scope cl C X.env) fp) tg t ∧ t v σ H Q) (tt := fun σ H Q => ∀ s H' C cl fp, ∃ t, PTs (X.blk s H' scope (compEnvC scope cl C X.env) fp) ifs t ∧ t σ H Q)
    (te := fun σ H Q => ∀ s H' C cl fp, ∃ t, PE (X.blk s H' scope (compEnvC scope cl C X.env) fp) elt t ∧ t σ H Q) hc hN pi ok (fun s H C cl fp => ⟨fun pins s1 σ H1 v u Q I r h => ?_⟩) (fun s H C cl fp => ⟨fun pins s1 σ H1 Q I h => ?_⟩) (fun s H C cl fp => ⟨fun pins s1 σ H1 Q I h => ?_⟩) hs, ?_⟩
  · obtain ⟨t, p, q⟩ := h s H C cl fp
    exact p.run pins s1 σ H1 v u Q I r q
  · obtain ⟨t, p, q⟩ := h s H C cl fp
    exact p.run pins s1 σ H1 Q I q
  · obtain ⟨t, p, q⟩ := h s H C cl fp
    exact p.run pins s1 σ H1 Q I q
  · refine rf_lc ri ?_ ?_ ?_ hq
    · intro T σ H d v ds r hu Q k s H' C cl fp
      obtain ⟨t, p, q⟩ := (hg s H' C cl fp).ex
      exact ⟨t, p, q T σ H d v ds r hu Q k⟩
    · intro T σ H ρ m b m' hm hs hf Q k s H' C cl fp
      obtain ⟨t, p, q⟩ := (ht s H' C cl fp).ex
      exact ⟨t, p, q T σ H ρ m b m' hm hs hf Q k⟩
    · intro T σ H ρ m b m' hm hs hf Q k s H' C cl fp
      obtain ⟨t, p, q⟩ := (he s H' C cl fp).ex
      exact ⟨t, p, q T σ H ρ m b m' hm hs hf Q k⟩
theorem ds_setLc {nw : Bool} {i : Nat} {y : Str} {py : Pos} {elt tg iter : Expr} {ifs : List Expr} {scope : Scope} {own : List (Str × Nat)} {spos : Pos} {fi : AF} {t : Tgt} {fc : TF} {fe : EF} (hc : X.calm = true) (hN : X.N.Nodup) (hy : X.N[i]? = some y) (hyl : X.env.scope.names.lookup y = some .local)
    (hsw : swapsWith (.ListComp elt [⟨tg, iter, ifs, 0⟩] scope pos) (some (.Name y py)) spos.line X.env = pure true) (hi : DI X tg iter fi) (ok : BlkOk X.N X.env.scope scope own)
    (hg : ∀ (s : Shared) (H : Hp) (C : Addr) (cl : List (Str × Addr)) (fp : List Addr), DGn (X.blk s H scope (compEnvC scope cl C X.env) fp) tg t) (ht : ∀ (s : Shared) (H : Hp) (C : Addr) (cl : List (Str × Addr)) (fp : List Addr), DTs (X.blk s H scope (compEnvC scope cl C X.env) fp) ifs fc)
    (he : ∀ (s : Shared) (H : Hp) (C : Addr) (cl : List (Str × Addr)) (fp : List Addr), DE (X.blk s H scope (compEnvC scope cl C X.env) fp) elt fe) (hq : own.map (·.2) = t.is := by rfl) (hs : ∀ x, foldedSetIterable iter X.env x = pure x := by intro _; rfl) :
    DS X (.Assign [.Name y py] (.ListComp elt [⟨tg, iter, ifs, 0⟩] scope pos) spos) (sAsg (eLcK nw fi t fc fe) (gNm i)) := by
  obtain ⟨ti, pi, ri⟩ := hi.ex
  refine ⟨_, ps_setLc (g := fun v σ H Q => ∀ s H' C cl fp, ∃ t, PG (X.blk s H' scope (compEnvC scope cl C X.env) fp) tg t ∧ t v σ H Q) (tt := fun σ H Q => ∀ s H' C cl fp, ∃ t, PTs (X.blk s H' scope (compEnvC scope cl C X.env) fp) ifs t ∧ t σ H Q)
    (te := fun σ H Q => ∀ s H' C cl fp, ∃ t, PE (X.blk s H' scope (compEnvC scope cl C X.env) fp) elt t ∧ t σ H Q) hc hN hy hyl hsw pi ok (fun s H C cl fp => ⟨fun pins s1 σ H1 v u Q I r h => ?_⟩) (fun s H C cl fp => ⟨fun pins s1 σ H1 Q I h => ?_⟩) (fun s H C cl fp => ⟨fun pins s1 σ H1 Q I h => ?_⟩) hs, rf_asg ?_ ?_⟩
  · obtain ⟨t, p, q⟩ := h s H C cl fp
    exact p.run pins s1 σ H1 v u Q I r q
  · obtain ⟨t, p, q⟩ := h s H C cl fp
    exact p.run pins s1 σ H1 Q I q
  · obtain ⟨t, p, q⟩ := h s H C cl fp
    exact p.run pins s1 σ H1 Q I q
  · refine rf_lc ri ?_ ?_ ?_ hq
    · intro T σ H d v ds r hu Q k s H' C cl fp
      obtain ⟨t, p, q⟩ := (hg s H' C cl fp).ex
      exact ⟨t, p, q T σ H d v ds r hu Q k⟩
    · intro T σ H ρ m b m' hm hs hf Q k s H' C cl fp
      obtain ⟨t, p, q⟩ := (ht s H' C cl fp).ex
      exact ⟨t, p, q T σ H ρ m b m' hm hs hf Q k⟩
    · intro T σ H ρ m b m' hm hs hf Q k s H' C cl fp
      obtain ⟨t, p, q⟩ := (he s H' C cl fp).ex
      exact ⟨t, p, q T σ H ρ m b m' hm hs hf Q k⟩
  · exact fun T σ H ρ m d v ρ' m' hm hs r hf Q k => by cases hf; exact k _ T H .refl hm (hs.set r)
/-! what is walked -/
def iAny (K : PySem.W.Frag) (te : TE) : TI := fun σ H R => te σ H fun v H1 => (∃ a, v = .ref a ∧ (∃ xs, SqL K H1 a xs) ∧ R (Itl K a) H1) ∨ (∃ a, v = .ref a ∧ (∃ xs, SqT K H1 a xs) ∧ R (Itt K a) H1) ∨ ∃ x, v = .str x ∧ R (Its x) H1
theorem pi_any {tg e : Expr} {te : TE} (he : PE X e te) : PI X tg e (iAny X.K te) := by
  refine ⟨fun pins s σ H R I h => ?_⟩
  refine thn (he.run pins s σ H _ I h) fun v s1 ⟨y, H1, I1, r1, hq⟩ => ?_
  rcases hq with ⟨a, rfl, ⟨xs, hx⟩, q⟩ | ⟨a, rfl, ⟨xs, hx⟩, q⟩ | ⟨x, rfl, q⟩
  · cases r1
    obtain ⟨its, rv, p, hz⟩ := I1.list hx
    exact wpAny_pyIter_list p.isList (pi_one (tk := s1.toks) I1 _ (turn_list a _) ⟨_, Heap.get?_push_size _ rfl, rfl, rfl⟩ q)
  · cases r1
    obtain ⟨its, rv, p, hz⟩ := I1.tuple hx
    exact wpAny_pyIter_tuple (show s1.heap.IsTuple a its.toArray from p) (pi_one (tk := s1.toks) I1 _ (turn_tuple a _) ⟨_, Heap.get?_push_size _ rfl, rfl, rfl⟩ q)
  · obtain ⟨t, rfl⟩ := r1
    cases ha : x.cps.all (· < 128)
    · exact wpAny_pyIter_wide ha (pi_one (tk := s1.toks) I1 _ (turn_str _ x t "str_iterator" (.inr rfl)) ⟨_, Heap.get?_push_size _ rfl, rfl, rfl⟩ q)
    · exact wpAny_pyIter_ascii ha (pi_one (tk := s1.toks) I1 _ (turn_str _ x t "str_ascii_iterator" (.inl rfl)) ⟨_, Heap.get?_push_size _ rfl, rfl, rfl⟩ q)
theorem RepL.none {ds : List D} {vs : List V} {i : Nat} (r : RepL g T H ds vs) (h : ds.length ≤ i) : vs.length ≤ i := by rw [← r.length]; exact h
theorem itok_L {a : Addr} {ds : List D} (h : ∀ T1 H1, Le T H T1 H1 → ∃ vs, SqL g.K H1 a vs ∧ RepL g T1 H1 ds vs) : ItOk g T H (Itl g.K a) ds := by
  intro T1 H1 l m1 hm1 i
  obtain ⟨vs, hx, r⟩ := h T1 H1 l
  refine ⟨fun d hd => ?_, fun hl => ⟨vs, hx, r.none (Nat.le_of_eq hl)⟩⟩
  obtain ⟨v, hv, q⟩ := r.get hd
  refine ⟨⟨vs, v, hx, hv⟩, fun x H2 ⟨e, hy⟩ => ?_⟩
  subst e
  have := hy vs hx
  rw [hv] at this
  cases this
  exact ⟨T1, .refl, hm1, q⟩
theorem itok_T {a : Addr} {ds : List D} (h : ∀ T1 H1, Le T H T1 H1 → ∃ vs, SqT g.K H1 a vs ∧ RepL g T1 H1 ds vs) : ItOk g T H (Itt g.K a) ds := by
  intro T1 H1 l m1 hm1 i
  obtain ⟨vs, hx, r⟩ := h T1 H1 l
  refine ⟨fun d hd => ?_, fun hl => ⟨vs, hx, r.none (Nat.le_of_eq hl)⟩⟩
  obtain ⟨v, hv, q⟩ := r.get hd
  refine ⟨⟨vs, v, hx, hv⟩, fun x H2 ⟨e, hy⟩ => ?_⟩
  subst e
  have := hy vs hx
  rw [hv] at this
  cases this
  exact ⟨T1, .refl, hm1, q⟩
theorem itok_S {x : Str} : ItOk g T H (Its x) (x.cps.toList.map fun c => .str ⟨#[c]⟩) := by
  intro T1 H1 l m1 hm1 i
  refine ⟨fun d hd => ?_, fun hl => by show x.cps.size ≤ i; have := Nat.le_of_eq hl; simpa using this⟩
  rw [List.getElem?_map] at hd
  obtain ⟨c, hc, rfl⟩ := Option.map_eq_some_iff.mp hd
  have hc' : x.cps[i]? = some c := by simpa using hc
  refine ⟨(Array.getElem?_eq_some_iff.mp hc').1, fun y H2 ⟨e, c', h1, h2⟩ => ?_⟩
  subst e h2
  rw [hc'] at h1
  cases h1
  exact ⟨T1, .refl, hm1, .str _⟩
theorem itok_R {lo : Int} {n : Nat} : ItOk g T H (Itr lo n) ((List.range n).map fun (i : Nat) => .int (lo + i)) := by
  intro T1 H1 l m1 hm1 i
  refine ⟨fun d hd => ?_, fun hl => by show n ≤ i; have := Nat.le_of_eq hl; simpa using this⟩
  rw [List.getElem?_map] at hd
  obtain ⟨c, hc, rfl⟩ := Option.map_eq_some_iff.mp hd
  obtain ⟨h1, h2⟩ := List.getElem?_eq_some_iff.mp hc
  simp at h1 h2
  subst h2
  refine ⟨h1, fun y H2 ⟨e, h2⟩ => ?_⟩
  subst e h2
  exact ⟨T1, .refl, hm1, .int _⟩
/-- the items of what is walked: nothing that is tracked -/
def items : D → Option (List D)
  | .tup ds => some ds
  | .lst ds => some ds
  | .scr ds => some ds
  | .str x => some (x.cps.toList.map fun c => .str ⟨#[c]⟩)
  | _ => none
def iIt (a : EF) : AF := fun ρ m => bd (a ρ m) fun x m1 => pu (items x) m1
theorem di_any {tg e : Expr} {f : EF} (h : DE X e f) : DI X tg e (iIt f) := by
  obtain ⟨t, p, r⟩ := h.ex
  refine ⟨_, pi_any p, fun T σ H ρ m ds m' hm hs hf R k => ?_⟩
  obtain ⟨x, m1, e1, hf⟩ := bd_some hf
  obtain ⟨e2, rfl⟩ := pu_some hf
  refine r T σ H ρ m x _ hm hs e1 _ fun v T1 H1 l1 hm1 r1 => ?_
  cases r1 with
  | tup f q => cases e2; exact .inr (.inl ⟨_, rfl, ⟨_, f.sq⟩, k _ T1 H1 l1 hm1 (itok_T fun T2 H2 l => ⟨_, (f.le l).sq, q.le l⟩)⟩)
  | lst f q => cases e2; exact .inl ⟨_, rfl, ⟨_, f.sq⟩, k _ T1 H1 l1 hm1 (itok_L fun T2 H2 l => ⟨_, (f.le l).sq, q.le l⟩)⟩
  | scr f q => cases e2; exact .inl ⟨_, rfl, ⟨_, f.sq⟩, k _ T1 H1 l1 hm1 (itok_L fun T2 H2 l => ⟨_, (f.le l).sq, q.le l⟩)⟩
  | str x => cases e2; exact .inr (.inr ⟨_, rfl, k _ T1 H1 l1 hm1 itok_S⟩)
  | _ => cases e2
def rngD (lo : Int) (n : Nat) : List D := (List.range n).map fun (i : Nat) => .int (lo + i)
def iR1 (a : AF) : AF := fun ρ m => bd (a ρ m) fun xs m1 => match xs with
  | [.int j] => if -(2 ^ 62) ≤ j ∧ j < 2 ^ 62 then some (rngD 0 j.toNat, m1) else none
  | _ => none
def iR2 (a : AF) : AF := fun ρ m => bd (a ρ m) fun xs m1 => match xs with
  | [.int i, .int j] => if -(2 ^ 62) ≤ i ∧ i < 2 ^ 62 ∧ -(2 ^ 62) ≤ j ∧ j < 2 ^ 62 then some (rngD i (j - i).toNat, m1) else none
  | _ => none
theorem di_range1 {tg a : Expr} {f : AF} {p : Pos} (hg : Gl X "range") (hm : X.mg "range" = none) (ha : DA X [a] f) (hs : starEach [a] X.env = [(false, eval a X.env)] := by rfl) : DI X tg (.Call (.Name "range" p) [a] [] pos) (iR1 f) := by
  obtain ⟨t, pa, r⟩ := ha.ex
  refine ⟨_, pi_range1 hg hm pa hs, fun T σ H ρ m ds m' hm hs hf R k => ?_⟩
  obtain ⟨x, m1, e1, hf⟩ := bd_some hf
  refine r T σ H ρ m x _ hm hs e1 _ fun v T1 H1 l1 hm1 r1 => ?_
  split at hf
  · obtain ⟨⟨h1, h2⟩, hf⟩ := ite_some hf
    cases hf
    cases r1 with
    | cons a b => cases a; cases b; exact ⟨_, rfl, h1, h2, k _ T1 H1 l1 hm1 itok_R⟩
  · cases hf
theorem di_range2 {tg a b : Expr} {f : AF} {p : Pos} (hg : Gl X "range") (hm : X.mg "range" = none) (ha : DA X [a, b] f) (hs : starEach [a, b] X.env = [(false, eval a X.env), (false, eval b X.env)] := by rfl) (hs2 : starEach [b] X.env = [(false, eval b X.env)] := by rfl) : DI X tg (.Call (.Name "range" p) [a, b] [] pos) (iR2 f) := by
  obtain ⟨t, pa, r⟩ := ha.ex
  refine ⟨_, pi_range2 hg hm pa hs hs2, fun T σ H ρ m ds m' hm hs hf R k => ?_⟩
  obtain ⟨x, m1, e1, hf⟩ := bd_some hf
  refine r T σ H ρ m x _ hm hs e1 _ fun v T1 H1 l1 hm1 r1 => ?_
  split at hf
  · obtain ⟨⟨h1, h2, h3, h4⟩, hf⟩ := ite_some hf
    cases hf
    cases r1 with
    | cons a b => cases a; cases b with
      | cons a b => cases a; cases b; exact ⟨_, _, rfl, ⟨h1, h2, h3, h4⟩, k _ T1 H1 l1 hm1 itok_R⟩
  · cases hf
end
end L4

namespace L4
open PySem L2
/-! defs, by their names -/
structure PFn (P : Program) (w : World) (K : PySem.W.Frag) (mg : Str → Option Value) (base : Heap) (k : Nat) (x : Str) (n : Nat) (F : List D → Option D) : Prop where
  len : ∀ ds d, F ds = some d → ds.length = n
  ex : ∃ f fd ps, FnG P w K mg base CX0 k f fd ps (spP ⟨P, w, K⟩ n F) ∧ mg x = some (.ref f) ∧ PySem.W.keepIn K (.ref f) = true ∧ Binds K fd ps []
structure MFn (P : Program) (w : World) (K : PySem.W.Frag) (mg : Str → Option Value) (base : Heap) (k : Nat) (x : Str) (n : Nat) (F : List D → M → Option (D × M)) : Prop where
  len : ∀ ds m r, F ds m = some r → ds.length = n
  ex : ∃ f fd ps, FnG P w K mg base CX0 k f fd ps (spM ⟨P, w, K⟩ n F) ∧ mg x = some (.ref f) ∧ PySem.W.keepIn K (.ref f) = true ∧ Binds K fd ps []
/-- a method -/
structure PMt (P : Program) (w : World) (K : PySem.W.Frag) (mg : Str → Option Value) (base : Heap) (k : Nat) (c m : Str) (n : Nat) (F : List D → Option D) : Prop where
  len : ∀ ds d, F ds = some d → ds.length = n
  cl : Cls K (He.ga K c)
  ex : ∃ f fd ps, FnG P w K mg base CX0 k f fd ps (spP ⟨P, w, K⟩ n F) ∧ Meth K (He.ga K c) m f ∧ Binds K fd ps []
structure MMt (P : Program) (w : World) (K : PySem.W.Frag) (mg : Str → Option Value) (base : Heap) (k : Nat) (c m : Str) (n : Nat) (F : List D → M → Option (D × M)) : Prop where
  len : ∀ ds m r, F ds m = some r → ds.length = n
  cl : Cls K (He.ga K c)
  ex : ∃ f fd ps, FnG P w K mg base CX0 k f fd ps (spM ⟨P, w, K⟩ n F) ∧ Meth K (He.ga K c) m f ∧ Binds K fd ps []
/-- a class with its __init__ -/
structure MNw (P : Program) (w : World) (K : PySem.W.Frag) (mg : Str → Option Value) (base : Heap) (k : Nat) (c : Str) (n : Nat) (F : List D → M → Option (D × M)) : Prop where
  len : ∀ ds m r, F ds m = some r → ds.length = n
  mgC : mg c = some (.ref (He.ga K c))
  ex : ∃ f fd ps, FnG P w K mg base CX0 k f fd ps (spM ⟨P, w, K⟩ n F) ∧ Mk K (He.ga K c) f ∧ Binds K fd ps []
section
variable {P : Program} {w : World} {K : PySem.W.Frag} {mg : Str → Option Value} {base : Heap} {k : Nat} {x q m c : Str} {ps N : List Str} {st : Stmt} {b : SF}
theorem fnG_all {f : Addr} {fd : FuncData} {sp : Sp} (F : Fun K x q st f fd) (S : FnScope N ps (defScope st)) (len : ∀ vs H Q E, sp vs H Q E → vs.length = ps.length)
    (hrun : ∀ {t : TS}, RfS ⟨P, w, K⟩ t b → ∀ {vs : List V} {H : Hp} {Q : VK} {E : XK}, sp vs H Q E → t { nx := fun _ H' => Q .non H', rt := Q } (L2.start N vs) H)
    (hbody : ∀ (cdv : Value) (A : Around) (outer : List Env) (s : Shared) (H : Hp) (E : XK), Gd k (cxOf CX0 P w K mg base N q (defScope st) f cdv A outer s H E).nox →
      DSs (cxOf CX0 P w K mg base N q (defScope st) f cdv A outer s H E).nox (defBody st) b) : FnG P w K mg base CX0 (k + 1) f fd ps sp := by
  refine .old (L3.fnG_of F S len fun cdv A outer s H vs Q E hg hr hsp => ?_)
  obtain ⟨t, p, r⟩ := (hbody cdv A outer s H E ⟨hg, hr⟩).ex
  exact ⟨t, p, hrun r hsp⟩
theorem pfn_df (D : L3.Df K mg x st) (S : FnScope N ps (defScope st))
    (hb : ∀ (kV doc pm : Value) (an : Option Addr) (cdv ct : Value) (us : List Value), us.length = ps.length → bindArgs (PySem.W.fnOf x x (defArgs st) (defBody st) (defScope st) .none kV doc pm an cdv ct) ⟨us, []⟩ = pure (ps.zip us))
    (hbody : ∀ (f : Addr) (cdv : Value) (A : Around) (outer : List Env) (s : Shared) (H : Hp) (E : XK), Gd k (cxOf CX0 P w K mg base N x (defScope st) f cdv A outer s H E).nox →
      DSs (cxOf CX0 P w K mg base N x (defScope st) f cdv A outer s H E).nox (defBody st) b) : PFn P w K mg base (k + 1) x ps.length (runP ps.length N.length b) := by
  obtain ⟨f, fd, F, g⟩ := D.ex
  exact ⟨fun ds d h => runP_len h, f, fd, ps, fnG_all F S (fun vs H Q E h => h.1) (fun r => spP_run r) (hbody f), g, F.kp, F.binds hb⟩
theorem mfn_df (D : L3.Df K mg x st) (S : FnScope N ps (defScope st))
    (hb : ∀ (kV doc pm : Value) (an : Option Addr) (cdv ct : Value) (us : List Value), us.length = ps.length → bindArgs (PySem.W.fnOf x x (defArgs st) (defBody st) (defScope st) .none kV doc pm an cdv ct) ⟨us, []⟩ = pure (ps.zip us))
    (hbody : ∀ (f : Addr) (cdv : Value) (A : Around) (outer : List Env) (s : Shared) (H : Hp) (E : XK), Gd k (cxOf CX0 P w K mg base N x (defScope st) f cdv A outer s H E).nox →
      DSs (cxOf CX0 P w K mg base N x (defScope st) f cdv A outer s H E).nox (defBody st) b) : MFn P w K mg base (k + 1) x ps.length (runM ps.length N.length b) := by
  obtain ⟨f, fd, F, g⟩ := D.ex
  exact ⟨fun ds m d h => runM_len h, f, fd, ps, fnG_all F S (fun vs H Q E h => h.1) (fun r => spM_run r) (hbody f), g, F.kp, F.binds hb⟩
theorem pmt_md (D : L3.Md K (He.ga K c) m q st) (cl : Cls K (He.ga K c)) (S : FnScope N ps (defScope st))
    (hb : ∀ (kV doc pm : Value) (an : Option Addr) (cdv ct : Value) (us : List Value), us.length = ps.length → bindArgs (PySem.W.fnOf m q (defArgs st) (defBody st) (defScope st) .none kV doc pm an cdv ct) ⟨us, []⟩ = pure (ps.zip us))
    (hbody : ∀ (f : Addr) (cdv : Value) (A : Around) (outer : List Env) (s : Shared) (H : Hp) (E : XK), Gd k (cxOf CX0 P w K mg base N q (defScope st) f cdv A outer s H E).nox →
      DSs (cxOf CX0 P w K mg base N q (defScope st) f cdv A outer s H E).nox (defBody st) b) : PMt P w K mg base (k + 1) c m ps.length (runP ps.length N.length b) := by
  obtain ⟨f, fd, F, g⟩ := D.ex
  exact ⟨fun ds d h => runP_len h, cl, f, fd, ps, fnG_all F S (fun vs H Q E h => h.1) (fun r => spP_run r) (hbody f), g, F.binds hb⟩
theorem mmt_md (D : L3.Md K (He.ga K c) m q st) (cl : Cls K (He.ga K c)) (S : FnScope N ps (defScope st))
    (hb : ∀ (kV doc pm : Value) (an : Option Addr) (cdv ct : Value) (us : List Value), us.length = ps.length → bindArgs (PySem.W.fnOf m q (defArgs st) (defBody st) (defScope st) .none kV doc pm an cdv ct) ⟨us, []⟩ = pure (ps.zip us))
    (hbody : ∀ (f : Addr) (cdv : Value) (A : Around) (outer : List Env) (s : Shared) (H : Hp) (E : XK), Gd k (cxOf CX0 P w K mg base N q (defScope st) f cdv A outer s H E).nox →
      DSs (cxOf CX0 P w K mg base N q (defScope st) f cdv A outer s H E).nox (defBody st) b) : MMt P w K mg base (k + 1) c m ps.length (runM ps.length N.length b) := by
  obtain ⟨f, fd, F, g⟩ := D.ex
  exact ⟨fun ds m d h => runM_len h, cl, f, fd, ps, fnG_all F S (fun vs H Q E h => h.1) (fun r => spM_run r) (hbody f), g, F.binds hb⟩
theorem mnw_ki (D : L3.Ki K mg c (He.ga K c) q st) (S : FnScope N ps (defScope st))
    (hb : ∀ (kV doc pm : Value) (an : Option Addr) (cdv ct : Value) (us : List Value), us.length = ps.length → bindArgs (PySem.W.fnOf "__init__" q (defArgs st) (defBody st) (defScope st) .none kV doc pm an cdv ct) ⟨us, []⟩ = pure (ps.zip us))
    (hbody : ∀ (f : Addr) (cdv : Value) (A : Around) (outer : List Env) (s : Shared) (H : Hp) (E : XK), Gd k (cxOf CX0 P w K mg base N q (defScope st) f cdv A outer s H E).nox →
      DSs (cxOf CX0 P w K mg base N q (defScope st) f cdv A outer s H E).nox (defBody st) b) : MNw P w K mg base (k + 1) c ps.length (runM ps.length N.length b) := by
  obtain ⟨f, fd, F, g⟩ := D.ex
  exact ⟨fun ds m d h => runM_len h, D.mgC, f, fd, ps, fnG_all F S (fun vs H Q E h => h.1) (fun r => spM_run r) (hbody f), g, F.binds hb⟩
end
section
variable {X : Cx} {g : G} {T T' : Tk} {H : Hp} {m : M} {Q : VK} {pos p apos : Pos} {e o : Expr} {es : List Expr} {k n : Nat} {x c nm : Str}
theorem app_nil {r : List V → Hp → VK → Prop} {v : Value} {sp : Sp} (h : CallR X v fun vs H Q => sp (vs ++ []) H Q E0) : CallR X v fun vs H Q => sp vs H Q E0 := by
  intro pins s σ H xs us Q I r q
  exact h pins s σ H xs us Q I r (by show sp (xs ++ []) H Q E0; rw [List.append_nil]; exact q)
theorem de_pfn {F : List D → Option D} {f : AF} (hF : PFn X.prog X.w X.K X.mg X.base k x n F) (gd : Gd k X) (hg : Gl X x) (ha : DA X (e :: es) f) (hdb : (x == ("__debug__" : Str)) = false := by decide)
    (he : starEach (e :: es) X.env = (false, eval e X.env) :: starEach es X.env := by rfl) (hpl : (backTo pos (starEach es X.env)).any (·.1) = false := by rfl) : DE X (.Call (.Name x p) (e :: es) [] pos) (eCall (callP F) f) := by
  obtain ⟨fa, fd, ps, G, hm, kp, b⟩ := hF.ex
  obtain ⟨t, pa, ra⟩ := ha.ex
  exact ⟨_, pe_callR (app_nil (r := fun _ _ _ => True) (G.call gd b .nil)) hg hm kp pa hdb he hpl, rf_call (rf_callP hF.len) ra⟩
theorem de_pfn0 {F : List D → Option D} (hF : PFn X.prog X.w X.K X.mg X.base k x n F) (gd : Gd k X) (hg : Gl X x) (hdb : (x == ("__debug__" : Str)) = false := by decide) : DE X (.Call (.Name x p) [] [] pos) (eCall (callP F) aNil) := by
  obtain ⟨fa, fd, ps, G, hm, kp, b⟩ := hF.ex
  obtain ⟨t, pa, ra⟩ := (da_nil (X := X)).ex
  refine ⟨_, pe_callR0 (app_nil (r := fun _ _ _ => True) (G.call gd b .nil)) hg hm kp hdb, rf_call (rf_callP hF.len) ?_⟩
  exact fun T σ H ρ m ds m' hm hs hf Q k => by cases hf; exact k [] T H .refl hm .nil
theorem de_mfn {F : List D → M → Option (D × M)} {f : AF} (hF : MFn X.prog X.w X.K X.mg X.base k x n F) (gd : Gd k X) (hg : Gl X x) (ha : DA X (e :: es) f) (hdb : (x == ("__debug__" : Str)) = false := by decide)
    (he : starEach (e :: es) X.env = (false, eval e X.env) :: starEach es X.env := by rfl) (hpl : (backTo pos (starEach es X.env)).any (·.1) = false := by rfl) : DE X (.Call (.Name x p) (e :: es) [] pos) (eCallM F f) := by
  obtain ⟨fa, fd, ps, G, hm, kp, b⟩ := hF.ex
  obtain ⟨t, pa, ra⟩ := ha.ex
  exact ⟨_, pe_callR (app_nil (r := fun _ _ _ => True) (G.call gd b .nil)) hg hm kp pa hdb he hpl, rf_callM hF.len ra⟩
/-! methods -/
def tMthR (C : Addr) (m : Str) (r : List V → Hp → VK → Prop) (ta : TE) (t : TA) : TE := fun σ H Q => ta σ H fun x H1 => ∃ a dx fs, x = .ref a ∧ H1 a = some (.ins C dx fs) ∧ fs.lookup m = none ∧ t σ H1 fun vs H2 => r (x :: vs) H2 Q
theorem pe_mthR {pl : Sem Bool} {C f : Addr} {ta : TE} {t : TA} {r : List V → Hp → VK → Prop} (hc : CallR X (.ref f) r) (he : PE X o ta) (cl : Cls X.K C) (hm : Meth X.K C nm f) (ha : PA X (e :: es) t)
    (hst : starEach (e :: es) X.env = (false, eval e X.env) :: starEach es X.env := by rfl) (hpl : (backTo pos (starEach es X.env)).any (·.1) = false := by rfl)
    (ht : eval (.Call (.Attribute o nm apos) (e :: es) [] pos) X.env = (do
      let ov ← eval o X.env
      standAt apos.atName
      let (f, first) ← holding [ov] (getMethod ov nm pl)
      callWith pos f first (backTo pos (starEach (e :: es) X.env)) (backToKw pos (keywordEach [] X.env))) := by rfl) :
    PE X (.Call (.Attribute o nm apos) (e :: es) [] pos) (tMthR C nm r ta t) := by
  refine ⟨fun pins s σ H Q I h => PySem.W.methodCall_KW (pl := pl) (thn (he.run pins s σ H _ I h) fun u s1 ⟨x, H1, I1, rx, a, dx, fs, ex, ea, l, q⟩ => ?_) ht⟩
  cases ex
  cases rx
  refine getmeth_ok I1 ea cl hm l (PySem.W.callWith_K (first := [.ref a]) (h₀ := X.base) I.ok.mod.kin hm.kp (thn (ha.run pos pins s1 σ H1 _ I1 q) fun us s2 ⟨vs, H2, I2, rv, q2⟩ => ⟨I2.kIn, ?_⟩) hst hpl)
  exact hc pins s2 σ H2 (.ref a :: vs) (.ref a :: us) Q I2 (.cons rfl rv) q2
theorem pe_mthR0 {pl : Sem Bool} {C f : Addr} {ta : TE} {r : List V → Hp → VK → Prop} (hc : CallR X (.ref f) r) (he : PE X o ta) (cl : Cls X.K C) (hm : Meth X.K C nm f)
    (ht : eval (.Call (.Attribute o nm apos) [] [] pos) X.env = (do
      let ov ← eval o X.env
      standAt apos.atName
      let (f, first) ← holding [ov] (getMethod ov nm pl)
      callWith pos f first (backTo pos (starEach [] X.env)) (backToKw pos (keywordEach [] X.env))) := by rfl) :
    PE X (.Call (.Attribute o nm apos) [] [] pos) (tMthR C nm r ta tNil) := by
  refine ⟨fun pins s σ H Q I h => PySem.W.methodCall_KW (pl := pl) (thn (he.run pins s σ H _ I h) fun u s1 ⟨x, H1, I1, rx, a, dx, fs, ex, ea, l, q⟩ => ?_) ht⟩
  cases ex
  cases rx
  refine getmeth_ok I1 ea cl hm l (PySem.W.callWith_K0 (first := [.ref a]) I1.kIn hm.kp ?_)
  exact hc pins s1 σ H1 [.ref a] [.ref a] Q I1 (.cons rfl .nil) q
/-- the class and the fields of an object -/
def insO : O → Option (Str × List Str × List D)
  | .ins c ns vs => some (c, ns, vs)
  | _ => none
def insOf (m : M) : D → Option (Str × List Str × List D)
  | .obj c ns vs => some (c, ns, vs)
  | .ref n => (m[n]?).bind insO
  | _ => none
theorem ins_rep {d : D} {v : V} {ns : List Str} {vs : List D} (hm : RepH g T H m) (r : Rep g T H d v) (h : insOf m d = some (c, ns, vs)) : ∃ a dx fs, v = .ref a ∧ H a = some (.ins (He.ga g.K c) dx fs) ∧ fs.map Prod.fst = ns ∧ RepL g T H vs (fs.map Prod.snd) := by
  cases r with
  | obj n f e r => cases h; exact ⟨_, _, _, rfl, f, e, r⟩
  | ref e =>
    obtain ⟨o, h1, h2⟩ := Option.bind_eq_some_iff.mp h
    cases hm.at_ _ _ _ e h1 with
    | ins f e r => cases h2; exact ⟨_, _, _, rfl, f, e, r⟩
    | _ => cases h2
  | _ => cases h
theorem lookup_none {fs : List (Str × V)} {f : Str} (h : (fs.map Prod.fst).contains f = false) : fs.lookup f = none := by
  rw [List.lookup_eq_none_iff]
  intro p hp
  have : f ∉ fs.map Prod.fst := by simpa using h
  rw [bne_iff_ne]
  rintro rfl
  exact this (List.mem_map.mpr ⟨p, hp, rfl⟩)
/-- o.m(..): the object first, its class is asked -/
def eMth (c nm : Str) (F : M → List D → Option D) (o : EF) (a : AF) : EF := fun ρ m => bd (o ρ m) fun x m1 => match insOf m1 x with
  | some (c', ns, _) => if c' = c ∧ ns.contains nm = false then bd (a ρ m1) fun xs m2 => pu (F m2 (x :: xs)) m2 else none
  | none => none
def eMthM (c nm : Str) (F : List D → M → Option (D × M)) (o : EF) (a : AF) : EF := fun ρ m => bd (o ρ m) fun x m1 => match insOf m1 x with
  | some (c', ns, _) => if c' = c ∧ ns.contains nm = false then bd (a ρ m1) fun xs m2 => F (x :: xs) m2 else none
  | none => none
theorem rf_mth {F : List D → Option D} {fo : EF} {fa : AF} {ta : TE} {t : TA} (hn : ∀ ds d, F ds = some d → ds.length = n) (ho : RfE g ta fo) (ha : RfA g t fa) :
    RfE g (tMthR (He.ga g.K c) nm (fun vs H Q => spP g n F vs H Q E0) ta t) (eMth c nm (callP F) fo fa) := by
  intro T σ H ρ m d m' hm hs hf Q k
  obtain ⟨x, m1, e1, hf⟩ := bd_some hf
  refine ho T σ H ρ m x m1 hm hs e1 _ fun v T1 H1 l1 hm1 r1 => ?_
  split at hf
  · next c' ns vs hi =>
    obtain ⟨⟨ec, hc⟩, hf2⟩ := ite_some hf
    subst ec
    obtain ⟨xs, m2, e2, hf⟩ := bd_some hf2
    obtain ⟨e3, rfl⟩ := pu_some hf
    obtain ⟨a, dx, fs, rfl, ea, en, _⟩ := ins_rep hm1 r1 hi
    refine ⟨a, dx, fs, rfl, ea, lookup_none (by rw [en]; exact hc), ha T1 σ H1 ρ m1 xs _ hm1 (hs.le l1) e2 _ fun ws T2 H2 l2 hm2 r2 => ?_⟩
    exact rf_callP hn T2 H2 _ (x :: xs) (.ref a :: ws) d hm2 (.cons (r1.le l2) r2) e3 Q (k.le (l1.trans l2))
  · cases hf
theorem rf_mthM {F : List D → M → Option (D × M)} {fo : EF} {fa : AF} {ta : TE} {t : TA} (hn : ∀ ds m r, F ds m = some r → ds.length = n) (ho : RfE g ta fo) (ha : RfA g t fa) :
    RfE g (tMthR (He.ga g.K c) nm (fun vs H Q => spM g n F vs H Q E0) ta t) (eMthM c nm F fo fa) := by
  intro T σ H ρ m d m' hm hs hf Q k
  obtain ⟨x, m1, e1, hf⟩ := bd_some hf
  refine ho T σ H ρ m x m1 hm hs e1 _ fun v T1 H1 l1 hm1 r1 => ?_
  split at hf
  · next c' ns vs hi =>
    obtain ⟨⟨ec, hc⟩, hf2⟩ := ite_some hf
    subst ec
    obtain ⟨xs, m2, e2, hf⟩ := bd_some hf2
    obtain ⟨a, dx, fs, rfl, ea, en, _⟩ := ins_rep hm1 r1 hi
    refine ⟨a, dx, fs, rfl, ea, lookup_none (by rw [en]; exact hc), ha T1 σ H1 ρ m1 xs _ hm1 (hs.le l1) e2 _ fun ws T2 H2 l2 hm2 r2 => ?_⟩
    have q2 : RepL g T2 H2 (x :: xs) (.ref a :: ws) := .cons (r1.le l2) r2
    exact ⟨by rw [← q2.length]; exact hn _ _ _ hf, T2, m2, x :: xs, d, m', hm2, q2, hf, k.le (l1.trans l2)⟩
  · cases hf
theorem rf_nil : RfA g tNil aNil := fun T σ H ρ m ds m' hm hs hf Q k => by cases hf; exact k [] T H .refl hm .nil
theorem de_pmt {pl : Sem Bool} {F : List D → Option D} {fo : EF} {f : AF} (hF : PMt X.prog X.w X.K X.mg X.base k c nm n F) (gd : Gd k X) (ho : DE X o fo) (ha : DA X (e :: es) f)
    (hst : starEach (e :: es) X.env = (false, eval e X.env) :: starEach es X.env := by rfl) (hpl : (backTo pos (starEach es X.env)).any (·.1) = false := by rfl)
    (ht : eval (.Call (.Attribute o nm apos) (e :: es) [] pos) X.env = (do
      let ov ← eval o X.env
      standAt apos.atName
      let (f, first) ← holding [ov] (getMethod ov nm pl)
      callWith pos f first (backTo pos (starEach (e :: es) X.env)) (backToKw pos (keywordEach [] X.env))) := by rfl) : DE X (.Call (.Attribute o nm apos) (e :: es) [] pos) (eMth c nm (callP F) fo f) := by
  obtain ⟨fa, fd, ps, G, hm, b⟩ := hF.ex
  obtain ⟨t, pa, ra⟩ := ha.ex; obtain ⟨to, po, ro⟩ := ho.ex
  exact ⟨_, pe_mthR (app_nil (r := fun _ _ _ => True) (G.call gd b .nil)) po hF.cl hm pa hst hpl ht, rf_mth hF.len ro ra⟩
theorem de_pmt0 {pl : Sem Bool} {F : List D → Option D} {fo : EF} (hF : PMt X.prog X.w X.K X.mg X.base k c nm n F) (gd : Gd k X) (ho : DE X o fo)
    (ht : eval (.Call (.Attribute o nm apos) [] [] pos) X.env = (do
      let ov ← eval o X.env
      standAt apos.atName
      let (f, first) ← holding [ov] (getMethod ov nm pl)
      callWith pos f first (backTo pos (starEach [] X.env)) (backToKw pos (keywordEach [] X.env))) := by rfl) : DE X (.Call (.Attribute o nm apos) [] [] pos) (eMth c nm (callP F) fo aNil) := by
  obtain ⟨fa, fd, ps, G, hm, b⟩ := hF.ex
  obtain ⟨to, po, ro⟩ := ho.ex
  exact ⟨_, pe_mthR0 (app_nil (r := fun _ _ _ => True) (G.call gd b .nil)) po hF.cl hm ht, rf_mth hF.len ro rf_nil⟩
theorem de_mmt {pl : Sem Bool} {F : List D → M → Option (D × M)} {fo : EF} {f : AF} (hF : MMt X.prog X.w X.K X.mg X.base k c nm n F) (gd : Gd k X) (ho : DE X o fo) (ha : DA X (e :: es) f)
    (hst : starEach (e :: es) X.env = (false, eval e X.env) :: starEach es X.env := by rfl) (hpl : (backTo pos (starEach es X.env)).any (·.1) = false := by rfl)
    (ht : eval (.Call (.Attribute o nm apos) (e :: es) [] pos) X.env = (do
      let ov ← eval o X.env
      standAt apos.atName
      let (f, first) ← holding [ov] (getMethod ov nm pl)
      callWith pos f first (backTo pos (starEach (e :: es) X.env)) (backToKw pos (keywordEach [] X.env))) := by rfl) : DE X (.Call (.Attribute o nm apos) (e :: es) [] pos) (eMthM c nm F fo f) := by
  obtain ⟨fa, fd, ps, G, hm, b⟩ := hF.ex
  obtain ⟨t, pa, ra⟩ := ha.ex; obtain ⟨to, po, ro⟩ := ho.ex
  exact ⟨_, pe_mthR (app_nil (r := fun _ _ _ => True) (G.call gd b .nil)) po hF.cl hm pa hst hpl ht, rf_mthM hF.len ro ra⟩
theorem de_mmt0 {pl : Sem Bool} {F : List D → M → Option (D × M)} {fo : EF} (hF : MMt X.prog X.w X.K X.mg X.base k c nm n F) (gd : Gd k X) (ho : DE X o fo)
    (ht : eval (.Call (.Attribute o nm apos) [] [] pos) X.env = (do
      let ov ← eval o X.env
      standAt apos.atName
      let (f, first) ← holding [ov] (getMethod ov nm pl)
      callWith pos f first (backTo pos (starEach [] X.env)) (backToKw pos (keywordEach [] X.env))) := by rfl) : DE X (.Call (.Attribute o nm apos) [] [] pos) (eMthM c nm F fo aNil) := by
  obtain ⟨fa, fd, ps, G, hm, b⟩ := hF.ex
  obtain ⟨to, po, ro⟩ := ho.ex
  exact ⟨_, pe_mthR0 (app_nil (r := fun _ _ _ => True) (G.call gd b .nil)) po hF.cl hm ht, rf_mthM hF.len ro rf_nil⟩
/-! fields -/
def fldAt : List Str → List D → Str → Option D
  | n :: ns, v :: vs, f => if n = f then some v else fldAt ns vs f
  | _, _, _ => none
theorem fld_rep {f : Str} : ∀ {fs : List (Str × V)} {ns : List Str} {vs : List D} {d : D}, fs.map Prod.fst = ns → RepL g T H vs (fs.map Prod.snd) → fldAt ns vs f = some d → ∃ v, fs.lookup f = some v ∧ Rep g T H d v
  | [], _, _, _, e, r, h => by subst e; cases r; cases h
  | (n, w) :: fs, _, _, d, e, r, h => by
    subst e
    cases r with
    | cons r s =>
      change (if n = f then some _ else fldAt _ _ f) = some d at h
      by_cases hn : n = f
      · rw [if_pos hn] at h
        cases h
        subst hn
        exact ⟨w, by simp [List.lookup], r⟩
      · rw [if_neg hn] at h
        obtain ⟨v, e1, q⟩ := fld_rep (fs := fs) rfl s h
        refine ⟨v, ?_, q⟩
        have : (f == n) = false := by rw [beq_eq_false_iff_ne]; exact fun z => hn z.symm
        simp [List.lookup, this, e1]
def eFld (cs : List Str) (f : Str) (o : EF) : EF := fun ρ m => bd (o ρ m) fun x m1 => match insOf m1 x with
  | some (c, ns, vs) => if cs.contains c then pu (fldAt ns vs f) m1 else none
  | none => none
/-- none of these classes has the name f itself -/
def NA (K : PySem.W.Frag) (cs : List Str) (f : Str) : Prop := ∀ c ∈ cs, Cls K (He.ga K c) ∧ NoAttr K (He.ga K c) f
theorem na1 {K : PySem.W.Frag} {c f : Str} (h : Cls K (He.ga K c)) (n : NoAttr K (He.ga K c) f) : NA K [c] f := fun d hd => by rw [List.mem_singleton.mp hd]; exact ⟨h, n⟩
theorem naC {K : PySem.W.Frag} {c f : Str} {cs : List Str} (h : Cls K (He.ga K c)) (n : NoAttr K (He.ga K c) f) (r : NA K cs f) : NA K (c :: cs) f := fun d hd => by
  rcases List.mem_cons.mp hd with rfl | hd
  · exact ⟨h, n⟩
  · exact r d hd
theorem de_fld {cs : List Str} {f : Str} {fo : EF} (hn : NA X.K cs f) (ho : DE X o fo) (hb : attributeBase o f X.env (eval o X.env) = eval o X.env := by rfl) : DE X (.Attribute o f pos) (eFld cs f fo) := by
  obtain ⟨to, po, ro⟩ := ho.ex
  refine ⟨_, pe_fld po hb, fun T σ H ρ m d m' hm hs hf Q k => ?_⟩
  obtain ⟨x, m1, e1, hf⟩ := bd_some hf
  refine ro T σ H ρ m x m1 hm hs e1 _ fun v T1 H1 l1 hm1 r1 => ?_
  split at hf
  · next c' ns vs hi =>
    obtain ⟨hc, hf⟩ := ite_some hf
    obtain ⟨e3, rfl⟩ := pu_some hf
    obtain ⟨a, dx, fs, rfl, ea, en, rf⟩ := ins_rep hm1 r1 hi
    obtain ⟨w, e4, q⟩ := fld_rep en rf e3
    have hc' := hn c' (by simpa using hc)
    exact ⟨a, _, dx, fs, w, rfl, ea, hc'.1, hc'.2, e4, k _ T1 H1 l1 hm1 q⟩
  · cases hf
end
end L4

namespace L4
open PySem L2
section
variable {X : Cx} {g : G} {T T' : Tk} {H : Hp} {m : M} {Q : VK} {pos p apos : Pos} {e o : Expr} {es : List Expr} {k n : Nat} {x c nm : Str}
/-! objects made -/
theorem FnG.make {C f : Addr} {fd : FuncData} {ps : List Str} {sp : Sp} (Mk : Mk X.K C f) (F : FnG X.prog X.w X.K X.mg X.base CX0 k f fd ps sp) (gd : Gd (k + 1) X) (hb : Binds X.K fd ps []) :
    CallR X (.ref C) fun vs H Q => ∀ x dx, H x = none → H dx = none → dx ≠ x → sp (.ref x :: vs) (upd (upd H dx (.own x)) x (.ins C dx [])) (fun v H2 => v = .non ∧ Q (.ref x) H2) E0 := by
  intro pins s σ H vs us Q I r h
  have hq := h (s.heap.objs.size + 1) s.heap.objs.size (I.hok.fresh (Nat.le_succ _)) (I.hok.fresh (Nat.le_refl _)) (Nat.ne_of_lt (Nat.lt_succ_self _))
  have I2 := Inv.made (C := C) I
  have r2 : Vals (V.ref (s.heap.objs.size + 1) :: vs) (Value.ref (s.heap.objs.size + 1) :: us) := .cons rfl r
  have hl : (Value.ref (s.heap.objs.size + 1) :: us ++ []).length = ps.length := by
    rw [List.append_nil, ← r2.length]
    exact F.len _ _ _ _ hq
  have hg : (X.A.under (.builtin "type.__call__" ⟨.ref C :: us, []⟩)).guards = some [] := by
    have := gd.g
    have e : (Code.builtin "type.__call__" ⟨.ref C :: us, []⟩).guards = [] := by simp [Code.guards, Code.isGuard, guardIds]
    simp [Around.under, e, pushGuards, this]
  have b := hb _ (Value.ref (s.heap.objs.size + 1) :: us) I2.kIn hl
  rw [List.append_nil] at b
  refine wpAny_call (make_map (f := f) I.kIn Mk.makes Mk.init (beq_iff_eq.mp Mk.fn) (codeAny_mono (F.run _ X.stack _ _ _ _ _ _ E0 hg (gd.r.make C us []) (I2.env0.make C us []) b r2 hq) fun res s' hres => ?_))
  match res, hres with
  | .error _, z => exact z.elim
  | .ok (.ret u), z =>
    obtain ⟨v, H', I3, rv, ev, q3⟩ := I2.after z
    cases ev
    exact ⟨rv, V.ref (s.heap.objs.size + 1), H', I3, rfl, q3⟩
/-- an object that is never changed behind its making: plain data -/
def newP (c : Str) (F : List D → M → Option (D × M)) (ds : List D) : Option D := match F (.ref 0 :: ds) [.ins c [] []] with
  | some (.non, m) => frz m (.ref 0)
  | _ => none
def pureC (F : List D → Option D) (_ : M) (ds : List D) : Option D := if pureL ds then F ds else none
theorem rf_newP {F : List D → M → Option (D × M)} (hn : ∀ ds m r, F ds m = some r → ds.length = n) :
    RfC g (fun vs H Q => ∀ x dx, H x = none → H dx = none → dx ≠ x → spM g n F (.ref x :: vs) (upd (upd H dx (.own x)) x (.ins (He.ga g.K c) dx [])) (fun v H2 => v = .non ∧ Q (.ref x) H2) E0) (pureC (newP c F)) := by
  intro T H m xs vs d hm r hf Q k x dx hx hdx hne
  obtain ⟨hp, hf⟩ := ite_some hf
  unfold newP at hf
  split at hf
  · next m2 hF =>
    have up : ∀ a u, H a = some u → upd (upd H dx (.own x)) x (.ins (He.ga g.K c) dx []) a = some u := fun a u e => by
      rw [upd_ne (ne_of_none e hx), upd_ne (ne_of_none e hdx)]; exact e
    have nx : x ∉ T.ν := hm.nope hx
    let Tc : Tk := ⟨[x], x :: T.ν, fun a h => by rw [List.mem_singleton.mp h]; exact List.mem_cons_self ..⟩
    obtain ⟨l1, hm1⟩ := hm.grow up
    have hmc : RepH g Tc (upd (upd H dx (.own x)) x (.ins (He.ga g.K c) dx [])) [.ins c [] []] := by
      refine ⟨rfl, by simp [Tc], fun a ha => ?_, fun i a o h1 h2 => ?_⟩
      · rcases List.mem_cons.mp ha with rfl | z
        · exact ⟨_, upd_same, trivial⟩
        · exact hm1.has a z
      · cases i with
        | zero => cases h1; cases h2; exact .ins upd_same rfl .nil
        | succ i => cases h2
    have rx : RepL g (T0 T.ν) H xs vs := RepL.pure (fun _ h => h) _ hp r
    have rc : RepL g Tc (upd (upd H dx (.own x)) x (.ins (He.ga g.K c) dx [])) xs vs := by
      have l0 : Le (T0 T.ν) H ⟨[], x :: T.ν, fun a h => nomatch h⟩ (upd (upd H dx (.own x)) x (.ins (He.ga g.K c) dx [])) := ⟨List.prefix_rfl, fun a u e _ => up a u e, fun a ha n => by
        rcases List.mem_cons.mp ha with rfl | z
        · exact hx
        · exact absurd z n, fun a h n => (nomatch h), fun a h => List.mem_cons_of_mem _ h⟩
      exact RepL.lift (T := Tc) _ (rx.le l0)
    refine ⟨by have := hn _ _ _ hF; rw [← this]; simp [r.length], Tc, _, .ref 0 :: xs, .non, m2, hmc, .cons (.ref rfl) rc, hF, fun v T2 H2 l2 hm2 rv => ?_⟩
    cases rv
    refine ⟨rfl, ?_⟩
    have upH : ∀ a u, H a = some u → H2 a = some u := fun a u e => l2.keep a u (up a u e) fun z => by
      rw [List.mem_singleton.mp z] at e
      rw [hx] at e
      cases e
    obtain ⟨l3, hm3⟩ := hm.grow upH
    have rz : Rep g T2 H2 (.ref 0) (.ref x) := .ref (l2.get (n := 0) rfl)
    refine k _ T H2 l3 hm3 (Rep.lift _ (frz_ok hm2 (ν := T.ν) (fun a h => l2.up a (List.mem_cons_of_mem _ h)) (fun a h z => ?_) hf rz))
    by_cases ha : a ∈ Tc.μ
    · rw [List.mem_singleton.mp ha] at z; exact nx z
    · obtain ⟨u, e, _⟩ := hm1.has a z
      rw [l2.newμ a h ha] at e
      cases e
  · cases hf
end
end L4

namespace L4
open PySem L2
section
variable {X : Cx} {g : G} {T T' : Tk} {H : Hp} {m : M} {Q : VK} {pos p apos : Pos} {e o : Expr} {es : List Expr} {k n : Nat} {x c nm : Str}
theorem de_newP {F : List D → M → Option (D × M)} {f : AF} (hF : MNw X.prog X.w X.K X.mg X.base k c n F) (gd : Gd (k + 1) X) (hg : Gl X c) (ha : DA X (e :: es) f) (hdb : (c == ("__debug__" : Str)) = false := by decide)
    (he : starEach (e :: es) X.env = (false, eval e X.env) :: starEach es X.env := by rfl) (hpl : (backTo pos (starEach es X.env)).any (·.1) = false := by rfl) : DE X (.Call (.Name c p) (e :: es) [] pos) (eCall (pureC (newP c F)) f) := by
  obtain ⟨fa, fd, ps, G, M, b⟩ := hF.ex
  obtain ⟨t, pa, ra⟩ := ha.ex
  exact ⟨_, pe_callR (G.make M gd b) hg hF.mgC M.kp pa hdb he hpl, rf_call (rf_newP hF.len) ra⟩
/-- an object that changes -/
def eNewM (c : Str) (F : List D → M → Option (D × M)) (a : AF) : EF := fun ρ m => bd (a ρ m) fun xs m1 => match F (.ref m1.length :: xs) (m1 ++ [.ins c [] []]) with
  | some (.non, m2) => some (.ref m1.length, m2)
  | _ => none
theorem rf_newM {F : List D → M → Option (D × M)} {t : TA} {f : AF} (hn : ∀ ds m r, F ds m = some r → ds.length = n) (ha : RfA g t f) :
    RfE g (tCB (fun vs H Q => ∀ x dx, H x = none → H dx = none → dx ≠ x → spM g n F (.ref x :: vs) (upd (upd H dx (.own x)) x (.ins (He.ga g.K c) dx [])) (fun v H2 => v = .non ∧ Q (.ref x) H2) E0) t) (eNewM c F f) := by
  intro T σ H ρ m d m' hm hs hf Q k
  obtain ⟨xs, m1, e1, hf⟩ := bd_some hf
  refine ha T σ H ρ m xs m1 hm hs e1 _ fun vs T1 H1 l1 hm1 r1 x dx hx hdx hne => ?_
  split at hf
  · next m2 hF =>
    cases hf
    obtain ⟨l2, hm2⟩ := hm1.fresh (u := .own x) hdx
    obtain ⟨l3, hm3⟩ := hm2.push (p := x) (u := .ins (He.ga g.K c) dx []) (o := .ins c [] []) (by rw [upd_ne (fun z => hne z.symm)]; exact hx) fun _ => .ins upd_same rfl .nil
    have rx : Rep g (T1.push x) (upd (upd H1 dx (.own x)) x (.ins (He.ga g.K c) dx [])) (.ref m1.length) (.ref x) := .ref (by
      show (T1.μ ++ [x])[m1.length]? = some x
      rw [← hm1.len, List.getElem?_append_right (Nat.le_refl _)]
      simp)
    have l23 := l2.trans l3
    refine ⟨by rw [← hn _ _ _ hF]; simp [r1.length], _, _, .ref m1.length :: xs, .non, _, hm3, .cons rx (r1.le l23), hF, fun v T4 H4 l4 hm4 rv => ?_⟩
    cases rv
    exact ⟨rfl, k _ T4 H4 (l1.trans (l23.trans l4)) hm4 (rx.le l4)⟩
  · cases hf
theorem de_newM {F : List D → M → Option (D × M)} {f : AF} (hF : MNw X.prog X.w X.K X.mg X.base k c n F) (gd : Gd (k + 1) X) (hg : Gl X c) (ha : DA X (e :: es) f) (hdb : (c == ("__debug__" : Str)) = false := by decide)
    (he : starEach (e :: es) X.env = (false, eval e X.env) :: starEach es X.env := by rfl) (hpl : (backTo pos (starEach es X.env)).any (·.1) = false := by rfl) : DE X (.Call (.Name c p) (e :: es) [] pos) (eNewM c F f) := by
  obtain ⟨fa, fd, ps, G, M, b⟩ := hF.ex
  obtain ⟨t, pa, ra⟩ := ha.ex
  exact ⟨_, pe_callR (G.make M gd b) hg hF.mgC M.kp pa hdb he hpl, rf_newM hF.len ra⟩
theorem de_newM0 {F : List D → M → Option (D × M)} (hF : MNw X.prog X.w X.K X.mg X.base k c n F) (gd : Gd (k + 1) X) (hg : Gl X c) (hdb : (c == ("__debug__" : Str)) = false := by decide) : DE X (.Call (.Name c p) [] [] pos) (eNewM c F aNil) := by
  obtain ⟨fa, fd, ps, G, M, b⟩ := hF.ex
  exact ⟨_, pe_callR0 (G.make M gd b) hg hF.mgC M.kp hdb, rf_newM hF.len rf_nil⟩
/-! o.f = e -/
def putD (f : Str) (d : D) : List Str → List D → List Str × List D
  | n :: ns, v :: vs => if n = f then (n :: ns, d :: vs) else let r := putD f d ns vs; (n :: r.1, v :: r.2)
  | _, _ => ([f], [d])
theorem put_rep {f : Str} {d : D} {v : V} (rd : Rep g T H d v) : ∀ {fs : List (Str × V)} {vs : List D}, RepL g T H vs (fs.map Prod.snd) → (putF f v fs).map Prod.fst = (putD f d (fs.map Prod.fst) vs).1 ∧ RepL g T H (putD f d (fs.map Prod.fst) vs).2 ((putF f v fs).map Prod.snd)
  | [], _, r => by cases r; exact ⟨rfl, .cons rd .nil⟩
  | (n, w) :: fs, _, r => by
    cases r with
    | cons r s =>
      obtain ⟨h1, h2⟩ := put_rep (f := f) rd s
      unfold putF
      simp only [List.map_cons, putD]
      by_cases hn : n = f
      · rw [if_pos hn, if_pos hn]
        exact ⟨rfl, .cons rd s⟩
      · rw [if_neg hn, if_neg hn]
        exact ⟨by simp [h1], .cons r h2⟩
def sFldM (cs : List Str) (f : Str) (o v : EF) : SF := fun ρ m => bd (v ρ m) fun y m1 => bd (o ρ m1) fun x m2 => match x with
  | .ref n => match m2[n]? with
    | some (.ins c ns vs) => if cs.contains c ∧ vs.length < 1000 then some (.nx ρ, m2.set n (.ins c (putD f y ns vs).1 (putD f y ns vs).2)) else none
    | _ => none
  | _ => none
theorem ds_fld {cs : List Str} {f : Str} {value : Expr} {fo fv : EF} {pos' : Pos} (hn : NA X.K cs f) (ho : DE X o fo) (hv : DE X value fv) (hs : swapsWith value (some (.Attribute o f pos')) pos.line X.env = pure false := by rfl) :
    DS X (.Assign [.Attribute o f pos'] value pos) (sFldM cs f fo fv) := by
  obtain ⟨to, po, ro⟩ := ho.ex; obtain ⟨tv, pv, rv⟩ := hv.ex
  refine ⟨_, ps_fld po pv hs, fun T σ H ρ m d m' hm hs hf D k => ?_⟩
  obtain ⟨y, m1, e1, hf1⟩ := bd_some hf
  obtain ⟨x, m2, e2, hf2⟩ := bd_some hf1
  refine rv T σ H ρ m y m1 hm hs e1 _ fun v T1 H1 l1 hm1 r1 => ?_
  refine ro T1 σ H1 ρ m1 x m2 hm1 (hs.le l1) e2 _ fun u T2 H2 l2 hm2 r2 => ?_
  clear hf hf1
  split at hf2
  · next n =>
    split at hf2
    · next c ns vs hi =>
      obtain ⟨⟨hc, hl⟩, hf3⟩ := ite_some hf2
      cases hf3
      cases r2 with
      | ref ea =>
        cases hm2.at_ _ _ _ ea hi with
        | @ins dx fs _ _ _ h1 h2 r =>
          have hc' := hn c (by simpa using hc)
          refine ⟨_, _, dx, fs, rfl, h1, hc'.1, hc'.2, by have := r.length; simp at this; omega, ?_⟩
          obtain ⟨l3, hm3⟩ := hm2.put (u := .ins (He.ga X.K c) dx (putF f v fs)) (o := .ins c (putD f y ns vs).1 (putD f y ns vs).2) ea fun l => by
            obtain ⟨q1, q2⟩ := put_rep (f := f) ((r1.le l2).le l) (r.le l)
            rw [h2] at q1 q2
            exact .ins upd_same q1 q2
          exact k σ _ _ (l1.trans (l2.trans l3)) hm3 (hs.le (l1.trans (l2.trans l3)))
    · cases hf2
  · cases hf2
/-! tracked lists changed -/
theorem lst_tracked {n : Nat} {v : V} {ds : List D} (hm : RepH g T H m) (r : Rep g T H (.ref n) v) (h : m[n]? = some (.lst ds)) : ∃ a vs, v = .ref a ∧ T.μ[n]? = some a ∧ H a = some (.lst vs) ∧ RepL g T H ds vs := by
  cases r with
  | ref e =>
    cases hm.at_ _ _ _ e h with
    | lst f r => exact ⟨_, _, rfl, e, f, r⟩
theorem tyL_of {K : PySem.W.Frag} {a : Addr} {vs : List V} (h : H a = some (.lst vs)) : tyV K "list" (.ref a) H := .inl ⟨rfl, _, SqL.of h⟩
/-- a method of a tracked list: what it gives, and the list behind it -/
def eLm (F : List D → List D → Option (D × List D)) (o : EF) (a : AF) : EF := fun ρ m => bd (o ρ m) fun x m1 => match x with
  | .ref n => match m1[n]? with
    | some (.lst _) => bd (a ρ m1) fun ys m2 => match m2[n]? with
      | some (.lst ds) => (F ds ys).map fun r => (r.1, m2.set n (.lst r.2))
      | _ => none
    | _ => none
  | _ => none
def RfLm (g : G) (r : V → List V → Hp → VK → Prop) (F : M → List D → List D → Option (D × List D)) : Prop := ∀ T H m l xs ds ys vs d es, RepH g T H m → H l = some (.lst xs) → RepL g T H ds xs → RepL g T H ys vs → F m ds ys = some (d, es) → ∀ Q : VK,
  (∀ v zs, RepL g T H es zs → Rep g T H d v → Q v (upd H l (.lst zs))) → r (.ref l) vs H Q
theorem rf_lm {r : V → List V → Hp → VK → Prop} {F : M → List D → List D → Option (D × List D)} {to : TE} {t : TA} {fo : EF} {fa : AF} (hr : RfLm g r F) (ho : RfE g to fo) (ha : RfA g t fa) {ff : EF}
    (hff : ∀ ρ m, ff ρ m = bd (fo ρ m) fun x m1 => match x with
      | .ref n => match m1[n]? with
        | some (.lst _) => bd (fa ρ m1) fun ys m2 => match m2[n]? with
          | some (.lst ds) => (F m2 ds ys).map fun r => (r.1, m2.set n (.lst r.2))
          | _ => none
        | _ => none
      | _ => none) : RfE g (tBM g.K "list" r to t) ff := by
  intro T σ H ρ m d m' hm hs hf Q k
  rw [hff] at hf
  obtain ⟨x, m1, e1, hf1⟩ := bd_some hf
  clear hf
  refine ho T σ H ρ m x m1 hm hs e1 _ fun v T1 H1 l1 hm1 r1 => ?_
  split at hf1
  · next n =>
    split at hf1
    · next ds0 hi0 =>
      obtain ⟨ys, m2, e2, hf2⟩ := bd_some hf1
      obtain ⟨a, vs0, rfl, ea, h0, _⟩ := lst_tracked hm1 r1 hi0
      refine ⟨tyL_of h0, ha T1 σ H1 ρ m1 ys m2 hm1 (hs.le l1) e2 _ fun vs T2 H2 l2 hm2 r2 => ?_⟩
      split at hf2
      · next ds hi =>
        obtain ⟨⟨d', es⟩, h3, h4⟩ := Option.map_eq_some_iff.mp hf2
        obtain ⟨rfl, rfl⟩ : d' = d ∧ _ = m' := by injection h4 with h5 h6; exact ⟨h5, h6⟩
        obtain ⟨a', xs, e, ea2, h5, r5⟩ := lst_tracked hm2 (r1.le l2) hi
        cases e
        refine hr T2 H2 m2 a xs ds ys vs d' es hm2 h5 r5 r2 h3 Q fun v zs rz rv => ?_
        obtain ⟨l3, hm3⟩ := hm2.put (u := .lst zs) (o := .lst es) ea2 fun l => .lst upd_same (rz.le l)
        exact k v T2 _ (l1.trans (l2.trans l3)) hm3 (rv.le l3)
      · cases hf2
    · cases hf1
  · cases hf1
def appL (ds ys : List D) : Option (D × List D) := match ys with
  | [y] => if ds.length < sizeLine then some (.non, ds ++ [y]) else none
  | _ => none
def popL (ds ys : List D) : Option (D × List D) := match ys with
  | [] => match ds.getLast? with
    | some d => some (d, ds.dropLast)
    | none => none
  | _ => none
def extL (m : M) (ds ys : List D) : Option (D × List D) := match ys with
  | [y] => match lstOf m y with
    | some es => if ds.length + es.length ≤ sizeLine then some (.non, ds ++ es) else none
    | none => none
  | _ => none
def eLm0 (F : M → List D → List D → Option (D × List D)) (o : EF) (a : AF) : EF := fun ρ m => bd (o ρ m) fun x m1 => match x with
  | .ref n => match m1[n]? with
    | some (.lst _) => bd (a ρ m1) fun ys m2 => match m2[n]? with
      | some (.lst ds) => (F m2 ds ys).map fun r => (r.1, m2.set n (.lst r.2))
      | _ => none
    | _ => none
  | _ => none
theorem rfl_app : RfLm g rAppend (fun _ => appL) := by
  intro T H m l xs ds ys vs d es hm hl rd ry hf Q k
  change appL ds ys = some (d, es) at hf
  unfold appL at hf
  split at hf
  · obtain ⟨hz, hf⟩ := ite_some hf
    cases hf
    cases ry with
    | cons r1 r2 => cases r2; exact ⟨l, xs, _, rfl, rfl, hl, by rw [← rd.length]; exact hz, k _ _ (rd.append (.cons r1 .nil)) .non⟩
  · cases hf
theorem RepL.last {ds : List D} {vs : List V} {d : D} (r : RepL g T H ds vs) (h : ds.getLast? = some d) : ∃ v, vs[vs.length - 1]? = some v ∧ Rep g T H d v := by
  rw [List.getLast?_eq_getElem?] at h
  obtain ⟨v, e, q⟩ := r.get h
  rw [r.length] at e
  exact ⟨v, e, q⟩
theorem RepL.dropLast {ds : List D} {vs : List V} (r : RepL g T H ds vs) : RepL g T H ds.dropLast vs.dropLast := by
  rw [List.dropLast_eq_take, List.dropLast_eq_take, r.length]
  exact r.take _
theorem rfl_pop : RfLm g rPop (fun _ => popL) := by
  intro T H m l xs ds ys vs d es hm hl rd ry hf Q k
  change popL ds ys = some (d, es) at hf
  unfold popL at hf
  split at hf
  · split at hf
    · next h =>
      cases hf
      cases ry
      obtain ⟨v, e, q⟩ := rd.last h
      exact ⟨l, xs, v, rfl, rfl, hl, e, k _ _ rd.dropLast q⟩
    · cases hf
  · cases hf
theorem rfl_ext : RfLm g rExtend extL := by
  intro T H m l xs ds ys vs d es hm hl rd ry hf Q k
  unfold extL at hf
  split at hf
  · split at hf
    · next h =>
      obtain ⟨hz, hf⟩ := ite_some hf
      cases hf
      cases ry with
      | cons r1 r2 =>
        cases r2
        obtain ⟨b, zs, rfl, hb, rz⟩ := lst_rep hm r1 h
        exact ⟨l, b, xs, zs, rfl, rfl, hl, hb, by rw [← rd.length, ← rz.length]; exact hz, k _ _ (rd.append rz) .non⟩
    · cases hf
  · cases hf
theorem de_lm {name : Str} {id : String} {r : V → List V → Hp → VK → Prop} {F : M → List D → List D → Option (D × List D)} {fo : EF} {f : AF} (slot : Slot "list" name id) (hty : typeOf (.builtin id) = pure (.type "method_descriptor")) (hm : MtR X id r) (hr : RfLm (gx X) r F) (ho : DE X o fo) (ha : DA X (e :: es) f)
    (hbase : attributeBase o name X.env (eval o X.env) = eval o X.env := by rfl)
    (hfew : ((backTo pos (starEach (e :: es) X.env)).all (fun x => !x.1) && (backToKw pos (keywordEach [] X.env)).all (fun x => x.1.isSome)
      && decide ((e :: es).length + ([] : List Keyword).length + (if ([] : List Keyword).isEmpty then 0 else 1) < 30)) = true := by rfl)
    (hline : (apos.endLine == pos.line) = true := by rfl) (hs : starEach (e :: es) X.env = (false, eval e X.env) :: starEach es X.env := by rfl) (hplain : (backTo pos (starEach es X.env)).any (·.1) = false := by rfl) :
    DE X (.Call (.Attribute o name apos) (e :: es) [] pos) (eLm0 F fo f) := by
  obtain ⟨to, po, ro⟩ := ho.ex; obtain ⟨t, pa, ra⟩ := ha.ex
  exact ⟨_, pe_bm PySem.F.plainAttrs_list slot hty hm po pa hbase hfew hline hs hplain, rf_lm hr ro ra fun _ _ => rfl⟩
theorem de_lm0 {name : Str} {id : String} {r : V → List V → Hp → VK → Prop} {F : M → List D → List D → Option (D × List D)} {fo : EF} (slot : Slot "list" name id) (hty : typeOf (.builtin id) = pure (.type "method_descriptor")) (hm : MtR X id r) (hr : RfLm (gx X) r F) (ho : DE X o fo)
    (hbase : attributeBase o name X.env (eval o X.env) = eval o X.env := by rfl) (hline : (apos.endLine == pos.line) = true := by rfl) : DE X (.Call (.Attribute o name apos) [] [] pos) (eLm0 F fo aNil) := by
  obtain ⟨to, po, ro⟩ := ho.ex
  refine ⟨_, pe_bm0 PySem.F.plainAttrs_list slot hty hm po hbase hline, fun T σ H ρ m d m' hm hs hf Q k => ?_⟩
  exact rf_lm hr ro rf_nil (fun _ _ => rfl) T σ H ρ m d m' hm hs hf Q k
theorem de_append {fo : EF} {f : AF} (ho : DE X o fo) (ha : DA X [e] f) (hbase : attributeBase o "append" X.env (eval o X.env) = eval o X.env := by rfl) (hline : (apos.endLine == pos.line) = true := by rfl) (hs : starEach [e] X.env = [(false, eval e X.env)] := by rfl)
    (hfew : ((backTo pos (starEach [e] X.env)).all (fun x => !x.1) && (backToKw pos (keywordEach [] X.env)).all (fun x => x.1.isSome) && decide ([e].length + ([] : List Keyword).length + (if ([] : List Keyword).isEmpty then 0 else 1) < 30)) = true := by rfl) :
    DE X (.Call (.Attribute o "append" apos) [e] [] pos) (eLm0 (fun _ => appL) fo f) := de_lm PySem.F.slot_list_append PySem.F.type_list_append mt_append rfl_app ho ha hbase hfew hline hs rfl
theorem de_extend {fo : EF} {f : AF} (ho : DE X o fo) (ha : DA X [e] f) (hbase : attributeBase o "extend" X.env (eval o X.env) = eval o X.env := by rfl) (hline : (apos.endLine == pos.line) = true := by rfl) (hs : starEach [e] X.env = [(false, eval e X.env)] := by rfl)
    (hfew : ((backTo pos (starEach [e] X.env)).all (fun x => !x.1) && (backToKw pos (keywordEach [] X.env)).all (fun x => x.1.isSome) && decide ([e].length + ([] : List Keyword).length + (if ([] : List Keyword).isEmpty then 0 else 1) < 30)) = true := by rfl) :
    DE X (.Call (.Attribute o "extend" apos) [e] [] pos) (eLm0 extL fo f) := de_lm PySem.F.slot_list_extend PySem.F.type_list_extend mt_extend rfl_ext ho ha hbase hfew hline hs rfl
theorem de_pop {fo : EF} (ho : DE X o fo) (hbase : attributeBase o "pop" X.env (eval o X.env) = eval o X.env := by rfl) (hline : (apos.endLine == pos.line) = true := by rfl) :
    DE X (.Call (.Attribute o "pop" apos) [] [] pos) (eLm0 (fun _ => popL) fo aNil) := de_lm0 PySem.F.slot_list_pop PySem.F.type_list_pop mt_pop rfl_pop ho hbase hline
/-! xs[i] = e -/
def gSetL (o i : EF) : GF := fun d ρ m => bd (o ρ m) fun x m1 => bd (i ρ m1) fun y m2 => match x, y with
  | .ref n, .int k => match m2[n]? with
    | some (.lst ds) => match L2.ixN ds.length k with
      | some j => some (ρ, m2.set n (.lst (ds.set j d)))
      | none => none
    | _ => none
  | _, _ => none
theorem RepL.setAt {ds : List D} {vs : List V} {d : D} {v : V} {j : Nat} (r : RepL g T H ds vs) (q : Rep g T H d v) : RepL g T H (ds.set j d) (vs.set j v) := by
  induction j generalizing ds vs with
  | zero => cases r with
    | nil => exact .nil
    | cons _ s => exact .cons q s
  | succ j ih => cases r with
    | nil => exact .nil
    | cons a s => exact .cons a (ih s)
theorem dg_sub {i : Expr} {fo fi : EF} (ho : DE X o fo) (hi : DE X i fi) (hx : ∀ v, assign (.Subscript o i pos) X.env v = (do
      let ov ← holding [v] (eval o X.env)
      let iv ← holding [v, ov] (eval i X.env)
      standAt pos
      holding [v, ov, iv] (setItem ov iv v)
      release [v, ov, iv] []) := by intro _; rfl) : DG X (.Subscript o i pos) (gSetL fo fi) := by
  obtain ⟨to, po, ro⟩ := ho.ex; obtain ⟨ti, pi, ri⟩ := hi.ex
  refine ⟨_, pg_sub po pi set_list hx, fun T σ H ρ m d v ρ' m' hm hs r hf Q k => ?_⟩
  obtain ⟨x, m1, e1, hf1⟩ := bd_some hf
  obtain ⟨y, m2, e2, hf2⟩ := bd_some hf1
  clear hf hf1
  refine ro T σ H ρ m x m1 hm hs e1 _ fun u T1 H1 l1 hm1 r1 => ?_
  refine ri T1 σ H1 ρ m1 y m2 hm1 (hs.le l1) e2 _ fun w T2 H2 l2 hm2 r2 => ?_
  split at hf2
  · next n kk =>
    split at hf2
    · next ds hd =>
      split at hf2
      · next j hj =>
        cases hf2
        obtain ⟨a, vs, rfl, ea, h5, r5⟩ := lst_tracked hm2 (r1.le l2) hd
        cases r2
        refine ⟨a, vs, kk, j, rfl, rfl, h5, by rw [← r5.length]; exact hj, ?_⟩
        obtain ⟨l3, hm3⟩ := hm2.put (u := .lst (vs.set j v)) (o := .lst (ds.set j d)) ea fun l => .lst upd_same ((r5.le l).setAt ((r.le (l1.trans l2)).le l))
        exact k _ T2 _ (l1.trans (l2.trans l3)) hm3 (hs.le (l1.trans (l2.trans l3)))
      · cases hf2
    · cases hf2
  · cases hf2
end
end L4

namespace L4
open PySem L2
section
variable {X : Cx} {g : G} {T T' : Tk} {H : Hp} {m : M} {Q : VK} {pos p apos : Pos} {e o : Expr} {es : List Expr} {k n : Nat} {x c nm : Str}
theorem Gd.blk {s : Shared} {H : Hp} {sc : Scope} {ev : Env} {fp : List Addr} (h : Gd k X) : Gd k (X.blk s H sc ev fp) := ⟨h.g, h.r⟩
/-! calls of built-ins -/
theorem de_callB {id : String} {F : M → List D → Option D} {f : AF} (hc : CallD X (.builtin id) F) (hg : Gl X x) (hm : X.mg x = none) (hv : bootBuiltins x = some (.builtin id)) (ha : DA X (e :: es) f) (hn : x ≠ "__name__" := by decide) (hdb : (x == ("__debug__" : Str)) = false := by decide)
    (he : starEach (e :: es) X.env = (false, eval e X.env) :: starEach es X.env := by rfl) (hpl : (backTo pos (starEach es X.env)).any (·.1) = false := by rfl) : DE X (.Call (.Name x p) (e :: es) [] pos) (eCall F f) := by
  obtain ⟨r, h, q⟩ := hc.ex; obtain ⟨t, pa, ra⟩ := ha.ex
  exact ⟨_, pe_callB h hg hm hv pa hn hdb he hpl, rf_call q ra⟩
theorem de_callT {id : String} {F : M → List D → Option D} {f : AF} (hc : CallD X (.type id) F) (hg : Gl X x) (hm : X.mg x = none) (hv : bootBuiltins x = some (.type id)) (ha : DA X (e :: es) f) (hn : x ≠ "__name__" := by decide) (hdb : (x == ("__debug__" : Str)) = false := by decide)
    (he : starEach (e :: es) X.env = (false, eval e X.env) :: starEach es X.env := by rfl) (hpl : (backTo pos (starEach es X.env)).any (·.1) = false := by rfl) : DE X (.Call (.Name x p) (e :: es) [] pos) (eCall F f) := by
  obtain ⟨r, h, q⟩ := hc.ex; obtain ⟨t, pa, ra⟩ := ha.ex
  exact ⟨_, pe_callTy h hg hm hv pa hn hdb he hpl, rf_call q ra⟩
theorem orC {F : Value} {r q : List V → Hp → VK → Prop} (h1 : CallR X F r) (h2 : CallR X F q) : CallR X F (fun x H Q => r x H Q ∨ q x H Q) := by
  intro pins s σ H xs us Q I rx h
  rcases h with h | h
  · exact h1 pins s σ H xs us Q I rx h
  · exact h2 pins s σ H xs us Q I rx h
theorem RepL.one {d : D} {vs : List V} (r : RepL g T H [d] vs) : ∃ v, vs = [v] ∧ Rep g T H d v := by
  cases r with
  | cons r s => cases s; exact ⟨_, rfl, r⟩
theorem RepL.two {d e : D} {vs : List V} (r : RepL g T H [d, e] vs) : ∃ v w, vs = [v, w] ∧ Rep g T H d v ∧ Rep g T H e w := by
  cases r with
  | cons r s => obtain ⟨w, rfl, q⟩ := s.one; exact ⟨_, _, rfl, r, q⟩
def absD : M → List D → Option D
  | _, [.int i] => some (.int (if i < 0 then -i else i))
  | _, _ => none
theorem call_abs' : CallD X (.builtin "abs") absD := ⟨_, call_abs, fun T H m xs vs d hm r hf Q k => by
  unfold absD at hf; split at hf
  · cases hf; obtain ⟨v, rfl, q⟩ := r.one; cases q; exact ⟨_, rfl, k.now hm (.int _)⟩
  · cases hf⟩
def min2D : M → List D → Option D
  | _, [.int i, .int j] => some (.int (if j < i then j else i))
  | _, _ => none
theorem call_min2'' (hc : X.calm = true) : CallD X (.builtin "min") min2D := ⟨_, call_min2 hc, fun T H m xs vs d hm r hf Q k => by
  unfold min2D at hf; split at hf
  · cases hf; obtain ⟨v, w, rfl, q1, q2⟩ := r.two; cases q1; cases q2; exact ⟨_, _, rfl, k.now hm (.int _)⟩
  · cases hf⟩
def max2D : M → List D → Option D
  | _, [.int i, .int j] => some (.int (if j > i then j else i))
  | _, _ => none
theorem call_max2'' (hc : X.calm = true) : CallD X (.builtin "max") max2D := ⟨_, call_max2 hc, fun T H m xs vs d hm r hf Q k => by
  unfold max2D at hf; split at hf
  · cases hf; obtain ⟨v, w, rfl, q1, q2⟩ := r.two; cases q1; cases q2; exact ⟨_, _, rfl, k.now hm (.int _)⟩
  · cases hf⟩
def intD : M → List D → Option D
  | _, [.int i] => some (.int i)
  | _, [.bl b] => some (.int (if b then 1 else 0))
  | _, [.str a] => if a.length ≤ 640 then (PySem.intText? a).map .int else none
  | _, _ => none
theorem call_int' : CallD X (.type "int") intD := ⟨_, orC call_int1 call_int_str, fun T H m xs vs d hm r hf Q k => by
  unfold intD at hf; split at hf
  · cases hf; obtain ⟨v, rfl, q⟩ := r.one; cases q; exact .inl (.inl ⟨_, rfl, k.now hm (.int _)⟩)
  · cases hf; obtain ⟨v, rfl, q⟩ := r.one; cases q; exact .inl (.inr ⟨_, rfl, k.now hm (.int _)⟩)
  · obtain ⟨hz, hf⟩ := ite_some hf
    obtain ⟨n, hn, rfl⟩ := Option.map_eq_some_iff.mp hf
    obtain ⟨v, rfl, q⟩ := r.one; cases q; exact .inr ⟨_, n, rfl, hn, hz, k.now hm (.int _)⟩
  · cases hf⟩
def lenD : M → List D → Option D
  | _, [.tup ds] => some (.int ds.length)
  | _, [.str a] => if a.length ≤ sizeLine then some (.int a.length) else none
  | m, [x] => (lstR m x).map fun ds => .int ds.length
  | _, _ => none
theorem call_len' : CallD X (.builtin "len") lenD := ⟨_, call_len, fun T H m xs vs d hm r hf Q k => by
  unfold lenD at hf; split at hf
  · cases hf; obtain ⟨v, rfl, q⟩ := r.one
    obtain ⟨a, ws, rfl, hx, rl⟩ := tup_rep q
    exact ⟨_, _, rfl, .inr ⟨ws, hx, rl.length⟩, k.now hm (.int _)⟩
  · obtain ⟨hz, hf⟩ := ite_some hf
    cases hf; obtain ⟨v, rfl, q⟩ := r.one; cases q; exact ⟨_, _, rfl, ⟨hz, rfl⟩, k.now hm (.int _)⟩
  · obtain ⟨ds, h1, rfl⟩ := Option.map_eq_some_iff.mp hf
    obtain ⟨v, rfl, q⟩ := r.one
    obtain ⟨a, ws, rfl, hx, rl⟩ := lstR_rep hm q h1
    exact ⟨_, _, rfl, .inl ⟨ws, hx, rl.length⟩, k.now hm (.int _)⟩
  · cases hf⟩
def strD : M → List D → Option D
  | _, [.int i] => if i.natAbs.log2 < 1920 then some (.str (toString i)) else none
  | _, _ => none
theorem call_str' : CallD X (.type "str") strD := ⟨_, call_str_int, fun T H m xs vs d hm r hf Q k => by
  unfold strD at hf; split at hf
  · obtain ⟨hz, hf⟩ := ite_some hf
    cases hf; obtain ⟨v, rfl, q⟩ := r.one; cases q; exact ⟨_, rfl, hz, k.now hm (.str _)⟩
  · cases hf⟩
def tupD : M → List D → Option D
  | _, [.tup ds] => some (.tup ds)
  | m, [x] => (lstR m x).map .tup
  | _, _ => none
theorem call_tup' : CallD X (.type "tuple") tupD := ⟨_, call_tuple_of, fun T H m xs vs d hm r hf Q k => by
  unfold tupD at hf; split at hf
  · cases hf; obtain ⟨v, rfl, q⟩ := r.one
    obtain ⟨a, ws, rfl, hx, rl⟩ := tup_rep q
    exact ⟨a, ws, rfl, .inr ⟨hx, k.now hm q⟩⟩
  · obtain ⟨ds, h1, rfl⟩ := Option.map_eq_some_iff.mp hf
    obtain ⟨v, rfl, q⟩ := r.one
    obtain ⟨a, ws, rfl, hx, rl⟩ := lstR_rep hm q h1
    exact ⟨a, ws, rfl, .inl ⟨hx, fun l hl => k.tup hm rl l hl⟩⟩
  · cases hf⟩
def lisD : M → List D → Option D
  | _, [.tup ds] => some (.lst ds)
  | m, [x] => (lstR m x).map .lst
  | _, _ => none
theorem call_lis' : CallD X (.type "list") lisD := ⟨_, call_list_of, fun T H m xs vs d hm r hf Q k => by
  unfold lisD at hf; split at hf
  · cases hf; obtain ⟨v, rfl, q⟩ := r.one
    obtain ⟨a, ws, rfl, hx, rl⟩ := tup_rep q
    exact ⟨a, ws, rfl, .inr hx, fun l hl => k.lst hm rl l hl⟩
  · obtain ⟨ds, h1, rfl⟩ := Option.map_eq_some_iff.mp hf
    obtain ⟨v, rfl, q⟩ := r.one
    obtain ⟨a, ws, rfl, hx, rl⟩ := lstR_rep hm q h1
    exact ⟨a, ws, rfl, .inl hx, fun l hl => k.lst hm rl l hl⟩
  · cases hf⟩
/-- list(x) that is changed behind it -/
def eLisN (a : EF) : EF := fun ρ m => bd (a ρ m) fun x m1 => match lisD m1 [x] with
  | some (.lst ds) => some (.ref m1.length, m1 ++ [.lst ds])
  | _ => none
theorem de_lisN {f : EF} (hg : Gl X "list") (hm : X.mg "list" = none) (ha : DE X e f) (he : starEach [e] X.env = (false, eval e X.env) :: starEach [] X.env := by rfl) : DE X (.Call (.Name "list" p) [e] [] pos) (eLisN f) := by
  obtain ⟨t, pa, ra⟩ := ha.ex
  refine ⟨_, pe_callTy call_list_of hg hm (by decide +kernel) (pa_cons pa pa_nil he) (by decide) (by decide) he rfl, fun T σ H ρ m d m' hm hs hf Q k => ?_⟩
  obtain ⟨x, m1, e1, hf⟩ := bd_some hf
  refine ra T σ H ρ m x m1 hm hs e1 _ fun v T1 H1 l1 hm1 r1 => ?_
  split at hf
  · next ds h =>
    cases hf
    unfold lisD at h
    split at h
    · next h2 =>
      cases h; cases h2
      obtain ⟨a, ws, rfl, hx, rl⟩ := tup_rep r1
      exact ⟨a, ws, rfl, .inr hx, fun l hl => (k.le l1).newL hm1 rl l hl⟩
    · next h2 =>
      cases h2
      obtain ⟨es, h3, h4⟩ := Option.map_eq_some_iff.mp h
      cases h4
      obtain ⟨a, ws, rfl, hx, rl⟩ := lstR_rep hm1 r1 h3
      exact ⟨a, ws, rfl, .inl hx, fun l hl => (k.le l1).newL hm1 rl l hl⟩
    · cases h
  · cases hf
/-! isinstance -/
def tyO : O → Option String
  | .lst _ => some "list"
  | _ => none
def tyName (m : M) : D → Option String
  | .non => some "NoneType"
  | .bl _ => some "bool"
  | .int _ => some "int"
  | .str _ => some "str"
  | .tup _ => some "tuple"
  | .lst _ => some "list"
  | .scr _ => some "list"
  | .ref n => (m[n]?).bind tyO
  | _ => none
def isiB (t c : String) : Bool := t == c || (t == "bool" && c == "int")
def kinds : List String := ["int", "bool", "str", "tuple", "list"]
def isiD : M → List D → Option D
  | m, [x, .ty c] => if kinds.contains c then (tyName m x).map fun t => .bl (isiB t c) else none
  | m, [x, .tup [.ty c, .ty c']] => if kinds.contains c && kinds.contains c' then (tyName m x).map fun t => .bl (isiB t c || isiB t c') else none
  | _, _ => none
theorem tyX_of {d : D} {v : V} {t : String} (hm : RepH g T H m) (r : Rep g T H d v) (h : tyName m d = some t) : TyX g.K H v (.type t) := by
  cases r with
  | non => cases h; exact .base .non
  | bl b => cases h; exact .base (.bl b)
  | int b => cases h; exact .base (.int b)
  | str b => cases h; exact .base (.str b)
  | tup f _ =>
    cases h
    rcases f with ⟨_, f⟩ | f
    · exact .base (.tup f)
    · rcases f with (f | ⟨_, f⟩) | ⟨o, its, n, h1, h2, _⟩
      · cases f
      · cases f
      · exact .kTuple h1 h2
  | lst f _ => cases h; exact .base (.lst f.2)
  | scr f _ =>
    cases h
    rcases f with ⟨_, o, f⟩ | f
    · exact .base (.frz f)
    · rcases f with (f | ⟨_, f⟩) | ⟨o, its, n, h1, h2, _⟩
      · cases f
      · cases f
      · exact .kList h1 h2
  | ref e =>
    obtain ⟨o, h1, h2⟩ := Option.bind_eq_some_iff.mp h
    cases hm.at_ _ _ _ e h1 with
    | lst f r => cases h2; exact .base (.lst f)
    | _ => cases h2
  | _ => cases h
theorem tyO_lst {o : O} {t : String} (h : tyO o = some t) : t = "list" := by
  cases o with
  | lst ds => cases h; rfl
  | _ => cases h
theorem tyName_mem {d : D} {t : String} (h : tyName m d = some t) : t ∈ ["NoneType", "bool", "int", "str", "tuple", "list"] := by
  cases d with
  | ref n =>
    obtain ⟨o, h1, h2⟩ := Option.bind_eq_some_iff.mp h
    rw [tyO_lst h2]
    decide
  | non => cases h; decide
  | bl b => cases h; decide
  | int b => cases h; decide
  | str b => cases h; decide
  | tup b => cases h; decide
  | lst b => cases h; decide
  | scr b => cases h; decide
  | _ => cases h
theorem kit_isi : ∀ t ∈ ["NoneType", "bool", "int", "str", "tuple", "list"], ∀ c ∈ kinds, kitB t c = some (isiB t c) := by decide +kernel
theorem call_isi' : CallD X (.builtin "isinstance") isiD := ⟨_, orC call_isi (orC call_isiT call_isiK), fun T H m xs vs d hm r hf Q k => by
  unfold isiD at hf; split at hf
  · next y c =>
    obtain ⟨hc, hf⟩ := ite_some hf
    obtain ⟨t, h1, rfl⟩ := Option.map_eq_some_iff.mp hf
    obtain ⟨v, w, rfl, q1, q2⟩ := r.two
    cases q2
    exact .inl ⟨_, _, _, _, _, rfl, .ty _, tyX_of hm q1 h1, kit_ty (kit_isi t (tyName_mem h1) c (by simpa using hc)), k.now hm (.bl _)⟩
  · next y c c' =>
    obtain ⟨hc, hf⟩ := ite_some hf
    obtain ⟨t, h1, rfl⟩ := Option.map_eq_some_iff.mp hf
    obtain ⟨v, w, rfl, q1, q2⟩ := r.two
    obtain ⟨hc1, hc2⟩ := and2 hc
    have k1 := kit_isi t (tyName_mem h1) c (by simpa using hc1)
    have k2 := kit_isi t (tyName_mem h1) c' (by simpa using hc2)
    cases q2 with
    | tup f rl =>
      obtain ⟨v1, v2, rfl, z1, z2⟩ := rl.two
      cases z1; cases z2
      have key : PySem.W.kitAny X.K (.type t) [.type c, .type c'] = some (isiB t c || isiB t c') := by
        unfold PySem.W.kitAny
        rw [kit_ty k1]
        cases h2 : isiB t c with
        | true => rfl
        | false =>
          show PySem.W.kitAny _ _ _ = _
          unfold PySem.W.kitAny
          rw [kit_ty k2]
          cases h3 : isiB t c' <;> rfl
      rcases f with ⟨_, f⟩ | f
      · exact .inr (.inl ⟨_, _, _, _, _, _, rfl, f, .cons (.ty _) (.cons (.ty _) .nil), tyX_of hm q1 h1, key, k.now hm (.bl _)⟩)
      · rcases f with (f | ⟨_, f⟩) | ⟨⟨cl, dd, dt, sl⟩, its, n, h5, h6, h7, _, h8⟩
        · cases f
        · cases f
        · simp only at h6 h7
          subst h6 h7
          have e : its = #[.type c, .type c'] := by
            cases hi : its.toList with
            | nil => rw [hi] at h8; cases h8
            | cons a b =>
              rw [hi] at h8
              cases h8 with
              | cons y1 y2 =>
                cases y2 with
                | cons y3 y4 =>
                  cases y4
                  cases (show a = Value.type c from y1)
                  cases (show _ = Value.type c' from y3)
                  exact Array.ext' hi
          subst e
          exact .inr (.inr ⟨_, _, dd, [.type c, .type c'], n, sl, _, _, rfl, h5, tyX_of hm q1 h1, key, k.now hm (.bl _)⟩)
  · cases hf⟩
theorem de_ty {t : String} (hg : Gl X x) (hm : X.mg x = none) (hv : bootBuiltins x = some (.type t)) (hn : x ≠ "__name__" := by decide) (hd : (x == ("__debug__" : Str)) = false := by decide) : DE X (.Name x pos) (eC (.ty t)) :=
  ⟨_, pe_bltn (v := .ty t) hg hm hv rfl hn hd, rf_c fun _ _ => .ty t⟩
theorem de_glo (hg : Gl X x) (hm : X.mg x = some (.ref (He.ga X.K x))) (hd : (x == ("__debug__" : Str)) = false := by decide) : DE X (.Name x pos) (eC (.glo x)) :=
  ⟨_, pe_glob (v := .ref (He.ga X.K x)) hg hm rfl hd, rf_c fun _ _ => .glo x⟩
/-- a tuple of the top -/
theorem de_gtup {ds : List D} {vs : List V} (hg : Gl X x) (hm : X.mg x = some (.ref (He.ga X.K x))) (h : ∀ H, SqT X.K H (He.ga X.K x) vs) (hr : ∀ T H, RepL (gx X) T H ds vs) (hd : (x == ("__debug__" : Str)) = false := by decide) : DE X (.Name x pos) (eC (.tup ds)) :=
  ⟨_, pe_glob (v := .ref (He.ga X.K x)) hg hm rfl hd, rf_c fun T H => .tup (.inr (h _)) (hr T H)⟩
theorem de_gstr {v : Str} (hg : Gl X x) (hm : ∃ t, X.mg x = some (.str v t)) (hd : (x == ("__debug__" : Str)) = false := by decide) : DE X (.Name x pos) (eC (.str v)) := by
  obtain ⟨t, hm⟩ := hm
  exact ⟨_, pe_glob (v := .str v) hg hm ⟨t, rfl⟩ hd, rf_c fun T H => .str v⟩
theorem de_gint {v : Int} (hg : Gl X x) (hm : ∃ t, X.mg x = some (.int v t)) (hd : (x == ("__debug__" : Str)) = false := by decide) : DE X (.Name x pos) (eC (.int v)) := by
  obtain ⟨t, hm⟩ := hm
  exact ⟨_, pe_glob (v := .int v) hg hm ⟨t, rfl⟩ hd, rf_c fun T H => .int v⟩
/-! texts -/
def eM1 (F : M → D → D → Option D) (a b : EF) : EF := fun ρ m => bd (a ρ m) fun x m1 => match x with
  | .str z => bd (b ρ m1) fun y m2 => pu (F m2 (.str z) y) m2
  | _ => none
theorem rf_m1 {r : V → List V → Hp → VK → Prop} {F : M → D → D → Option D} {ta tb : TE} {a b : EF} (hr : ∀ T H m z y u d, RepH g T H m → Rep g T H y u → F m (.str z) y = some d → ∀ Q, KV g T H m d Q → r (.str z) [u] H Q) (ha : RfE g ta a) (hb : RfE g tb b) : RfE g (tM1 r ta tb) (eM1 F a b) := by
  intro T σ H ρ m d m' hm hs hf Q k
  obtain ⟨x, m1, e1, hf1⟩ := bd_some hf
  refine ha T σ H ρ m x m1 hm hs e1 _ fun v T1 H1 l1 hm1 r1 => ?_
  clear hf
  cases r1 with
  | str z =>
    obtain ⟨y, m2, e2, hf⟩ := bd_some hf1
    obtain ⟨e3, rfl⟩ := pu_some hf
    refine ⟨⟨z, rfl⟩, hb T1 σ H1 ρ m1 y _ hm1 (hs.le l1) e2 _ fun u T2 H2 l2 hm2 r2 => ?_⟩
    exact hr T2 H2 _ z y u d hm2 r2 e3 Q (k.le (l1.trans l2))
  | _ => cases hf1
def spl1 (c : Nat) : List Nat → List (List Nat)
  | [] => [[]]
  | x :: xs => if x = c then [] :: spl1 c xs else match spl1 c xs with
    | w :: ws => (x :: w) :: ws
    | [] => [[x]]
theorem spl1_ne (c : Nat) : ∀ l : List Nat, ∃ w ws, spl1 c l = w :: ws
  | [] => ⟨_, _, rfl⟩
  | x :: xs => by
    obtain ⟨w, ws, e⟩ := spl1_ne c xs
    simp only [spl1, e]
    split <;> exact ⟨_, _, rfl⟩
theorem spl_one (c : Nat) : ∀ (l acc w : List Nat) (ws : List (List Nat)), spl1 c l = w :: ws → TL.spl [c] 0 acc l = (acc ++ w) :: ws
  | [], acc, w, ws, h => by cases h; simp [TL.spl]
  | x :: xs, acc, w, ws, h => by
    obtain ⟨v, vs, e⟩ := spl1_ne c xs
    simp only [spl1, e] at h
    by_cases hx : x = c
    · rw [if_pos hx] at h
      cases h
      have hp : TL.pre [c] (x :: xs) = true := by simp [TL.pre, hx]
      simp only [TL.spl, hp, if_true, List.length_singleton, Nat.sub_self, List.append_nil]
      rw [spl_one c xs [] v vs e]
      simp
    · rw [if_neg hx] at h
      cases h
      have hp : TL.pre [c] (x :: xs) = false := by simp [TL.pre]; exact fun z => hx (by first | exact z | exact z.symm)
      simp only [TL.spl, hp, Bool.false_eq_true, if_false]
      rw [spl_one c xs _ _ _ e]
      simp
def splitS (a : Str) (c : Nat) : List Str := (spl1 c a.cps.toList).map fun l => ⟨l.toArray⟩
theorem splitS_eq {a : Str} {c : Nat} (hc : c < 256) : Txt.split a ⟨#[c]⟩ = splitS a c := by
  obtain ⟨w, ws, e⟩ := spl1_ne c a.cps.toList
  have h := SX.split_S (a := a.cps.toList) (b := [c]) (by simp) (by simpa using hc)
  rw [spl_one c _ [] w ws e] at h
  unfold splitS
  rw [e]
  have ea : (SX.S a.cps.toList : Str) = a := by cases a; rfl
  rw [ea] at h
  simpa using h
def splitD : M → D → D → Option D
  | _, .str a, .str b => match b.cps.toList with
    | [c] => if c < 256 ∧ a.length + 2 ≤ sizeLine then some (.lst ((splitS a c).map .str)) else none
    | _ => none
  | _, _, _ => none
theorem repL_strs (ys : List Str) : RepL g T H (ys.map .str) (ys.map V.str) := by
  induction ys with
  | nil => exact .nil
  | cons y ys ih => exact .cons (.str y) ih
theorem de_split {fo fe : EF} (ho : DE X o fo) (he : DE X e fe) (hs : starEach [e] X.env = [(false, eval e X.env)] := by rfl) (hbase : attributeBase o "split" X.env (eval o X.env) = eval o X.env := by rfl) (hline : (apos.endLine == pos.line) = true := by rfl) :
    DE X (.Call (.Attribute o "split" apos) [e] [] pos) (eM1 splitD fo fe) := by
  obtain ⟨to, po, ro⟩ := ho.ex; obtain ⟨te, pe, re⟩ := he.ex
  refine ⟨_, pe_split po pe hs hbase hline, rf_m1 (fun T H m z y u d hm ry hf Q k => ?_) ro re⟩
  cases ry with
  | str b =>
    change (match b.cps.toList with
      | [c] => if c < 256 ∧ z.length + 2 ≤ sizeLine then some (.lst ((splitS z c).map .str)) else none
      | _ => none) = some d at hf
    split at hf
    · next c hc =>
      obtain ⟨⟨h1, h2⟩, hf⟩ := ite_some hf
      cases hf
      have eb := sign_of hc
      subst eb
      exact ⟨z, _, rfl, rfl, rfl, h2, fun p hp => by rw [splitS_eq h1]; exact k.lst hm (repL_strs _) p hp⟩
    · cases hf
  | _ => cases hf
def txts : List D → Option (List Str)
  | [] => some []
  | .str x :: ds => (txts ds).map (x :: ·)
  | _ => none
theorem txts_rep : ∀ {ds : List D} {ys : List Str} {vs : List V}, txts ds = some ys → RepL g T H ds vs → vs = ys.map V.str
  | [], _, _, h, r => by cases h; cases r; rfl
  | .str x :: ds, _, _, h, r => by
    obtain ⟨ys, h1, rfl⟩ := Option.map_eq_some_iff.mp h
    cases r with
    | cons a s => cases a; rw [txts_rep h1 s]; rfl
  | .non :: _, _, _, h, _ => by cases h
  | .bl _ :: _, _, _, h, _ => by cases h
  | .int _ :: _, _, _, h, _ => by cases h
  | .tup _ :: _, _, _, h, _ => by cases h
  | .lst _ :: _, _, _, h, _ => by cases h
  | .scr _ :: _, _, _, h, _ => by cases h
  | .dic _ _ :: _, _, _, h, _ => by cases h
  | .obj _ _ _ :: _, _, _, h, _ => by cases h
  | .ref _ :: _, _, _, h, _ => by cases h
  | .glo _ :: _, _, _, h, _ => by cases h
  | .ty _ :: _, _, _, h, _ => by cases h
def seqD (m : M) : D → Option (List D)
  | .tup ds => some ds
  | y => lstR m y
theorem seq_rep {d : D} {v : V} {ds : List D} (hm : RepH g T H m) (r : Rep g T H d v) (h : seqD m d = some ds) : ∃ a vs, v = .ref a ∧ (SqL g.K H a vs ∨ SqT g.K H a vs) ∧ RepL g T H ds vs := by
  unfold seqD at h
  split at h
  · cases h
    obtain ⟨a, ws, rfl, hx, rl⟩ := tup_rep r
    exact ⟨a, ws, rfl, .inr hx, rl⟩
  · obtain ⟨a, ws, rfl, hx, rl⟩ := lstR_rep hm r h
    exact ⟨a, ws, rfl, .inl hx, rl⟩
def joinT (a : Str) (ys : List Str) : Str := ⟨(TL.joinL a.cps.toList (ys.map fun y => y.cps.toList)).toArray⟩
theorem joinT_eq (a : Str) (ys : List Str) : Txt.join a ys = joinT a ys := by
  have h := SX.join_S a.cps.toList (ys.map fun y => y.cps.toList)
  have ea : (SX.S a.cps.toList : Str) = a := by cases a; rfl
  have ey : (ys.map fun y => y.cps.toList).map SX.S = ys := by
    rw [List.map_map]
    conv => rhs; rw [← List.map_id ys]
    exact List.map_congr_left fun y _ => by cases y; rfl
  rw [ea, ey] at h
  exact h
def joinS (a : Str) (ys : List Str) : Option D := if (ys.map (·.length)).sum + ys.length * a.length ≤ 16777216 then some (.str (joinT a ys)) else none
def joinD (m : M) (x y : D) : Option D := match x with
  | .str a => ((seqD m y).bind txts).bind (joinS a)
  | _ => none
theorem de_join {fo fe : EF} (ho : DE X o fo) (he : DE X e fe) (hs : starEach [e] X.env = [(false, eval e X.env)] := by rfl) (hbase : attributeBase o "join" X.env (eval o X.env) = eval o X.env := by rfl) (hline : (apos.endLine == pos.line) = true := by rfl) :
    DE X (.Call (.Attribute o "join" apos) [e] [] pos) (eM1 joinD fo fe) := by
  obtain ⟨to, po, ro⟩ := ho.ex; obtain ⟨te, pe, re⟩ := he.ex
  refine ⟨_, pe_join po pe hs hbase hline, rf_m1 (fun T H m z y u d hm ry hf Q k => ?_) ro re⟩
  obtain ⟨ys, h1, h2⟩ := Option.bind_eq_some_iff.mp hf
  obtain ⟨ds, h3, h4⟩ := Option.bind_eq_some_iff.mp h1
  obtain ⟨hz, h5⟩ := ite_some h2
  cases h5
  obtain ⟨a, ws, rfl, hx, rl⟩ := seq_rep hm ry h3
  rw [txts_rep h4 rl] at hx
  exact ⟨z, a, ys, rfl, rfl, hx, hz, by rw [joinT_eq]; exact k.now hm (.str _)⟩
/-! f-strings -/
def fmtD (d : D) : Option Str := match d with
  | .str y => if y.length ≤ sizeLine then some y else none
  | .int i => if i.natAbs.log2 < 1920 then some (toString i) else none
  | _ => none
def eFmt (a : EF) : EF := fun ρ m => bd (a ρ m) fun x m1 => pu ((fmtD x).map .str) m1
theorem de_fmt {f : EF} (h : DE X e f) : DE X (.FormattedValue e (-1) none pos) (eFmt f) := by
  obtain ⟨t, p, r⟩ := h.ex
  refine ⟨_, pe_fmt p, fun T σ H ρ m d m' hm hs hf Q k => ?_⟩
  obtain ⟨x, m1, e1, hf⟩ := bd_some hf
  obtain ⟨e2, rfl⟩ := pu_some hf
  obtain ⟨y, h1, rfl⟩ := Option.map_eq_some_iff.mp e2
  refine r T σ H ρ m x _ hm hs e1 _ fun v T1 H1 l1 hm1 r1 => ?_
  cases r1 with
  | str z => obtain ⟨hz, h1⟩ := ite_some h1; cases h1; exact .inl ⟨_, rfl, hz, k _ T1 H1 l1 hm1 (.str _)⟩
  | int i => obtain ⟨hz, h1⟩ := ite_some h1; cases h1; exact .inr ⟨_, rfl, hz, k _ T1 H1 l1 hm1 (.str _)⟩
  | _ => cases h1
def joinF : List EF → Str → Ss → M → Option (D × M)
  | [], acc, _, m => some (.str acc, m)
  | f :: fs, acc, ρ, m => bd (f ρ m) fun x m1 => match x with
    | .str y => if (catS acc y).length ≤ sizeLine then joinF fs (catS acc y) ρ m1 else none
    | _ => none
inductive DJ (X : Cx) : List Expr → List EF → Prop where
  | nil : DJ X [] []
  | cons {e : Expr} {f : EF} {es : List Expr} {fs : List EF} (h : DE X e f) (r : DJ X es fs) : DJ X (e :: es) (f :: fs)
theorem dj_ex {es : List Expr} {fs : List EF} (h : DJ X es fs) : ∃ ts, PJ X es ts ∧ ∀ (acc : Str) T σ H ρ m d m', RepH (gx X) T H m → RepS (gx X) T H σ ρ → joinF fs acc ρ m = some (d, m') → ∀ Q : VK, KV (gx X) T H m' d Q → tJs ts acc σ H fun out H1 => Q (.str out) H1 := by
  induction h with
  | nil => exact ⟨[], .nil, fun acc T σ H ρ m d m' hm hs hf Q k => by cases hf; exact k.now hm (.str _)⟩
  | cons h _ ih =>
    obtain ⟨t, p, r⟩ := h.ex
    obtain ⟨ts, ps, rs⟩ := ih
    refine ⟨t :: ts, .cons p ps, fun acc T σ H ρ m d m' hm hs hf Q k => ?_⟩
    obtain ⟨x, m1, e1, hf1⟩ := bd_some hf
    refine r T σ H ρ m x m1 hm hs e1 _ fun v T1 H1 l1 hm1 r1 => ?_
    cases r1 with
    | str z =>
      obtain ⟨hz, hf2⟩ := ite_some hf1
      rw [← catS_eq] at hz hf2
      exact ⟨z, rfl, hz, rs _ T1 σ H1 ρ m1 d m' hm1 (hs.le l1) hf2 Q (k.le l1)⟩
    | _ => cases hf1
theorem de_joined {v1 v2 : Expr} {rest : List Expr} {fs : List EF} (h : DJ X (v1 :: v2 :: rest) fs) : DE X (.JoinedStr (v1 :: v2 :: rest) pos) (joinF fs Str.empty) := by
  obtain ⟨ts, p, r⟩ := dj_ex h
  exact ⟨_, pe_joined p, r _⟩
theorem de_joined1 {f : EF} (h : DE X e f) : DE X (.JoinedStr [e] pos) f := by
  obtain ⟨t, p, r⟩ := h.ex
  exact ⟨_, pe_joined1 p, r⟩
/-! a, b = x, y; chains; stars -/
def sPar (is : List Nat) (a : AF) : SF := fun ρ m => bd (a ρ m) fun xs m1 => if xs.length = is.length then some (.nx (setMany ρ is xs), m1) else none
theorem ds_par {i j : Nat} {x y : Str} {a b : Expr} {f : AF} {px py pt : Pos} {kt k2 pt2} (hc : X.calm = true) (hN : X.N.Nodup) (hi : X.N[i]? = some x) (hj : X.N[j]? = some y) (hij : i ≠ j)
    (hx : X.env.scope.names.lookup x = some .local) (hy : X.env.scope.names.lookup y = some .local) (ha : DA X [a, b] f)
    (hw : swappedStores [.Tuple [.Name x px, .Name y py] kt pt] (.Tuple [a, b] k2 pt2) X.env = pure (some [x, y]))
    (hs : swapsWithSole [.Tuple [.Name x px, .Name y py] kt pt] (.Tuple [a, b] k2 pt2) pos.line X.env = pure false := by rfl) : DS X (.Assign [.Tuple [.Name x px, .Name y py] kt pt] (.Tuple [a, b] k2 pt2) pos) (sPar [i, j] f) := by
  obtain ⟨t, pa, ra⟩ := ha.ex
  refine ⟨_, ps_par hc hN hi hj hij hx hy pa hw hs, fun T σ H ρ m d m' hm hs hf D k => ?_⟩
  obtain ⟨xs, m1, e1, hf⟩ := bd_some hf
  obtain ⟨hl, hf⟩ := ite_some hf
  cases hf
  refine ra T σ H ρ m xs _ hm hs e1 _ fun vs T1 H1 l1 hm1 r1 => ?_
  match xs, hl, r1 with
  | [d1, d2], _, r1 =>
    obtain ⟨v, w, rfl, q1, q2⟩ := r1.two
    exact ⟨v, w, rfl, k _ T1 H1 l1 hm1 (((hs.le l1).set q1).set q2)⟩
theorem ds_par3 {i j l : Nat} {x y z : Str} {a b c : Expr} {f : AF} {px py pz pt : Pos} {kt k2 pt2} (hc : X.calm = true) (hN : X.N.Nodup) (hi : X.N[i]? = some x) (hj : X.N[j]? = some y) (hl : X.N[l]? = some z) (hij : i ≠ j) (hil : i ≠ l) (hjl : j ≠ l)
    (hx : X.env.scope.names.lookup x = some .local) (hy : X.env.scope.names.lookup y = some .local) (hz : X.env.scope.names.lookup z = some .local) (ha : DA X [a, b, c] f)
    (hw : swappedStores [.Tuple [.Name x px, .Name y py, .Name z pz] kt pt] (.Tuple [a, b, c] k2 pt2) X.env = pure (some [x, y, z]))
    (hs : swapsWithSole [.Tuple [.Name x px, .Name y py, .Name z pz] kt pt] (.Tuple [a, b, c] k2 pt2) pos.line X.env = pure false := by rfl) : DS X (.Assign [.Tuple [.Name x px, .Name y py, .Name z pz] kt pt] (.Tuple [a, b, c] k2 pt2) pos) (sPar [i, j, l] f) := by
  obtain ⟨t, pa, ra⟩ := ha.ex
  refine ⟨_, ps_par3 hc hN hi hj hl hij hil hjl hx hy hz pa hw hs, fun T σ H ρ m d m' hm hs hf D k => ?_⟩
  obtain ⟨xs, m1, e1, hf⟩ := bd_some hf
  obtain ⟨hl, hf⟩ := ite_some hf
  cases hf
  refine ra T σ H ρ m xs _ hm hs e1 _ fun vs T1 H1 l1 hm1 r1 => ?_
  match xs, hl, r1 with
  | [d1, d2, d3], _, .cons q1 r1 =>
    obtain ⟨v, w, rfl, q2, q3⟩ := r1.two
    exact ⟨_, v, w, rfl, k _ T1 H1 l1 hm1 ((((hs.le l1).set q1).set q2).set q3)⟩
def eChain (f h : M → D → D → Option D) (a b c : EF) : EF := fun ρ m => bd (a ρ m) fun x m1 => bd (b ρ m1) fun y m2 => match f m2 x y with
  | some (.bl true) => bd (c ρ m2) fun z m3 => pu (h m3 y z) m3
  | some (.bl false) => some (.bl false, m2)
  | _ => none
theorem rf_chain {r r' : R2} {f h : M → D → D → Option D} {ta tb tc : TE} {a b c : EF} (h1 : RfO g r f) (h2 : RfO g r' h) (ha : RfE g ta a) (hb : RfE g tb b) (hc : RfE g tc c) : RfE g (tChain r r' ta tb tc) (eChain f h a b c) := by
  intro T σ H ρ m d m' hm hs hf Q k
  obtain ⟨x, m1, e1, hf1⟩ := bd_some hf
  obtain ⟨y, m2, e2, hf2⟩ := bd_some hf1
  clear hf hf1
  refine ha T σ H ρ m x m1 hm hs e1 _ fun v T1 H1 l1 hm1 r1 => ?_
  refine hb T1 σ H1 ρ m1 y m2 hm1 (hs.le l1) e2 _ fun u T2 H2 l2 hm2 r2 => ?_
  split at hf2
  · next hq =>
    obtain ⟨z, m3, e3, hf3⟩ := bd_some hf2
    obtain ⟨e4, e5⟩ := pu_some hf3
    subst e5
    refine h1 T2 H2 m2 x y v u _ hm2 (r1.le l2) r2 hq _ fun w T3 H3 l3 hm3 r3 => ?_
    cases r3
    refine ⟨true, rfl, ?_⟩
    rw [if_pos rfl]
    refine hc T3 σ H3 ρ m2 z _ hm3 (hs.le (l1.trans (l2.trans l3))) e3 _ fun w T4 H4 l4 hm4 r4 => ?_
    exact h2 T4 H4 _ y z u w d hm4 (r2.le (l3.trans l4)) r4 e4 Q (k.le (l1.trans (l2.trans (l3.trans l4))))
  · next hq =>
    cases hf2
    refine h1 T2 H2 _ x y v u _ hm2 (r1.le l2) r2 hq _ fun w T3 H3 l3 hm3 r3 => ?_
    cases r3
    exact ⟨false, rfl, by rw [if_neg Bool.false_ne_true]; exact k _ T3 H3 (l1.trans (l2.trans l3)) hm3 (.bl _)⟩
  · cases hf2
theorem de_chain {op op' : CmpOp} {f h : M → D → D → Option D} {a b c : Expr} {fa fb fc : EF} (ho : OpD X (compareOp op) f) (ho' : OpD X (compareOp op') h) (ha : DE X a fa) (hb : DE X b fb) (hc : DE X c fc)
    (hm : lastMarks [op, op'] [b, c] = false := by with_unfolding_all rfl) : DE X (.Compare a [op, op'] [b, c] pos) (eChain f h fa fb fc) := by
  obtain ⟨r, h1, q1⟩ := ho.ex; obtain ⟨r', h2, q2⟩ := ho'.ex; obtain ⟨ta, pa, ra⟩ := ha.ex; obtain ⟨tb, pb, rb⟩ := hb.ex; obtain ⟨tc, pc, rc⟩ := hc.ex
  exact ⟨_, pe_chain h1 h2 pa pb pc hm, rf_chain q1 q2 ra rb rc⟩
theorem dt_chain {op op' : CmpOp} {f h : M → D → D → Option D} {a b c : Expr} {fa fb fc : EF} (ho : OpD X (compareOp op) f) (ho' : OpD X (compareOp op') h) (ha : DE X a fa) (hb : DE X b fb) (hc : DE X c fc)
    (hm : lastMarks [op, op'] [b, c] = false := by with_unfolding_all rfl) : DT X (.Compare a [op, op'] [b, c] pos) (tVal (eChain f h fa fb fc)) := by
  obtain ⟨r, h1, q1⟩ := ho.ex; obtain ⟨r', h2, q2⟩ := ho'.ex; obtain ⟨ta, pa, ra⟩ := ha.ex; obtain ⟨tb, pb, rb⟩ := hb.ex; obtain ⟨tc, pc, rc⟩ := hc.ex
  exact ⟨_, pt_chain h1 h2 pa pb pc hm, rf_test (rf_chain q1 q2 ra rb rc)⟩
/-! stars in displays and calls -/
def aStar (a : EF) (r : AF) : AF := fun ρ m => bd (a ρ m) fun x m1 => match seqD m1 x with
  | some ds => bd (r ρ m1) fun ys m2 => some (ds ++ ys, m2)
  | none => none
theorem da_star {f : EF} {fr : AF} (he : DE X e f) (hr : DA X es fr) (hs : starEach (.Starred e p :: es) X.env = (true, eval e X.env) :: starEach es X.env := by rfl) : DA X (.Starred e p :: es) (aStar f fr) := by
  obtain ⟨te, pe, re⟩ := he.ex; obtain ⟨tr, pr, rr⟩ := hr.ex
  refine ⟨_, StX.pa_star pe pr hs, fun T σ H ρ m d m' hm hs hf Q k => ?_⟩
  obtain ⟨x, m1, e1, hf1⟩ := bd_some hf
  clear hf
  refine re T σ H ρ m x m1 hm hs e1 _ fun v T1 H1 l1 hm1 r1 => ?_
  split at hf1
  · next ds hd =>
    obtain ⟨ys, m2, e2, hf2⟩ := bd_some hf1
    cases hf2
    obtain ⟨a, ws, rfl, hx, rl⟩ := seq_rep hm1 r1 hd
    exact ⟨a, ws, rfl, hx.symm, rr T1 σ H1 ρ m1 ys _ hm1 (hs.le l1) e2 _ fun vs T2 H2 l2 hm2 r2 => k _ T2 H2 (l1.trans l2) hm2 ((rl.le l2).append r2)⟩
  · cases hf1
/-- a statement that is never come to -/
def sNo : SF := fun _ _ => none
theorem ds_never {s : Stmt} : DS X s sNo := ⟨_, ps_never, fun T σ H ρ m d m' hm hs hf D k => by cases hf⟩
end
end L4

namespace L4
open PySem L2
section
variable {X : Cx} {g : G} {T T' : Tk} {H : Hp} {m : M} {Q : VK} {pos p apos : Pos} {e o : Expr} {es : List Expr} {k n : Nat} {x c nm : Str}
theorem dv (i : Nat) {x : Str} {pos : Pos} (hN : X.N[i]? = some x := by rfl) (hv : Vis X.env.scope x := by first | exact Or.inl rfl | exact Or.inr (Or.inl rfl) | exact Or.inr (Or.inr rfl)) (hd : (x == ("__debug__" : Str)) = false := by decide)
    (hcd : (x == ("__classdict__" : Str)) = false := by decide) : DE X (.Name x pos) (eVar i) := de_var hN hv hd hcd
def big : Nat := 1000000
/-! x += e -/
def sAug (i : Nat) (f : M → D → D → Option D) (a : EF) : SF := fun ρ m => match ρ.getD i none with
  | some x => bd (a ρ m) fun y m1 => bd (pu (f m1 x y) m1) fun z m2 => some (.nx (ρ.set i (some z)), m2)
  | none => none
theorem ds_aug {i : Nat} {x : Str} {f : EF} {pos' : Pos} (hN : X.N.Nodup) (hi : X.N[i]? = some x) (hx : Loc X.env.scope x) (he : DE X e f) (hf : X.fn x = true ∨ X.env.scope.names.lookup x = some .local := by first | exact .inl rfl | exact .inr rfl | assumption) :
    DS X (.AugAssign (.Name x pos') .Add e pos) (sAug i (fun _ => addI) f) := by
  obtain ⟨t, p, r⟩ := he.ex
  refine ⟨_, ps_aug hN hi hx p ip_add hf, fun T σ H ρ m d m' hm hs hf D k => ?_⟩
  unfold sAug at hf
  split at hf
  · next y hy =>
    obtain ⟨z, m1, e1, hf1⟩ := bd_some hf
    obtain ⟨w, m2, e2, hf2⟩ := bd_some hf1
    obtain ⟨e3, rfl⟩ := pu_some e2
    cases hf2
    obtain ⟨v, ev, rv⟩ := hs.at_ i y (by
      rw [List.getD_eq_getElem?_getD] at hy
      cases h : ρ[i]? with
      | none => rw [h] at hy; cases hy
      | some o => rw [h] at hy; cases hy; rfl)
    refine ⟨v, ev, r T σ H ρ m z _ hm hs e1 _ fun u T1 H1 l1 hm1 r1 => ?_⟩
    have rv1 := rv.le l1
    cases rv1 with
    | int a => cases r1 with
      | int b => cases e3; exact ⟨a, b, rfl, rfl, k _ T1 H1 l1 hm1 ((hs.le l1).set (.int _))⟩
      | _ => cases e3
    | _ => cases e3
  · cases hf
/-! any, all of a list of truths -/
def bools : List D → Option (List Bool)
  | [] => some []
  | .bl b :: ds => (bools ds).map (b :: ·)
  | _ => none
theorem bools_rep : ∀ {ds : List D} {bs : List Bool} {vs : List V}, bools ds = some bs → RepL g T H ds vs → vs = bs.map V.bl
  | [], _, _, h, r => by cases h; cases r; rfl
  | .bl x :: ds, _, _, h, r => by
    obtain ⟨ys, h1, rfl⟩ := Option.map_eq_some_iff.mp h
    cases r with
    | cons a s => cases a; rw [bools_rep h1 s]; rfl
  | .non :: _, _, _, h, _ => by cases h
  | .str _ :: _, _, _, h, _ => by cases h
  | .int _ :: _, _, _, h, _ => by cases h
  | .tup _ :: _, _, _, h, _ => by cases h
  | .lst _ :: _, _, _, h, _ => by cases h
  | .scr _ :: _, _, _, h, _ => by cases h
  | .dic _ _ :: _, _, _, h, _ => by cases h
  | .obj _ _ _ :: _, _, _, h, _ => by cases h
  | .ref _ :: _, _, _, h, _ => by cases h
  | .glo _ :: _, _, _, h, _ => by cases h
  | .ty _ :: _, _, _, h, _ => by cases h
end
end L4

/-! dicts -/
namespace L4
open PySem L2
mutual
def eqK : D → D → Bool
  | .non, .non => true
  | .bl a, .bl b => a == b
  | .bl a, .int i => (if a then 1 else 0) == i
  | .int i, .bl a => i == (if a then 1 else 0)
  | .int i, .int j => i == j
  | .str x, .str y => decide (x = y)
  | .tup a, .tup b => eqKs a b
  | _, _ => false
def eqKs : List D → List D → Bool
  | [], [] => true
  | a :: as, b :: bs => eqK a b && eqKs as bs
  | _, _ => false
end
theorem nks_cons {d : D} {ds : List D} {x : List NestedKey} (h : nks (d :: ds) = some x) : ∃ k ks, nk d = some k ∧ nks ds = some ks ∧ x = k :: ks := by
  rw [nks] at h
  cases h1 : nk d with
  | none => rw [h1] at h; cases h
  | some k => cases h2 : nks ds with
    | none => rw [h1, h2] at h; cases h
    | some ks => rw [h1, h2] at h; cases h; exact ⟨k, ks, rfl, rfl, rfl⟩
theorem dec_num {a b : Int} : decide (NestedKey.num a = .num b) = (a == b) := by
  by_cases h : a = b
  · subst h; simp
  · rw [decide_eq_false (fun z => h (by injection z)), beq_eq_false_iff_ne.mpr h]
mutual
theorem eqK_nk : ∀ (a b : D) (x y : NestedKey), nk a = some x → nk b = some y → eqK a b = decide (x = y)
  | .non, b, x, y, h, h2 => by rw [nk] at h; cases h; cases b <;> rw [nk] at h2 <;> first | (cases h2; done) | (cases h2; rfl) | (obtain ⟨z, _, rfl⟩ := Option.map_eq_some_iff.mp h2; rfl)
  | .bl p, b, x, y, h, h2 => by
    rw [nk] at h; cases h
    cases b with
    | bl q => rw [nk] at h2; cases h2; rw [dec_num, eqK]; cases p <;> cases q <;> rfl
    | int j => rw [nk] at h2; cases h2; rw [dec_num, eqK]
    | non => rw [nk] at h2; cases h2; rfl
    | str z => rw [nk] at h2; cases h2; rfl
    | tup z => rw [nk] at h2; obtain ⟨w, _, rfl⟩ := Option.map_eq_some_iff.mp h2; rfl
    | _ => rw [nk] at h2; cases h2
  | .int p, b, x, y, h, h2 => by
    rw [nk] at h; cases h
    cases b with
    | bl q => rw [nk] at h2; cases h2; rw [dec_num, eqK]
    | int j => rw [nk] at h2; cases h2; rw [dec_num, eqK]
    | non => rw [nk] at h2; cases h2; rfl
    | str z => rw [nk] at h2; cases h2; rfl
    | tup z => rw [nk] at h2; obtain ⟨w, _, rfl⟩ := Option.map_eq_some_iff.mp h2; rfl
    | _ => rw [nk] at h2; cases h2
  | .str p, b, x, y, h, h2 => by
    rw [nk] at h; cases h
    cases b with
    | bl q => rw [nk] at h2; cases h2; rfl
    | int j => rw [nk] at h2; cases h2; rfl
    | non => rw [nk] at h2; cases h2; rfl
    | str z =>
      rw [nk] at h2; cases h2; rw [eqK]
      by_cases e : p = z
      · subst e; simp
      · rw [decide_eq_false e, decide_eq_false (fun q => e (by injection q))]
    | tup z => rw [nk] at h2; obtain ⟨w, _, rfl⟩ := Option.map_eq_some_iff.mp h2; rfl
    | _ => rw [nk] at h2; cases h2
  | .tup p, b, x, y, h, h2 => by
    rw [nk] at h
    obtain ⟨w, hw, rfl⟩ := Option.map_eq_some_iff.mp h
    cases b with
    | bl q => rw [nk] at h2; cases h2; rfl
    | int j => rw [nk] at h2; cases h2; rfl
    | non => rw [nk] at h2; cases h2; rfl
    | str z => rw [nk] at h2; cases h2; rfl
    | tup z =>
      rw [nk] at h2
      obtain ⟨u, hu, rfl⟩ := Option.map_eq_some_iff.mp h2
      rw [eqK, eqKs_nk p z w u hw hu]
      by_cases e : w = u
      · subst e; simp
      · rw [decide_eq_false e, decide_eq_false (fun q => e (by injection q))]
    | _ => rw [nk] at h2; cases h2
  | .lst _, _, _, _, h, _ => by rw [nk] at h; cases h
  | .scr _, _, _, _, h, _ => by rw [nk] at h; cases h
  | .dic _ _, _, _, _, h, _ => by rw [nk] at h; cases h
  | .obj _ _ _, _, _, _, h, _ => by rw [nk] at h; cases h
  | .ref _, _, _, _, h, _ => by rw [nk] at h; cases h
  | .glo _, _, _, _, h, _ => by rw [nk] at h; cases h
  | .ty _, _, _, _, h, _ => by rw [nk] at h; cases h
theorem eqKs_nk : ∀ (a b : List D) (x y : List NestedKey), nks a = some x → nks b = some y → eqKs a b = decide (x = y)
  | [], b, x, y, h, h2 => by
    rw [nks] at h; cases h
    cases b with
    | nil => rw [nks] at h2; cases h2; rfl
    | cons d ds => obtain ⟨k, ks, _, _, rfl⟩ := nks_cons h2; rfl
  | d :: ds, b, x, y, h, h2 => by
    obtain ⟨k, ks, h3, h4, rfl⟩ := nks_cons h
    cases b with
    | nil => rw [nks] at h2; cases h2; rfl
    | cons e es =>
      obtain ⟨l, lt, h5, h6, rfl⟩ := nks_cons h2
      rw [eqKs, eqK_nk d e k l h3 h5, eqKs_nk ds es ks lt h4 h6]
      by_cases e1 : k = l
      · by_cases e2 : ks = lt
        · rw [decide_eq_true e1, decide_eq_true e2, decide_eq_true (by rw [e1, e2])]; rfl
        · rw [decide_eq_false e2, decide_eq_false (fun q => e2 (List.cons.inj q).2)]; simp
      · rw [decide_eq_false e1, decide_eq_false (fun q => e1 (List.cons.inj q).1)]; simp
end
theorem nkT_nk {d : D} {k : NestedKey} (h : nkT d = some k) : nk d = some k ∧ k.depth ≤ 8 := by
  unfold nkT at h
  split at h
  · split at h
    · next h1 =>
      obtain ⟨hd, h⟩ := ite_some h
      cases h
      exact ⟨by rw [nk, h1]; rfl, hd⟩
    · cases h
  · cases h
/-! the functions -/
def dHas (ks : List D) (k : D) : Bool := ks.any fun a => eqK a k
def dGet : List D → List D → D → Option D
  | a :: ks, b :: vs, k => if eqK a k then some b else dGet ks vs k
  | _, _, _ => none
def dRep : List D → List D → D → D → List D
  | a :: ks, b :: vs, k, v => (if eqK a k then v else b) :: dRep ks vs k v
  | _, _, _, _ => []
def dPutK (ks : List D) (k : D) : List D := if dHas ks k then ks else ks ++ [k]
def dPutV (ks vs : List D) (k v : D) : List D := if dHas ks k then dRep ks vs k v else vs ++ [v]
def isFlat : D → Bool
  | .int _ => true
  | .str _ => true
  | _ => false
section
variable {X : Cx} {g : G} {T T' : Tk} {H : Hp} {m : M} {Q : VK} {pos p apos : Pos} {e o : Expr} {es : List Expr} {k n : Nat} {x c nm : Str}
/-! flat keys -/
def keyD : Key → D
  | .inl i => .int i
  | .inr x => .str x
theorem rep_key {d : D} {κ : Key} (r : Rep g T H d (kV κ)) : d = keyD κ := by
  cases κ with
  | inl i => cases r; rfl
  | inr i => cases r; rfl
theorem repL_keys : ∀ {ks : List D} {kvs : List (Key × V)}, RepL g T H ks (kvs.map fun p => kV p.1) → ks = kvs.map fun p => keyD p.1
  | [], [], _ => rfl
  | _ :: _, [], r => by cases r
  | [], _ :: _, r => by cases r
  | d :: ks, p :: kvs, r => by
    cases r with
    | cons a s => rw [rep_key a, repL_keys s]; rfl
theorem keyD_rep {κ : Key} : Rep g T H (keyD κ) (kV κ) := by
  cases κ with
  | inl i => exact .int i
  | inr i => exact .str i
theorem eqK_key (a b : Key) : eqK (keyD a) (keyD b) = decide (a = b) := by
  cases a with
  | inl i => cases b with
    | inl j => show eqK (.int i) (.int j) = _; rw [eqK, key_ll]
    | inr j => show eqK (.int i) (.str j) = _; rw [key_lr]; rfl
  | inr i => cases b with
    | inl j => show eqK (.str i) (.int j) = _; rw [key_rl]; rfl
    | inr j => show eqK (.str i) (.str j) = _; rw [eqK, key_rr]
theorem flat_get {κ : Key} : ∀ {kvs : List (Key × V)} {vs : List D}, RepL g T H vs (kvs.map Prod.snd) → (∀ d, dGet (kvs.map fun p => keyD p.1) vs (keyD κ) = some d → ∃ v, valV kvs κ = some v ∧ Rep g T H d v) ∧ (valV kvs κ).isSome = dHas (kvs.map fun p => keyD p.1) (keyD κ)
  | [], _, r => by
    cases r
    exact ⟨fun d h => (by cases h), rfl⟩
  | p :: kvs, _, r => by
    cases r with
    | @cons d v ds vs a s =>
      obtain ⟨h1, h2⟩ := flat_get (κ := κ) s
      have ek := eqK_key p.1 κ
      by_cases e : p.1 = κ
      · rw [decide_eq_true e] at ek
        refine ⟨fun d' h => ?_, by rw [valV_pos e]; simp [dHas, ek]⟩
        simp only [List.map_cons, dGet, ek, if_true] at h
        cases h
        exact ⟨p.2, valV_pos e, a⟩
      · rw [decide_eq_false e] at ek
        refine ⟨fun d' h => ?_, by rw [valV_neg e, h2]; simp [dHas, ek]⟩
        simp only [List.map_cons, dGet, ek] at h
        rw [valV_neg e]
        exact h1 d' h
theorem flat_rep {κ : Key} {v : V} {d : D} (rv : Rep g T H d v) : ∀ {kvs : List (Key × V)} {vs : List D}, RepL g T H vs (kvs.map Prod.snd) → RepL g T H (dRep (kvs.map fun p => keyD p.1) vs (keyD κ) d) ((kvs.map fun kv => if kv.1 = κ then (kv.1, v) else kv).map Prod.snd) ∧ (kvs.map fun kv => if kv.1 = κ then (kv.1, v) else kv).map Prod.fst = kvs.map Prod.fst
  | [], _, r => by cases r; exact ⟨.nil, rfl⟩
  | p :: kvs, _, r => by
    cases r with
    | cons a s =>
      obtain ⟨h1, h2⟩ := flat_rep (κ := κ) rv s
      have ek := eqK_key p.1 κ
      by_cases e : p.1 = κ
      · rw [decide_eq_true e] at ek
        simp only [List.map_cons, dRep, ek, if_true, if_pos e, h2]
        exact ⟨.cons rv h1, trivial⟩
      · rw [decide_eq_false e] at ek
        simp only [List.map_cons, dRep, ek, if_neg e, h2]
        exact ⟨.cons a h1, trivial⟩
theorem flat_put {κ : Key} {v : V} {d : D} {kvs : List (Key × V)} {ks vs : List D} (rk : RepL g T H ks (kvs.map fun p => kV p.1)) (rs : RepL g T H vs (kvs.map Prod.snd)) (rv : Rep g T H d v) :
    RepL g T H (dPutK ks (keyD κ)) ((putK kvs κ v).map fun p => kV p.1) ∧ RepL g T H (dPutV ks vs (keyD κ) d) ((putK kvs κ v).map Prod.snd) := by
  have ek := repL_keys rk
  have hs := (flat_get (κ := κ) rs).2
  have hany := valV_any κ kvs
  unfold dPutK dPutV putK
  rw [hany, hs, ← ek]
  cases hh : dHas ks (keyD κ) with
  | true =>
    simp only [if_true]
    obtain ⟨h1, h2⟩ := flat_rep (κ := κ) rv rs
    rw [← ek] at h1
    refine ⟨?_, h1⟩
    have : (kvs.map fun kv => if kv.1 = κ then (kv.1, v) else kv).map (fun p => kV p.1) = kvs.map fun p => kV p.1 := by
      have := congrArg (List.map kV) h2
      simpa [List.map_map, Function.comp_def] using this
    rw [this]
    exact rk
  | false =>
    simp only [Bool.false_eq_true, if_false, List.map_append, List.map_cons, List.map_nil]
    exact ⟨rk.append (.cons keyD_rep .nil), rs.append (.cons rv .nil)⟩
end
end L4

/-! dicts whose keys are nested tuples -/
namespace L4
open PySem PySem.Spec PyProof.Rows L2
abbrev NV := List (NestedKey × Addr × V)
/-- the tuple at b is the key k -/
def NkAt (X : Cx) (H : Hp) (b : Addr) (k : NestedKey) : Prop := ∀ pins σ s, Inv X pins σ H s → (nestedKind X.prog X.w).is s.heap k b
section
variable {X : Cx} {T T' : Tk} {H : Hp} {m : M} {Q : VK} {pos p apos : Pos} {e o : Expr} {es : List Expr} {n : Nat} {x c nm : Str}
mutual
theorem nested_is {pins : List (Addr × Obj)} {σ : L2.St} {s : Shared} (I : Inv X pins σ H s) : ∀ (d : D) {v : V} {u : Value} {k : NestedKey}, nk d = some k → Rep (gx X) T H d v → RelV v u → NestedIs s.heap k u
  | .non, _, _, _, h, r, q => by rw [nk] at h; cases h; cases r; cases q; exact .none
  | .bl b, _, _, _, h, r, q => by rw [nk] at h; cases h; cases r; cases q; exact .bool rfl
  | .int i, _, _, _, h, r, q => by rw [nk] at h; cases h; cases r; obtain ⟨t, rfl⟩ := q; exact .int i t
  | .str i, _, _, _, h, r, q => by rw [nk] at h; cases h; cases r; obtain ⟨t, rfl⟩ := q; exact .text i t
  | .tup ds, _, _, _, h, r, q => by
    rw [nk] at h
    obtain ⟨ks, h1, rfl⟩ := Option.map_eq_some_iff.mp h
    cases r with
    | tup f r =>
      cases q
      obtain ⟨its, rv, ⟨ob, h2, h3, n, h4⟩, _⟩ := I.tuple f.sq
      exact .tup h2 h3 h4 (by simpa using nested_all I ds h1 r rv)
  | .lst _, _, _, _, h, _, _ => by rw [nk] at h; cases h
  | .scr _, _, _, _, h, _, _ => by rw [nk] at h; cases h
  | .dic _ _, _, _, _, h, _, _ => by rw [nk] at h; cases h
  | .obj _ _ _, _, _, _, h, _, _ => by rw [nk] at h; cases h
  | .ref _, _, _, _, h, _, _ => by rw [nk] at h; cases h
  | .glo _, _, _, _, h, _, _ => by rw [nk] at h; cases h
  | .ty _, _, _, _, h, _, _ => by rw [nk] at h; cases h
theorem nested_all {pins : List (Addr × Obj)} {σ : L2.St} {s : Shared} (I : Inv X pins σ H s) : ∀ (ds : List D) {vs : List V} {us : List Value} {ks : List NestedKey}, nks ds = some ks → RepL (gx X) T H ds vs → Vals vs us → NestedAll s.heap ks us
  | [], _, _, _, h, r, q => by rw [nks] at h; cases h; cases r; cases q; exact .nil
  | d :: ds, _, _, _, h, r, q => by
    obtain ⟨k, ks, h1, h2, rfl⟩ := nks_cons h
    cases r with
    | cons a s => cases q with
      | cons b t => exact .cons (nested_is I d h1 a b) (nested_all I ds h2 s t)
end
theorem nkAt {d : D} {b : Addr} {k : NestedKey} (h : nkT d = some k) (r : Rep (gx X) T H d (.ref b)) : NkAt X H b k := fun pins σ s I => by
  obtain ⟨h1, h2⟩ := nkT_nk h
  exact ⟨nested_is I d h1 r rfl, h2⟩
theorem nkAts : ∀ {ks : List D} {kvs : NV}, ks.map nkT = kvs.map (fun p => some p.1) → RepL (gx X) T H ks (kvs.map fun p => .ref p.2.1) → ∀ p ∈ kvs, NkAt X H p.2.1 p.1
  | [], [], _, _, p, hp => by cases hp
  | _ :: _, [], h, _, _, hp => by cases hp
  | [], _ :: _, h, _, _, _ => by cases h
  | d :: ks, q :: kvs, h, r, p, hp => by
    simp only [List.map_cons, List.cons.injEq] at h
    cases r with
    | cons a s =>
      rcases List.mem_cons.mp hp with rfl | hp
      · exact nkAt h.1 a
      · exact nkAts h.2 s p hp
def NDict (X : Cx) (H : Hp) (a : Addr) (kvs : NV) : Prop := Rd H a (dnO (gx X) a kvs) ∨ (kvs = [] ∧ Rd H a (.dK []))
/-- the dict in the heap -/
theorem dn_rd0 {pins : List (Addr × Obj)} {σ : L2.St} {s : Shared} {a : Addr} {kvs : NV} (I : Inv X pins σ H s) (h : Rd H a (dnO (gx X) a kvs)) (hk : ∀ p ∈ kvs, NkAt X H p.2.1 p.1) :
    kvs.length ≤ sizeLine ∧ (a == sysModules) = false ∧ ∃ xs : List (NestedKey × Addr × Value), Paired (fun (p : NestedKey × Addr × V) (q : NestedKey × Addr × Value) => p.1 = q.1 ∧ p.2.1 = q.2.1 ∧ RelV p.2.2 q.2.2) kvs xs ∧ s.heap.DictOfH (nestedKind X.prog X.w) a xs := by
  obtain ⟨⟨z, hd, xs, pr, ob, es, ep, h1, h2, h3, h4, h5⟩, _⟩ := h.ok I.hok
  refine ⟨z, hd, xs, pr, ob, es, ep, h1, h2, h3, h4, ?_, h5⟩
  have all : ∀ {l : NV} {r : List (NestedKey × Addr × Value)}, Paired (fun (p : NestedKey × Addr × V) (q : NestedKey × Addr × Value) => p.1 = q.1 ∧ p.2.1 = q.2.1 ∧ RelV p.2.2 q.2.2) l r → (∀ p ∈ l, NkAt X H p.2.1 p.1) → ∀ y ∈ r, (nestedKind X.prog X.w).is s.heap y.1 y.2.1 := by
    intro l r q
    induction q with
    | nil => intro _ y hy; cases hy
    | @cons p q ps qs hq t ih =>
      intro hl y hy
      rcases List.mem_cons.mp hy with rfl | hy
      · rw [← hq.1, ← hq.2.1]
        exact hl p (List.mem_cons_self ..) pins σ s I
      · exact ih (fun p hp => hl p (List.mem_cons_of_mem _ hp)) y hy
  exact all pr hk
theorem dn_rd {pins : List (Addr × Obj)} {σ : L2.St} {s : Shared} {a : Addr} {kvs : NV} (I : Inv X pins σ H s) (h : NDict X H a kvs) (hk : ∀ p ∈ kvs, NkAt X H p.2.1 p.1) :
    kvs.length ≤ sizeLine ∧ (a == sysModules) = false ∧ ∃ xs : List (NestedKey × Addr × Value), Paired (fun (p : NestedKey × Addr × V) (q : NestedKey × Addr × Value) => p.1 = q.1 ∧ p.2.1 = q.2.1 ∧ RelV p.2.2 q.2.2) kvs xs ∧ s.heap.DictOfH (nestedKind X.prog X.w) a xs := by
  rcases h with h | ⟨rfl, h⟩
  · exact dn_rd0 I h hk
  · obtain ⟨_, hd, vs, rel, dd⟩ := dk_rd I.hok h
    cases rel
    obtain ⟨ob, es, ep, h1, h2, h3, h4, h5, h6⟩ := dd
    have he : es.toList = [] := by
      cases hh : es.toList with
      | nil => rfl
      | cons a b => rw [hh] at h5; cases h5
    exact ⟨Nat.zero_le _, hd, [], .nil, ob, es, ep, h1, h2, h3, by rw [he]; rfl, fun x hx => (nomatch hx), by simp⟩
def nGet (kvs : NV) (k : NestedKey) : Option V := (kvs.find? fun p => decide (p.1 = k)).map fun p => p.2.2
def nHas (kvs : NV) (k : NestedKey) : Bool := kvs.any fun p => decide (p.1 = k)
def nPut (kvs : NV) (k : NestedKey) (b : Addr) (v : V) : NV := if nHas kvs k then kvs.map fun p => if p.1 = k then (p.1, p.2.1, v) else p else kvs ++ [(k, b, v)]
abbrev NP : NestedKey × Addr × V → NestedKey × Addr × Value → Prop := fun p q => p.1 = q.1 ∧ p.2.1 = q.2.1 ∧ RelV p.2.2 q.2.2
theorem np_at {k : NestedKey} : ∀ {kvs : NV} {xs : List (NestedKey × Addr × Value)}, Paired NP kvs xs → (atKey xs k).isSome = nHas kvs k ∧ ∀ v, nGet kvs k = some v → ∃ q, atKey xs k = some q ∧ RelV v q.2
  | _, _, .nil => ⟨rfl, fun v h => by cases h⟩
  | _, _, .cons (a := p) (b := q) hq t => by
    obtain ⟨h1, h2⟩ := np_at (k := k) t
    by_cases e : p.1 = k
    · have e2 : q.1 = k := by rw [← hq.1]; exact e
      refine ⟨by simp [atKey, nHas, List.find?_cons, e, e2], fun v h => ?_⟩
      simp only [nGet, List.find?_cons, e, decide_true, Option.map_some] at h
      cases h
      exact ⟨q.2, by simp [atKey, List.find?_cons, e2], hq.2.2⟩
    · have e2 : ¬ q.1 = k := by rw [← hq.1]; exact e
      refine ⟨?_, fun v h => ?_⟩
      · simp only [atKey, nHas, List.find?_cons, e2, decide_false, List.any_cons, e, Bool.false_or]
        exact h1
      · simp only [nGet, List.find?_cons, e, decide_false] at h
        obtain ⟨w, e3, r⟩ := h2 v h
        exact ⟨w, by simp only [atKey, List.find?_cons, e2, decide_false]; exact e3, r⟩
theorem np_old {k : NestedKey} {v : V} {u : Value} (rv : RelV v u) : ∀ {kvs : NV} {xs : List (NestedKey × Addr × Value)}, Paired NP kvs xs → Paired NP (kvs.map fun p => if p.1 = k then (p.1, p.2.1, v) else p) (xs.map (putAt k u))
  | _, _, .nil => .nil
  | _, _, .cons (a := p) (b := q) hq t => by
    refine .cons ?_ (np_old rv t)
    show NP (if p.1 = k then (p.1, p.2.1, v) else p) (if q.1 = k then (q.1, q.2.1, u) else q)
    by_cases e : p.1 = k
    · rw [if_pos e, if_pos (by rw [← hq.1]; exact e)]
      exact ⟨hq.1, hq.2.1, rv⟩
    · rw [if_neg e, if_neg (by rw [← hq.1]; exact e)]
      exact hq
theorem np_new {k : NestedKey} {b : Addr} {v : V} {u : Value} (rv : RelV v u) : ∀ {kvs : NV} {xs : List (NestedKey × Addr × Value)}, Paired NP kvs xs → Paired NP (kvs ++ [(k, b, v)]) (xs ++ [(k, b, u)])
  | _, _, .nil => .cons ⟨rfl, rfl, rv⟩ .nil
  | _, _, .cons hq t => .cons hq (np_new rv t)
theorem np_put {k : NestedKey} {b : Addr} {v : V} {u : Value} (rv : RelV v u) {kvs : NV} {xs : List (NestedKey × Addr × Value)} (h : Paired NP kvs xs) : Paired NP (nPut kvs k b v) (storedH xs k b u) := by
  unfold nPut storedH
  rw [(np_at (k := k) h).1]
  cases nHas kvs k with
  | true => exact np_old rv h
  | false => exact np_new rv h
theorem nPut_len {k : NestedKey} {b : Addr} {v : V} {kvs : NV} : (nPut kvs k b v).length ≤ kvs.length + 1 := by
  unfold nPut
  split <;> simp
theorem room8 {k : Nat} (gd : Gd k X) : (nestedKind X.prog X.w).room X.A.in1 := by
  have := gd.r.un
  show X.A.units + 1 + 8 < cLine
  omega
/-! as rules -/
def rInN (X : Cx) (b : Bool) : R2 := fun x y H Q => ∃ a c kvs k, x = .ref c ∧ y = .ref a ∧ NDict X H a kvs ∧ (∀ p ∈ kvs, NkAt X H p.2.1 p.1) ∧ NkAt X H c k ∧ Q (.bl (nHas kvs k != b)) H
theorem op_inN {k : Nat} (gd : Gd k X) : OpR X (compareOp .In) (rInN X false) := by
  intro pins s σ H x y v u Q I rx ry h
  obtain ⟨a, c, kvs, k, rfl, rfl, hr, hk, hc, q⟩ := h
  cases rx
  cases ry
  obtain ⟨_, hd, xs, pr, hm⟩ := dn_rd I hr hk
  refine wpAny_in_heap (room8 gd) (hc pins σ s I) hd hm ⟨.bl _, H, I.tok _, rfl, ?_⟩
  rw [(np_at pr).1]
  rw [Bool.bne_false] at q
  exact q
theorem op_ninN {k : Nat} (gd : Gd k X) : OpR X (compareOp .NotIn) (rInN X true) := by
  intro pins s σ H x y v u Q I rx ry h
  obtain ⟨a, c, kvs, k, rfl, rfl, hr, hk, hc, q⟩ := h
  cases rx
  cases ry
  obtain ⟨_, hd, xs, pr, hm⟩ := dn_rd I hr hk
  refine wpAny_notIn_heap (room8 gd) (hc pins σ s I) hd hm ⟨.bl _, H, I.tok _, rfl, ?_⟩
  rw [(np_at pr).1]
  rw [Bool.bne_true] at q
  exact q
def rIxN (X : Cx) : R2 := fun x y H Q => ∃ a c kvs k v, x = .ref a ∧ y = .ref c ∧ NDict X H a kvs ∧ (∀ p ∈ kvs, NkAt X H p.2.1 p.1) ∧ NkAt X H c k ∧ nGet kvs k = some v ∧ Q v H
theorem ix_N {k : Nat} (gd : Gd k X) : IxR X (rIxN X) := by
  intro value slice pins s σ H x y v u Q I rx ry h hs
  obtain ⟨a, c, kvs, k, z, rfl, rfl, hr, hk, hc, hz, q⟩ := h
  cases rx
  cases ry
  obtain ⟨_, hd, xs, pr, hm⟩ := dn_rd I hr hk
  obtain ⟨w, hw, rw'⟩ := (np_at (k := k) pr).2 z hz
  exact PyProof.Rows.subscriptTail_builtinR (x := w.2) hm.typeIs PySem.F.slot_dict_getitem.lookup (wpAny_getItem_heap (room8 gd) (hc pins σ s I) hm hw ⟨rfl, z, H, I.tok _, rw', q⟩) hs
/-- d[k], flat keys -/
def rIxF : R2 := fun x y H Q => ∃ a kvs κ v, x = .ref a ∧ Rd H a (.dK kvs) ∧ y = kV κ ∧ valV kvs κ = some v ∧ Q v H
theorem ix_F : IxR X rIxF := by
  intro value slice pins s σ H x y v u Q I rx ry h hs
  obtain ⟨a, kvs, κ, z, rfl, hr, rfl, hz, q⟩ := h
  cases rx
  obtain ⟨_, hd, vs, rel, dd⟩ := dk_rd I.hok hr
  obtain ⟨w', hw, rw'⟩ := RelO.some_of (v := z) (o := valueAt vs κ) (by rw [← hz]; exact rel.val κ)
  exact subscriptTail_builtinR (x := w') dd.typeIs PySem.F.slot_dict_getitem.lookup (wpAny_getItem_of (kV_is ry) dd.mapOf hw ⟨rfl, z, H, I.tok _, rw', q⟩) hs
def rInF (b : Bool) : R2 := fun x y H Q => ∃ a kvs κ, x = kV κ ∧ y = .ref a ∧ Rd H a (.dK kvs) ∧ Q (.bl ((valV kvs κ).isSome != b)) H
theorem op_inF : OpR X (compareOp .In) (rInF false) := by
  intro pins s σ H x y v u Q I rx ry h
  obtain ⟨a, kvs, κ, rfl, rfl, hr, q⟩ := h
  cases ry
  obtain ⟨_, hd, vs, rel, dd⟩ := dk_rd I.hok hr
  refine wpAny_in_of (kV_is rx) hd dd.mapOf ⟨.bl _, H, I.tok _, rfl, ?_⟩
  rw [← (rel.val κ).isSome_eq]
  rw [Bool.bne_false] at q
  exact q
theorem op_ninF : OpR X (compareOp .NotIn) (rInF true) := by
  intro pins s σ H x y v u Q I rx ry h
  obtain ⟨a, kvs, κ, rfl, rfl, hr, q⟩ := h
  cases ry
  obtain ⟨_, hd, vs, rel, dd⟩ := dk_rd I.hok hr
  refine wpAny_notIn_of (kV_is rx) hd dd.mapOf ⟨.bl _, H, I.tok _, rfl, ?_⟩
  rw [← (rel.val κ).isSome_eq]
  rw [Bool.bne_true] at q
  exact q
/-- d[k] = v -/
def rPutF : TSet := fun o i v H Q => ∃ a kvs κ, o = .ref a ∧ i = kV κ ∧ H a = some (.dK kvs) ∧ kvs.length < sizeLine ∧ Q (upd H a (.dK (putK kvs κ v)))
theorem set_F {k : Nat} (gd : Gd k X) : PSet X rPutF := by
  intro pins s σ H o i v ov iv u Q I ro ri rv h
  obtain ⟨a, kvs, κ, rfl, rfl, hr, hz, q⟩ := h
  cases ro
  have := gd.r.un
  exact d_setItem (by omega) I (DPut.k hr hz) ri rv fun s' I' => ⟨_, I', q⟩
def rPutN (X : Cx) : TSet := fun o i v H Q => ∃ a c kvs k, o = .ref a ∧ i = .ref c ∧ (H a = some (dnO (gx X) a kvs) ∨ (kvs = [] ∧ H a = some (.dK []))) ∧ (∀ p ∈ kvs, NkAt X H p.2.1 p.1) ∧ NkAt X H c k ∧ kvs.length < sizeLine ∧ Q (upd H a (dnO (gx X) a (nPut kvs k c v)))
theorem dn_ok {P : Program} {w : World} {K : PySem.W.Frag} {h : Heap} {a : Addr} {kvs : NV} {xs : List (NestedKey × Addr × Value)} {H' : Hp} (hz : kvs.length ≤ sizeLine) (hd : (a == sysModules) = false) (pr : Paired NP kvs xs) {ob : Obj} {es : Array DictEntry} {ep : Nat} (h1 : h.get? a = some ob) (h2 : ob.ExactDict) (h3 : ob.data = .dict es ep)
    (h4 : es.toList = xs.map (entryOfKey (nestedKind P w))) (h5 : (xs.map (·.1)).Nodup) : ObjOk P w H' h a (dnO ⟨P, w, K⟩ a kvs) := by
  refine ⟨⟨hz, hd, xs, pr, ob, es, ep, h1, h2, h3, h4, h5⟩, ⟨ob, h1⟩, ?_⟩
  rintro g1 g2 ⟨hz, hd, xs, pr, ob, es, ep, h1, h2, h3, h4, h5⟩ k
  exact ⟨hz, hd, xs, pr, ob, es, ep, k _ h1, h2, h3, h4, h5⟩
theorem set_N {k : Nat} (gd : Gd k X) : PSet X (rPutN X) := by
  intro pins s σ H o i v ov iv u Q I ro ri rv h
  obtain ⟨a, c, kvs, k, rfl, rfl, hr, hk, hc, hz, q⟩ := h
  cases ro
  cases ri
  have key : ∃ xs, (a == sysModules) = false ∧ Paired NP kvs xs ∧ s.heap.DictOfH (nestedKind X.prog X.w) a xs := by
    obtain ⟨_, hd, xs, pr, hm⟩ := dn_rd I (hr.elim (fun h => .inl (.inl h)) fun h => .inr ⟨h.1, .inl h.2⟩) hk
    exact ⟨xs, hd, pr, hm⟩
  obtain ⟨xs, hd, pr, hm⟩ := key
  have hl := Paired.length pr
  refine wpAny_setItem_heap (hsz := by omega) (room8 gd) (hc pins σ s I) hm fun h' dd' hs => ⟨_, ?_, q⟩
  obtain ⟨ob, es, ep, h1, h2, h3, h4, _, h5⟩ := dd'
  refine d_write I ?_ hs ⟨ob, h1⟩ (dn_ok (by have := nPut_len (k := k) (b := c) (v := v) (kvs := kvs); omega) hd (np_put rv pr) h1 h2 h3 h4 h5)
  rcases hr with hr | ⟨_, hr⟩ <;> rw [hr] <;> exact True.intro
end
end L4

namespace L4
open PySem PySem.Spec PyProof.Rows L2
section
variable {X : Cx} {g : G} {T T' : Tk} {H : Hp} {m : M} {Q : VK} {pos p apos : Pos} {e o : Expr} {es : List Expr} {n : Nat} {x c nm : Str}
def dicO : O → Option (List D × List D)
  | .dic ks vs => some (ks, vs)
  | _ => none
def dicOf (m : M) : D → Option (List D × List D)
  | .dic ks vs => some (ks, vs)
  | .ref n => (m[n]?).bind dicO
  | _ => none
/-- a dict, as it is read -/
inductive DicR (X : Cx) (T : Tk) (H : Hp) (a : Addr) (ks vs : List D) : Prop
  | flat {kvs} : Rd H a (.dK kvs) → RepL (gx X) T H ks (kvs.map fun p => kV p.1) → RepL (gx X) T H vs (kvs.map Prod.snd) → DicR X T H a ks vs
  | nest {kvs} : Rd H a (dnO (gx X) a kvs) → (ks.map nkT = kvs.map (fun p => some p.1) ∧ kvs ≠ []) → RepL (gx X) T H ks (kvs.map fun p => .ref p.2.1) → RepL (gx X) T H vs (kvs.map fun p => p.2.2) → DicR X T H a ks vs
theorem dic_rep {d : D} {v : V} {ks vs : List D} (hm : RepH (gx X) T H m) (r : Rep (gx X) T H d v) (h : dicOf m d = some (ks, vs)) : ∃ a, v = .ref a ∧ DicR X T H a ks vs := by
  cases r with
  | dicF n f r q => cases h; exact ⟨_, rfl, .flat f r q⟩
  | dicN n f e r q => cases h; exact ⟨_, rfl, .nest f e r q⟩
  | ref e =>
    obtain ⟨o, h1, h2⟩ := Option.bind_eq_some_iff.mp h
    cases hm.at_ _ _ _ e h1 with
    | dicF f r q => cases h2; exact ⟨_, rfl, .flat (.inl f) r q⟩
    | dicN f k r q => cases h2; exact ⟨_, rfl, .nest (.inl f) k r q⟩
    | _ => cases h2
  | _ => cases h
def headOk (ks : List D) (k : D) : Bool := match ks with
  | [] => isFlat k || (nkT k).isSome
  | a :: _ => if isFlat a then isFlat k else (nkT k).isSome
theorem flat_key {d : D} (h : isFlat d = true) : ∃ κ, d = keyD κ := by
  cases d with
  | int i => exact ⟨.inl i, rfl⟩
  | str i => exact ⟨.inr i, rfl⟩
  | _ => cases h
theorem flatOf_key (κ : Key) : isFlat (keyD κ) = true := by cases κ <;> rfl
theorem nk_notflat {d : D} {k : NestedKey} (h : nkT d = some k) : isFlat d = false := by
  cases d with
  | tup ds => rfl
  | _ => cases h
/-- a key and a dict: both flat, or both nested -/
theorem dic_cases {a : Addr} {ks vs : List D} {k : D} {v : V} (r : DicR X T H a ks vs) (hk : headOk ks k = true) (rk : Rep (gx X) T H k v) :
    (∃ kvs κ, Rd H a (.dK kvs) ∧ RepL (gx X) T H ks (kvs.map fun p => kV p.1) ∧ RepL (gx X) T H vs (kvs.map Prod.snd) ∧ k = keyD κ ∧ v = kV κ) ∨
    (∃ kvs b κ, NDict X H a kvs ∧ (ks.map nkT = kvs.map (fun p => some p.1)) ∧ RepL (gx X) T H ks (kvs.map fun p => .ref p.2.1) ∧ RepL (gx X) T H vs (kvs.map fun p => p.2.2) ∧ v = .ref b ∧ nkT k = some κ ∧ NkAt X H b κ ∧ (Rd H a (dnO (gx X) a kvs) ∨ kvs = [] ∧ Rd H a (.dK []))) := by
  have nested : ∀ κ, nkT k = some κ → ∃ b, v = .ref b ∧ NkAt X H b κ := by
    intro κ h
    cases k with
    | tup ds => cases rk with
      | tup f r => exact ⟨_, rfl, nkAt h (.tup f r)⟩
    | _ => cases h
  have flat : isFlat k = true → ∃ κ, k = keyD κ ∧ v = kV κ := by
    intro h
    obtain ⟨κ, rfl⟩ := flat_key h
    cases κ with
    | inl i => cases rk; exact ⟨.inl i, rfl, rfl⟩
    | inr i => cases rk; exact ⟨.inr i, rfl, rfl⟩
  cases r with
  | @flat kvs h r q =>
    by_cases hf : isFlat k = true
    · obtain ⟨κ, e1, e2⟩ := flat hf
      exact .inl ⟨kvs, κ, h, r, q, e1, e2⟩
    · cases kvs with
      | nil =>
        cases r
        cases q
        unfold headOk at hk
        simp only [Bool.not_eq_true] at hf
        rw [hf, Bool.false_or] at hk
        obtain ⟨κ, hκ⟩ := Option.isSome_iff_exists.mp hk
        obtain ⟨b, e1, e2⟩ := nested κ hκ
        exact .inr ⟨[], b, κ, .inr ⟨rfl, h⟩, rfl, .nil, .nil, e1, hκ, e2, .inr ⟨rfl, h⟩⟩
      | cons p kvs =>
        have := repL_keys r
        subst this
        unfold headOk at hk
        simp only [List.map_cons, flatOf_key, if_true] at hk
        exact absurd hk hf
  | @nest kvs h e r q =>
    cases kvs with
    | nil => exact absurd rfl e.2
    | cons p kvs =>
      cases r with
      | cons r1 r2 =>
        have e1 := e.1
        simp only [List.map_cons, List.cons.injEq] at e1
        simp only [headOk, nk_notflat e1.1, Bool.false_eq_true, if_false] at hk
        obtain ⟨κ, hκ⟩ := Option.isSome_iff_exists.mp hk
        obtain ⟨b, e2, e3⟩ := nested κ hκ
        exact .inr ⟨p :: kvs, b, κ, .inl h, e.1, .cons r1 r2, q, e2, hκ, e3, .inl h⟩
theorem nest_get {k : D} {κ : NestedKey} (hk : nkT k = some κ) : ∀ {kvs : NV} {ks vs : List D}, ks.map nkT = kvs.map (fun p => some p.1) → RepL g T H vs (kvs.map fun p => p.2.2) → (∀ d, dGet ks vs k = some d → ∃ v, nGet kvs κ = some v ∧ Rep g T H d v) ∧ nHas kvs κ = dHas ks k
  | [], [], _, _, r => by cases r; exact ⟨fun d h => (by cases h), rfl⟩
  | [], _ :: _, _, h, _ => by cases h
  | _ :: _, [], _, h, _ => by cases h
  | p :: kvs, a :: ks, _, h, r => by
    simp only [List.map_cons, List.cons.injEq] at h
    cases r with
    | cons r1 r2 =>
      obtain ⟨h1, h2⟩ := nest_get hk h.2 r2
      have ek : eqK a k = decide (p.1 = κ) := eqK_nk a k _ _ (nkT_nk h.1).1 (nkT_nk hk).1
      by_cases e : p.1 = κ
      · rw [decide_eq_true e] at ek
        refine ⟨fun d hd => ?_, by simp [nHas, dHas, ek, e]⟩
        simp only [dGet, ek, if_true] at hd
        cases hd
        exact ⟨p.2.2, by simp [nGet, List.find?_cons, e], r1⟩
      · rw [decide_eq_false e] at ek
        refine ⟨fun d hd => ?_, ?_⟩
        · simp only [dGet, ek] at hd
          obtain ⟨v, e1, q⟩ := h1 d hd
          exact ⟨v, by simp only [nGet, List.find?_cons, e, decide_false]; exact e1, q⟩
        · simp only [nHas, dHas, List.any_cons, ek, e, decide_false, Bool.false_or]
          exact h2
theorem nest_put {k d : D} {κ : NestedKey} {b : Addr} {v : V} (hk : nkT k = some κ) (rk : Rep g T H k (.ref b)) (rv : Rep g T H d v) {kvs : NV} {ks vs : List D} (h : ks.map nkT = kvs.map (fun p => some p.1)) (r : RepL g T H ks (kvs.map fun p => .ref p.2.1)) (q : RepL g T H vs (kvs.map fun p => p.2.2)) :
    (dPutK ks k).map nkT = (nPut kvs κ b v).map (fun p => some p.1) ∧ RepL g T H (dPutK ks k) ((nPut kvs κ b v).map fun p => .ref p.2.1) ∧ RepL g T H (dPutV ks vs k d) ((nPut kvs κ b v).map fun p => p.2.2) := by
  have hh := (nest_get hk h q).2
  unfold dPutK dPutV nPut
  rw [hh]
  cases dHas ks k with
  | false =>
    simp only [Bool.false_eq_true, if_false, List.map_append, List.map_cons, List.map_nil]
    exact ⟨by rw [h, hk], r.append (.cons rk .nil), q.append (.cons rv .nil)⟩
  | true =>
    simp only [if_true]
    have key : ∀ {kvs : NV} {ks vs : List D}, ks.map nkT = kvs.map (fun p => some p.1) → RepL g T H vs (kvs.map fun p => p.2.2) → (kvs.map fun p => if p.1 = κ then (p.1, p.2.1, v) else p).map (fun p => some p.1) = kvs.map (fun p => some p.1) ∧
        (kvs.map fun p => if p.1 = κ then (p.1, p.2.1, v) else p).map (fun p => V.ref p.2.1) = kvs.map (fun p => V.ref p.2.1) ∧ RepL g T H (dRep ks vs k d) ((kvs.map fun p => if p.1 = κ then (p.1, p.2.1, v) else p).map fun p => p.2.2) := by
      intro kvs
      induction kvs with
      | nil => intro ks vs h q; cases q; cases ks with
        | nil => exact ⟨rfl, rfl, .nil⟩
        | cons _ _ => cases h
      | cons p kvs ih =>
        intro ks vs h q
        cases ks with
        | nil => cases h
        | cons a ks =>
          simp only [List.map_cons, List.cons.injEq] at h
          cases q with
          | cons q1 q2 =>
            obtain ⟨h1, h2, h3⟩ := ih h.2 q2
            have ek : eqK a k = decide (p.1 = κ) := eqK_nk a k _ _ (nkT_nk h.1).1 (nkT_nk hk).1
            by_cases e : p.1 = κ
            · rw [decide_eq_true e] at ek
              simp only [List.map_cons, if_pos e, dRep, ek, if_true, h1, h2]
              exact ⟨trivial, trivial, .cons rv h3⟩
            · rw [decide_eq_false e] at ek
              simp only [List.map_cons, if_neg e, dRep, ek, h1, h2]
              exact ⟨trivial, trivial, .cons q1 h3⟩
    obtain ⟨h1, h2, h3⟩ := key h q
    exact ⟨by rw [h1]; exact h, by rw [h2]; exact r, h3⟩
/-! x in y, for all kinds of y -/
def inAB (m : M) (x y : D) : Option Bool := match dicOf m y with
  | some (ks, _) => if headOk ks x then some (dHas ks x) else none
  | none => inB m x y
def inA (m : M) (x y : D) : Option D := (inAB m x y).map .bl
def ninA (m : M) (x y : D) : Option D := (inAB m x y).map fun b => .bl (!b)
theorem op_inA {k : Nat} (gd : Gd k X) : OpD X (compareOp .In) inA := by
  obtain ⟨r0, h0, q0⟩ := (op_in' (X := X) gd).ex
  refine ⟨_, orR h0 (orR op_inF (op_inN gd)), fun T H m x y v u d hm rx ry hf Q k => ?_⟩
  obtain ⟨b, hb, rfl⟩ := Option.map_eq_some_iff.mp hf
  unfold inAB at hb
  split at hb
  · next ks vs hd =>
    obtain ⟨hk, hb⟩ := ite_some hb
    cases hb
    obtain ⟨a, rfl, dr⟩ := dic_rep hm ry hd
    rcases dic_cases dr hk rx with ⟨kvs, κ, h1, h2, h3, rfl, rfl⟩ | ⟨kvs, b, κ, h1, h2, h3, h4, rfl, h5, h6, _⟩
    · refine .inr (.inl ⟨a, kvs, κ, rfl, rfl, h1, ?_⟩)
      rw [(flat_get h3).2, Bool.bne_false, ← repL_keys h2]
      exact k.now hm (.bl _)
    · refine .inr (.inr ⟨a, b, kvs, κ, rfl, rfl, h1, nkAts h2 h3, h6, ?_⟩)
      rw [(nest_get h5 h2 h4).2, Bool.bne_false]
      exact k.now hm (.bl _)
  · exact .inl (q0 T H m x y v u _ hm rx ry (by unfold inD; rw [hb]; rfl) Q k)
theorem op_ninA {k : Nat} (gd : Gd k X) : OpD X (compareOp .NotIn) ninA := by
  obtain ⟨r0, h0, q0⟩ := (op_nin' (X := X) gd).ex
  refine ⟨_, orR h0 (orR op_ninF (op_ninN gd)), fun T H m x y v u d hm rx ry hf Q k => ?_⟩
  obtain ⟨b, hb, rfl⟩ := Option.map_eq_some_iff.mp hf
  unfold inAB at hb
  split at hb
  · next ks vs hd =>
    obtain ⟨hk, hb⟩ := ite_some hb
    cases hb
    obtain ⟨a, rfl, dr⟩ := dic_rep hm ry hd
    rcases dic_cases dr hk rx with ⟨kvs, κ, h1, h2, h3, rfl, rfl⟩ | ⟨kvs, b, κ, h1, h2, h3, h4, rfl, h5, h6, _⟩
    · refine .inr (.inl ⟨a, kvs, κ, rfl, rfl, h1, ?_⟩)
      rw [(flat_get h3).2, Bool.bne_true, ← repL_keys h2]
      exact k.now hm (.bl _)
    · refine .inr (.inr ⟨a, b, kvs, κ, rfl, rfl, h1, nkAts h2 h3, h6, ?_⟩)
      rw [(nest_get h5 h2 h4).2, Bool.bne_true]
      exact k.now hm (.bl _)
  · exact .inl (q0 T H m x y v u _ hm rx ry (by unfold ninD; rw [hb]; rfl) Q k)
/-! a[b] -/
def ixA (m : M) (x y : D) : Option D := match dicOf m x with
  | some (ks, vs) => if headOk ks y then dGet ks vs y else none
  | none => ixD m x y
theorem de_ixA {a b : Expr} {fa fb : EF} {k : Nat} (gd : Gd k X) (ha : DE X a fa) (hb : DE X b fb) (hs : PlainIx b := by exact fun _ _ => rfl) : DE X (.Subscript a b pos) (eOp ixA fa fb) := by
  obtain ⟨ta, pa, ra⟩ := ha.ex; obtain ⟨tb, pb, rb⟩ := hb.ex
  refine ⟨_, pe_ix (ixR_or (ixR_or ix_tup (ixR_or ix_str ix_list)) (ixR_or ix_F (ix_N gd))) pa pb hs, rf_op (fun T H m x y v u d hm rx ry hf Q k => ?_) ra rb⟩
  unfold ixA at hf
  split at hf
  · next ks vs hd =>
    obtain ⟨hk, hf⟩ := ite_some hf
    obtain ⟨a, rfl, dr⟩ := dic_rep hm rx hd
    rcases dic_cases dr hk ry with ⟨kvs, κ, h1, h2, h3, rfl, rfl⟩ | ⟨kvs, b, κ, h1, h2, h3, h4, rfl, h5, h6, _⟩
    · rw [repL_keys h2] at hf
      obtain ⟨w, e1, q⟩ := (flat_get h3).1 d hf
      exact .inr (.inl ⟨a, kvs, κ, w, rfl, h1, rfl, e1, k.now hm q⟩)
    · obtain ⟨w, e1, q⟩ := (nest_get h5 h2 h4).1 d hf
      exact .inr (.inr ⟨a, b, kvs, κ, w, rfl, rfl, h1, nkAts h2 h3, h6, e1, k.now hm q⟩)
  · left
    rcases ixD_some hf with ⟨ds, i, rfl, rfl, h⟩ | ⟨z, i, c, rfl, rfl, hz, h, rfl⟩ | ⟨ds, i, h1, rfl, h⟩
    · obtain ⟨p, vs, rfl, hx, r1⟩ := tup_rep rx
      cases ry
      obtain ⟨w, e, q⟩ := r1.atI h
      exact .inl ⟨p, vs, i, w, rfl, rfl, hx, e, k.now hm q⟩
    · cases rx; cases ry
      exact .inr (.inl ⟨z, i, c, rfl, rfl, hz, h, k.now hm (.str _)⟩)
    · obtain ⟨p, vs, rfl, hx, r1⟩ := lstR_rep hm rx h1
      cases ry
      obtain ⟨w, e, q⟩ := r1.atI h
      exact .inr (.inr ⟨p, vs, i, w, rfl, rfl, hx, e, k.now hm q⟩)
/-! a[b] = e -/
def orS (r q : TSet) : TSet := fun o i v H Q => r o i v H Q ∨ q o i v H Q
theorem set_or {r q : TSet} (h1 : PSet X r) (h2 : PSet X q) : PSet X (orS r q) := by
  intro pins s σ H o i v ov iv u Q I ro ri rv h
  rcases h with h | h
  · exact h1 pins s σ H o i v ov iv u Q I ro ri rv h
  · exact h2 pins s σ H o i v ov iv u Q I ro ri rv h
def setO (o : O) (y d : D) : Option O := match o, y with
  | .lst ds, .int k => (L2.ixN ds.length k).map fun j => .lst (ds.set j d)
  | .dic ks vs, y => if headOk ks y ∧ ks.length < sizeLine then some (.dic (dPutK ks y) (dPutV ks vs y d)) else none
  | _, _ => none
def setM (m : M) (x y d : D) : Option M := match x with
  | .ref n => ((m[n]?).bind fun o => setO o y d).map fun o => m.set n o
  | _ => none
def gSetA (o i : EF) : GF := fun d ρ m => bd (o ρ m) fun x m1 => bd (i ρ m1) fun y m2 => (setM m2 x y d).map fun m3 => (ρ, m3)
theorem dg_subA {i : Expr} {fo fi : EF} {k : Nat} (gd : Gd k X) (ho : DE X o fo) (hi : DE X i fi) (hx : ∀ v, assign (.Subscript o i pos) X.env v = (do
      let ov ← holding [v] (eval o X.env)
      let iv ← holding [v, ov] (eval i X.env)
      standAt pos
      holding [v, ov, iv] (setItem ov iv v)
      release [v, ov, iv] []) := by intro _; rfl) : DG X (.Subscript o i pos) (gSetA fo fi) := by
  obtain ⟨to, po, ro⟩ := ho.ex; obtain ⟨ti, pi, ri⟩ := hi.ex
  refine ⟨_, pg_sub po pi (set_or set_list (set_or (set_F gd) (set_N gd))) hx, fun T σ H ρ m d v ρ' m' hm hs r hf Q k => ?_⟩
  obtain ⟨x, m1, e1, hf1⟩ := bd_some hf
  obtain ⟨y, m2, e2, hf2⟩ := bd_some hf1
  clear hf hf1
  refine ro T σ H ρ m x m1 hm hs e1 _ fun u T1 H1 l1 hm1 r1 => ?_
  refine ri T1 σ H1 ρ m1 y m2 hm1 (hs.le l1) e2 _ fun w T2 H2 l2 hm2 r2 => ?_
  obtain ⟨m3, h3, h4⟩ := Option.map_eq_some_iff.mp hf2
  obtain ⟨rfl, rfl⟩ : ρ = ρ' ∧ m3 = m' := by injection h4 with a b; exact ⟨a, b⟩
  have r1' := r1.le l2
  have rd := r.le (l1.trans l2)
  have fin : ∀ H3, Le T2 H2 T2 H3 → RepH (gx X) T2 H3 m3 → Q σ H3 := fun H3 l hm3 => k σ T2 H3 (l1.trans (l2.trans l)) hm3 (hs.le (l1.trans (l2.trans l)))
  cases r1' with
  | @ref n a ea =>
    obtain ⟨ob', h5, h6⟩ := Option.map_eq_some_iff.mp h3
    obtain ⟨ob, h7, h8⟩ := Option.bind_eq_some_iff.mp h5
    subst h6
    have hrep := hm2.at_ _ _ _ ea h7
    cases ob with
    | lst ds =>
      cases hrep with
      | @lst _ vs hH rl =>
        cases r2 with
        | int kk =>
          obtain ⟨j, hj, rfl⟩ := Option.map_eq_some_iff.mp h8
          refine .inl ⟨a, vs, kk, j, rfl, rfl, hH, by rw [← rl.length]; exact hj, ?_⟩
          obtain ⟨l3, hm3⟩ := hm2.put (u := .lst (vs.set j v)) (o := .lst (ds.set j d)) ea fun l => .lst upd_same ((rl.le l).setAt (rd.le l))
          exact fin _ l3 hm3
        | _ => cases h8
    | dic ks vs =>
      have h8' : (if headOk ks y = true ∧ ks.length < sizeLine then some (O.dic (dPutK ks y) (dPutV ks vs y d)) else none) = some ob' := by
        cases y <;> exact h8
      obtain ⟨⟨hk, hz⟩, h9⟩ := ite_some h8'
      cases h9
      have dr : DicR X T2 H2 a ks vs := by
        cases hrep with
        | dicF f r q => exact .flat (.inl f) r q
        | dicN f k r q => exact .nest (.inl f) k r q
      have nofrz : ∀ u, Rd H2 a u → Mu u ∨ True → (∀ ob w, H2 a = some (.frz ob w) → False) → H2 a = some u := fun u h _ nf => by
        rcases h with h | ⟨ob, h⟩
        · exact h
        · exact (nf ob u h).elim
      have nf : ∀ ob w, H2 a = some (.frz ob w) → False := fun ob w h => by
        obtain ⟨u, e, q⟩ := hrep.has
        rw [h] at e
        cases e
        exact q
      clear h3
      rcases dic_cases dr hk r2 with ⟨kvs, κ, h1, h2, h3, rfl, rfl⟩ | ⟨kvs, b, κ, h1, h2, h3, h4, rfl, h5, h6, hor⟩
      · have hH := nofrz _ h1 (.inr trivial) nf
        refine .inr (.inl ⟨a, kvs, κ, rfl, rfl, hH, by have := h2.length; simp at this; omega, ?_⟩)
        obtain ⟨l3, hm3⟩ := hm2.put (u := .dK (putK kvs κ v)) (o := .dic (dPutK ks (keyD κ)) (dPutV ks vs (keyD κ) d)) ea fun l => by
          obtain ⟨z1, z2⟩ := flat_put (κ := κ) (h2.le l) (h3.le l) (rd.le l)
          exact .dicF upd_same z1 z2
        exact fin _ l3 hm3
      · refine .inr (.inr ⟨a, b, kvs, κ, rfl, rfl, hor.elim (fun h => .inl (nofrz _ h (.inr trivial) nf)) (fun h => .inr ⟨h.1, nofrz _ h.2 (.inr trivial) nf⟩), nkAts h2 h3, h6, by have := h3.length; simp at this; omega, ?_⟩)
        obtain ⟨l3, hm3⟩ := hm2.put (u := dnO (gx X) a (nPut kvs κ b v)) (o := .dic (dPutK ks y) (dPutV ks vs y d)) ea fun l => by
          obtain ⟨z1, z2, z3⟩ := nest_put h5 (r2.le l) (rd.le l) h2 (h3.le l) (h4.le l)
          refine .dicN upd_same ⟨z1, ?_⟩ z2 z3
          unfold nPut
          split
          · next hh => intro e; cases kvs with
            | nil => cases hh
            | cons _ _ => cases e
          · simp
        exact fin _ l3 hm3
    | ins c ns vs => cases y <;> cases h8
  | _ => cases h3
end
end L4

namespace L4
open PySem PySem.Spec PyProof.Rows L2
/-! class methods -/
structure PCm (P : Program) (w : World) (K : PySem.W.Frag) (mg : Str → Option Value) (base : Heap) (k : Nat) (c m : Str) (n : Nat) (F : List D → Option D) : Prop where
  len : ∀ ds d, F ds = some d → ds.length = n + 1
  ex : ∃ p f fd ps, FnG P w K mg base CX0 k f fd ps (spP ⟨P, w, K⟩ (n + 1) F) ∧ ClX.CRead K (He.ga K c) (.type "type") ∧ ClX.CMet K (He.ga K c) (.type "type") m p f ∧ Binds K fd ps []
section
variable {P : Program} {w : World} {K : PySem.W.Frag} {mg : Str → Option Value} {base : Heap} {k : Nat} {x q m c p0 : Str} {ps N : List Str} {st : Stmt} {b : SF}
theorem pcm_md (D : L3.Cmd K (He.ga K c) m q st) (S : FnScope N (p0 :: ps) (defScope st))
    (hb : ∀ (kV doc pm : Value) (an : Option Addr) (cdv ct : Value) (us : List Value), us.length = (p0 :: ps).length → bindArgs (PySem.W.fnOf m q (defArgs st) (defBody st) (defScope st) .none kV doc pm an cdv ct) ⟨us, []⟩ = pure ((p0 :: ps).zip us))
    (hbody : ∀ (f : Addr) (cdv : Value) (A : Around) (outer : List Env) (s : Shared) (H : Hp) (E : XK), Gd k (cxOf CX0 P w K mg base N q (defScope st) f cdv A outer s H E).nox →
      DSs (cxOf CX0 P w K mg base N q (defScope st) f cdv A outer s H E).nox (defBody st) b) : PCm P w K mg base (k + 1) c m ps.length (runP (ps.length + 1) N.length b) := by
  obtain ⟨p, g, fd, F, r, cm⟩ := D.ex
  exact ⟨fun ds d h => runP_len h, p, g, fd, p0 :: ps, fnG_all F S (fun vs H Q E h => h.1) (fun r => spP_run r) (hbody g), r, cm, F.binds hb⟩
end
section
variable {X : Cx} {g : G} {T T' : Tk} {H : Hp} {m : M} {Q : VK} {pos p apos : Pos} {e o : Expr} {es : List Expr} {k n : Nat} {x c nm : Str}
theorem FnG.code {f : Addr} {fd : FuncData} {ps : List Str} {sp : Sp} {pins : List (Addr × Obj)} {σ : L2.St} {s : Shared} {us : List Value} {vs : List V} (F : FnG X.prog X.w X.K X.mg X.base CX0 k f fd ps sp) (hr : Gd k X) (hb : Binds X.K fd ps []) (I : Inv X pins σ H s) (r : Vals vs us) (h : sp vs H Q E0) :
    codeAny (model X.prog X.w) X.A (.call (.ref f) ⟨us, []⟩) (fun r s' => match r with | .ok (.ret v) => EP X pins σ Q v s' | .ok _ => False | .error e => X.xe e s') s := by
  have hl : us.length = ps.length := by rw [← r.length]; exact F.len _ _ _ _ h
  have b := hb s us I.kIn (by rw [List.append_nil]; exact hl)
  rw [List.append_nil] at b
  refine codeAny_mono (F.run X.A X.stack s H ⟨us, []⟩ us vs Q E0 hr.g hr.r I.env0 b r h) fun r s' hq => ?_
  match r, hq with
  | .error _, z => exact z.elim
  | .ok (.ret u), z => exact I.after z
def tCmR (C : Addr) (r : List V → Hp → VK → Prop) (ta : TE) (t : TA) : TE := fun σ H Q => ta σ H fun x H1 => x = .ref C ∧ t σ H1 fun vs H2 => r (.ref C :: vs) H2 Q
theorem de_pcm {pl : Sem Bool} {F : List D → Option D} {f : AF} {p1 : Pos} (hF : PCm X.prog X.w X.K X.mg X.base k c nm n F) (gd : Gd k X) (hg : Gl X c) (hm : X.mg c = some (.ref (He.ga X.K c))) (ha : DA X (e :: es) f)
    (hdb : (c == ("__debug__" : Str)) = false := by decide) (hst : starEach (e :: es) X.env = (false, eval e X.env) :: starEach es X.env := by rfl) (hpl : (backTo pos (starEach es X.env)).any (·.1) = false := by rfl)
    (ht : eval (.Call (.Attribute (.Name c p1) nm apos) (e :: es) [] pos) X.env = (do
      let ov ← eval (.Name c p1) X.env
      standAt apos.atName
      let (f, first) ← holding [ov] (getMethod ov nm pl)
      callWith pos f first (backTo pos (starEach (e :: es) X.env)) (backToKw pos (keywordEach [] X.env))) := by rfl) : DE X (.Call (.Attribute (.Name c p1) nm apos) (e :: es) [] pos) (eCall (callP fun ds => F (.glo c :: ds)) f) := by
  obtain ⟨q, fa, fd, ps, G, rd, cm, b⟩ := hF.ex
  obtain ⟨t, pa, ra⟩ := ha.ex
  refine ⟨tCB (fun vs H Q => spP (gx X) (n + 1) F (.ref (He.ga X.K c) :: vs) H Q E0) t, ⟨fun pins s σ H Q I h => ?_⟩, ?_⟩
  · refine PySem.W.methodCall_KW (pl := pl) (ld_glob I hg hm ?_ hdb) ht
    refine ClX.getmethcm_ok I rd cm fun s2 I2 => ClX.callwith_cm I2 (ClX.base_none I (Nat.le_refl _)) cm.fi (thn (pa.run pos _ s2 σ H _ I2 h) fun us s3 ⟨vs, H2, I3, rv, q2⟩ => ⟨⟨ClX.pin_at I3, I3.kIn⟩, ?_⟩) hst hpl
    exact thn (wpAny_call (PySem.W.method_call (ClX.pin_at I3) (G.code (vs := .ref (He.ga X.K c) :: vs) (us := .ref (He.ga X.K c) :: us) gd b I3 (.cons rfl rv) q2))) fun _ _ y => ClX.unpinE y
  · refine rf_call (fun T H m xs vs d hm r hf Q k => ?_) ra
    have z := rf_callP (g := gx X) (n := n) (F := fun ds => F (.glo c :: ds)) (fun ds d h => by have := hF.len _ _ h; simpa using this) T H m xs vs d hm r hf Q k
    obtain ⟨hl, ν, ds, d', h1, h2, h3, h4⟩ := z
    exact ⟨by simp [hl], ν, .glo c :: ds, d', h1, .cons (.glo c) h2, h3, h4⟩
/-- cls(*a, ..): a local that holds a class -/
def eNewPL (i : Nat) (c : Str) (F : List D → M → Option (D × M)) (a : AF) : EF := fun ρ m => match ρ.getD i none with
  | some (.glo c') => if c' = c then eCall (pureC (newP c F)) a ρ m else none
  | _ => none
theorem de_newPL {F : List D → M → Option (D × M)} {f : AF} {i : Nat} {e2 : Expr} {p2 : Pos} {a2 : Bool × Sem Value} {r2 : List (Bool × Sem Value)} (hF : MNw X.prog X.w X.K X.mg X.base k c n F) (gd : Gd (k + 1) X) (hN : X.N[i]? = some x) (hv : Vis X.env.scope x) (ha : DA X (.Starred e p2 :: e2 :: es) f)
    (hdb : (x == ("__debug__" : Str)) = false := by decide) (hcd : (x == ("__classdict__" : Str)) = false := by decide)
    (he : starEach (.Starred e p2 :: e2 :: es) X.env = (true, eval e X.env) :: a2 :: r2 := by rfl) : DE X (.Call (.Name x p) (.Starred e p2 :: e2 :: es) [] pos) (eNewPL i c F f) := by
  obtain ⟨fa, fd, ps, G, M, b⟩ := hF.ex
  obtain ⟨t, pa, ra⟩ := ha.ex
  have hc := G.make M gd b
  refine ⟨fun σ H Q => σ[i]? = some (some (.ref (He.ga X.K c))) ∧ tCB (fun vs H Q => ∀ x dx, H x = none → H dx = none → dx ≠ x → spM (gx X) n F (.ref x :: vs) (upd (upd H dx (.own x)) x (.ins (He.ga X.K c) dx [])) (fun v H2 => v = .non ∧ Q (.ref x) H2) E0) t σ H Q, ⟨fun pins s σ H Q I h => ?_⟩, fun T σ H ρ m d m' hm hs hf Q k => ?_⟩
  · obtain ⟨hs, ht⟩ := h
    refine wpAny_Call_Name_kw (thn ((pe_var (pos := p) hN hv hdb hcd).run pins s σ H (fun v H1 => v = .ref (He.ga X.K c) ∧ H1 = H) I ⟨_, hs, rfl, rfl⟩) fun u s1 ⟨v, H1, I1, r1, q1⟩ => ?_)
    obtain ⟨e1, e2⟩ := q1
    subst e1 e2
    cases r1
    have hrun := pa.run pos pins s1 σ _ _ I1 ht
    rw [he] at hrun
    show wpAny _ _ (callWith pos (.ref (He.ga X.K c)) [] (backTo pos (starEach (.Starred e p2 :: _ :: es) X.env)) []) _ _ _
    rw [he]
    refine PySem.W.ks_call (P := fun h => X.K.In h) rfl (PySem.W.keeps_K M.kp) (L3.evalArgs_star (thn hrun fun us s2 ⟨vs, H2, I2, r, q⟩ => ⟨I2.kIn, ?_⟩))
    exact hc pins s2 σ H2 vs us Q I2 r q
  · unfold eNewPL at hf
    split at hf
    · next c' hc' =>
      obtain ⟨ec, hf⟩ := ite_some hf
      subst ec
      obtain ⟨v, ev, rv⟩ := hs.at_ i (.glo c') (by
        rw [List.getD_eq_getElem?_getD] at hc'
        cases h : ρ[i]? with
        | none => rw [h] at hc'; cases hc'
        | some o => rw [h] at hc'; cases hc'; rfl)
      cases rv
      exact ⟨ev, rf_call (rf_newP hF.len) ra T σ H ρ m d m' hm hs hf Q k⟩
    · cases hf
/-! all, any, sum, max, min of lists -/
def allD : M → List D → Option D
  | m, [x] => ((lstR m x).bind bools).map fun bs => .bl (bs.all id)
  | _, _ => none
def anyD : M → List D → Option D
  | m, [x] => ((lstR m x).bind bools).map fun bs => .bl (bs.any id)
  | _, _ => none
theorem call_all' (hc : X.calm = true) : CallD X (.builtin "all") allD := ⟨_, cr_all hc, fun T H m xs vs d hm r hf Q k => by
  unfold allD at hf; split at hf
  · obtain ⟨bs, h1, rfl⟩ := Option.map_eq_some_iff.mp hf
    obtain ⟨ds, h2, h3⟩ := Option.bind_eq_some_iff.mp h1
    obtain ⟨v, rfl, q⟩ := r.one
    obtain ⟨a, ws, rfl, hx, rl⟩ := lstR_rep hm q h2
    rw [bools_rep h3 rl] at hx
    exact ⟨a, bs, rfl, hx, k.now hm (.bl _)⟩
  · cases hf⟩
theorem call_any' (hc : X.calm = true) : CallD X (.builtin "any") anyD := ⟨_, cr_any hc, fun T H m xs vs d hm r hf Q k => by
  unfold anyD at hf; split at hf
  · obtain ⟨bs, h1, rfl⟩ := Option.map_eq_some_iff.mp hf
    obtain ⟨ds, h2, h3⟩ := Option.bind_eq_some_iff.mp h1
    obtain ⟨v, rfl, q⟩ := r.one
    obtain ⟨a, ws, rfl, hx, rl⟩ := lstR_rep hm q h2
    rw [bools_rep h3 rl] at hx
    exact ⟨a, bs, rfl, hx, k.now hm (.bl _)⟩
  · cases hf⟩
/-! a dict of the top -/
def tblGet (tb : List (Str × D)) (y : D) : Option D := match y with
  | .str z => tb.lookup z
  | _ => none
structure Tbl (X : Cx) (x : Str) (tb : List (Str × D)) : Prop where
  ex : ∃ es n, KDict X.K X.w (He.ga X.K x) es n
  val : ∀ q ∈ tb, ∃ u v, PySem.W.nsIn X.K (He.ga X.K x) q.1 = some (some u) ∧ RelV v u ∧ ∀ T H, Rep (gx X) T H q.2 v
  no : ∀ z, tb.lookup z = none → PySem.W.nsIn X.K (He.ga X.K x) z = some none
theorem lookup_mem {tb : List (Str × D)} {z : Str} {d : D} (h : tb.lookup z = some d) : (z, d) ∈ tb := by
  induction tb with
  | nil => cases h
  | cons p tb ih =>
    simp only [List.lookup] at h
    split at h
    · next hz => cases h; rw [beq_iff_eq.mp hz]; exact List.mem_cons_self ..
    · exact List.mem_cons_of_mem _ (ih h)
def eTbl (tb : List (Str × D)) (a : EF) : EF := fun ρ m => bd (a ρ m) fun y m1 => pu (tblGet tb y) m1
theorem de_tbl {tb : List (Str × D)} {b : Expr} {fb : EF} {p1 : Pos} (ht : Tbl X x tb) (hg : Gl X x) (hm : X.mg x = some (.ref (He.ga X.K x))) (hb : DE X b fb) (hd : (x == ("__debug__" : Str)) = false := by decide) (hs : PlainIx b := by exact fun _ _ => rfl) : DE X (.Subscript (.Name x p1) b pos) (eTbl tb fb) := by
  obtain ⟨tb', pb, rb⟩ := hb.ex
  refine ⟨_, pe_ix ix_kdict (pe_glob (v := .ref (He.ga X.K x)) hg hm rfl hd) pb hs, fun T σ H ρ m d m' hm hs hf Q k => ?_⟩
  obtain ⟨y, m1, e1, hf⟩ := bd_some hf
  obtain ⟨e2, rfl⟩ := pu_some hf
  refine rb T σ H ρ m y _ hm hs e1 _ fun v T1 H1 l1 hm1 r1 => ?_
  cases r1 with
  | str z =>
    obtain ⟨es, n, D⟩ := ht.ex
    obtain ⟨u, w, h1, h2, h3⟩ := ht.val (z, d) (lookup_mem e2)
    exact ⟨_, z, w, rfl, rfl, L3.kdct_of D h1 h2, k _ T1 H1 l1 hm1 (h3 _ _)⟩
  | _ => cases e2
def eTblNin (tb : List (Str × D)) (a : EF) : EF := fun ρ m => bd (a ρ m) fun y m1 => match y with
  | .str z => some (.bl (!(tb.lookup z).isSome), m1)
  | _ => none
def eTblIn (tb : List (Str × D)) (a : EF) : EF := fun ρ m => bd (a ρ m) fun y m1 => match y with
  | .str z => some (.bl (tb.lookup z).isSome, m1)
  | _ => none
theorem Tbl.ns {tb : List (Str × D)} (ht : Tbl X x tb) (z : Str) : ∃ r, PySem.W.nsIn X.K (He.ga X.K x) z = some r ∧ r.isSome = (tb.lookup z).isSome := by
  cases h : tb.lookup z with
  | none => exact ⟨none, ht.no z h, rfl⟩
  | some d =>
    obtain ⟨u, w, h1, _⟩ := ht.val (z, d) (lookup_mem h)
    exact ⟨some u, h1, rfl⟩
theorem rf_tblNin {tb : List (Str × D)} {t : TE} {f : EF} (ht : Tbl X x tb) (ra : RfE (gx X) t f) : RfE (gx X) (tOp (L3.rInKD X.K (He.ga X.K x) true) t (tC (.ref (He.ga X.K x)))) (eTblNin tb f) := by
  intro T σ H ρ m d m' hm hs hf Q k
  obtain ⟨y, m1, e1, hf1⟩ := bd_some hf
  refine ra T σ H ρ m y m1 hm hs e1 _ fun v T1 H1 l1 hm1 r1 => ?_
  clear hf
  cases r1 with
  | str z =>
    cases hf1
    obtain ⟨r, h1, h2⟩ := ht.ns z
    exact ⟨z, r, rfl, rfl, h1, by simp only [if_true]; rw [h2]; exact k _ T1 H1 l1 hm1 (.bl _)⟩
  | _ => cases hf1
theorem de_tblNin {tb : List (Str × D)} {a : Expr} {f : EF} {p1 : Pos} (ht : Tbl X x tb) (hg : Gl X x) (hm : X.mg x = some (.ref (He.ga X.K x))) (ha : DE X a f) (hd : (x == ("__debug__" : Str)) = false := by decide) : DE X (.Compare a [.NotIn] [.Name x p1] pos) (eTblNin tb f) := by
  obtain ⟨t, pa, ra⟩ := ha.ex
  obtain ⟨es, n, D⟩ := ht.ex
  exact ⟨_, pe_cmpR (L3.op_notIn_kd' D) pa (pe_glob (v := .ref (He.ga X.K x)) hg hm rfl hd) (by rfl), rf_tblNin ht ra⟩
theorem dt_tblNin {tb : List (Str × D)} {a : Expr} {f : EF} {p1 : Pos} (ht : Tbl X x tb) (hg : Gl X x) (hm : X.mg x = some (.ref (He.ga X.K x))) (ha : DE X a f) (hd : (x == ("__debug__" : Str)) = false := by decide) : DT X (.Compare a [.NotIn] [.Name x p1] pos) (tVal (eTblNin tb f)) := by
  obtain ⟨t, pa, ra⟩ := ha.ex
  obtain ⟨es, n, D⟩ := ht.ex
  exact ⟨_, pt_cmpR (L3.op_notIn_kd' D) pa (pe_glob (v := .ref (He.ga X.K x)) hg hm rfl hd) (by rfl), rf_test (rf_tblNin ht ra)⟩
/-! zip -/
theorem itok_Z {J : It} {ds es : List D} (hgo : ∀ T1 H1, Le T H T1 H1 → ∀ (i : Nat) d e, ds[i]? = some d → es[i]? = some e → J.go i H1 ∧ ∀ x H2, J.yld i H1 x H2 → ∃ t v w, x = .ref t ∧ H1 t = none ∧ H2 = upd H1 t (.tup [v, w]) ∧ Rep g T1 H1 d v ∧ Rep g T1 H1 e w)
    (hst : ∀ T1 H1, Le T H T1 H1 → ∀ i, (ds.zip es).length = i → J.stop i H1) : ItOk g T H J ((ds.zip es).map fun p => .tup [p.1, p.2]) := by
  intro T1 H1 l m1 hm1 i
  refine ⟨fun d hd => ?_, fun hl => hst T1 H1 l i (by simpa using hl)⟩
  rw [List.getElem?_map] at hd
  obtain ⟨⟨a, b⟩, hp, rfl⟩ := Option.map_eq_some_iff.mp hd
  obtain ⟨h1, h2⟩ := List.getElem?_zip_eq_some.mp hp
  obtain ⟨go, yl⟩ := hgo T1 H1 l i a b h1 h2
  refine ⟨go, fun x H2 hy => ?_⟩
  obtain ⟨t, v, w, rfl, ht, rfl, r1, r2⟩ := yl x H2 hy
  obtain ⟨l2, hm2⟩ := hm1.fresh (u := .tup [v, w]) ht
  exact ⟨T1, l2, hm2, .tup (.inl ⟨hm1.nope ht, upd_same⟩) ((RepL.cons r1 (.cons r2 .nil)).le l2)⟩
theorem yld_L {a : Addr} {i : Nat} {vs : List V} {v x : V} (h : SqL g.K H a vs) (hv : vs[i]? = some v) (hy : ∀ xs, SqL g.K H a xs → xs[i]? = some x) : x = v := by
  have := hy vs h
  rw [hv] at this
  exact (Option.some.inj this).symm
theorem yld_T {a : Addr} {i : Nat} {vs : List V} {v x : V} (h : SqT g.K H a vs) (hv : vs[i]? = some v) (hy : ∀ xs, SqT g.K H a xs → xs[i]? = some x) : x = v := by
  have := hy vs h
  rw [hv] at this
  exact (Option.some.inj this).symm
/-- a list or a tuple that stays as it is: what is walked -/
def frzItems : D → Option (Bool × List D)
  | .tup ds => some (true, ds)
  | .lst ds => some (false, ds)
  | .scr ds => some (false, ds)
  | _ => none
theorem frz_T {d : D} {v : V} {ds : List D} (r : Rep g T H d v) (h : frzItems d = some (true, ds)) : ∃ a, v = .ref a ∧ ∀ T1 H1, Le T H T1 H1 → ∃ vs, SqT g.K H1 a vs ∧ RepL g T1 H1 ds vs := by
  cases r with
  | tup f q => cases h; exact ⟨_, rfl, fun T1 H1 l => ⟨_, (f.le l).sq, q.le l⟩⟩
  | _ => cases h
theorem frz_L {d : D} {v : V} {ds : List D} (r : Rep g T H d v) (h : frzItems d = some (false, ds)) : ∃ a, v = .ref a ∧ ∀ T1 H1, Le T H T1 H1 → ∃ vs, SqL g.K H1 a vs ∧ RepL g T1 H1 ds vs := by
  cases r with
  | lst f q => cases h; exact ⟨_, rfl, fun T1 H1 l => ⟨_, (f.le l).sq, q.le l⟩⟩
  | scr f q => cases h; exact ⟨_, rfl, fun T1 H1 l => ⟨_, (f.le l).sq, q.le l⟩⟩
  | _ => cases h
def zipD (ds es : List D) : List D := (ds.zip es).map fun p => .tup [p.1, p.2]
/-- zip of a tuple and a list -/
def iZpM (a : AF) : AF := fun ρ m => bd (a ρ m) fun xs m1 => match xs with
  | [x, y] => match frzItems x, frzItems y with
    | some (true, ds), some (false, es) => some (zipD ds es, m1)
    | _, _ => none
  | _ => none
/-- zip of two lists, of two tuples -/
def iZpA (a : AF) : AF := fun ρ m => bd (a ρ m) fun xs m1 => match xs with
  | [x, y] => match frzItems x, frzItems y with
    | some (true, ds), some (true, es) => some (zipD ds es, m1)
    | some (false, ds), some (false, es) => some (zipD ds es, m1)
    | _, _ => none
  | _ => none
theorem di_zipM {e2 : Expr} {f : AF} {tpos : Pos} {elts : List Expr} {kk : Nat} (hg : Gl X "zip") (hm : X.mg "zip" = none) (ha : DA X [e, e2] f)
    (hs : starEach [e, e2] X.env = (false, eval e X.env) :: starEach [e2] X.env := by rfl) (hpl : (backTo pos (starEach [e2] X.env)).any (·.1) = false := by rfl) : DI X (.Tuple elts kk tpos) (.Call (.Name "zip" p) [e, e2] [] pos) (iZpM f) := by
  obtain ⟨t, pa, ra⟩ := ha.ex
  refine ⟨_, L3.pi_zipM hg hm pa hs hpl, fun T σ H ρ m ds m' hm hs hf R k => ?_⟩
  obtain ⟨xs, m1, e1, hf1⟩ := bd_some hf
  refine ra T σ H ρ m xs m1 hm hs e1 _ fun vs T1 H1 l1 hm1 r1 => ?_
  clear hf
  split at hf1
  · next x y =>
    split at hf1
    · next ds es h1 h2 =>
      cases hf1
      obtain ⟨v, w, rfl, q1, q2⟩ := r1.two
      obtain ⟨a, rfl, ha⟩ := frz_T q1 h1
      obtain ⟨b, rfl, hb⟩ := frz_L q2 h2
      obtain ⟨us, hu, _⟩ := ha T1 H1 .refl
      obtain ⟨ws, hw, _⟩ := hb T1 H1 .refl
      refine ⟨a, b, us, ws, rfl, hu, hw, k _ T1 H1 l1 hm1 (itok_Z (fun T2 H2 l2 i d e hd he => ?_) fun T2 H2 l2 i hi => ?_)⟩
      · obtain ⟨us2, hu2, ru⟩ := ha T2 H2 l2
        obtain ⟨ws2, hw2, rw2⟩ := hb T2 H2 l2
        obtain ⟨u, eu, qu⟩ := ru.get hd
        obtain ⟨w, ew, qw⟩ := rw2.get he
        refine ⟨⟨us2, ws2, u, w, hu2, hw2, eu, ew⟩, fun x H3 ⟨t, x1, y1, h3, h4, h5, h6, h7⟩ => ?_⟩
        rw [yld_T (g := gx X) hu2 eu h6, yld_L (g := gx X) hw2 ew h7] at h5
        exact ⟨t, u, w, h3, h4, h5, qu, qw⟩
      · obtain ⟨us2, hu2, ru⟩ := ha T2 H2 l2
        obtain ⟨ws2, hw2, rw2⟩ := hb T2 H2 l2
        exact ⟨us2, ws2, hu2, hw2, by rw [← hi, List.length_zip, ru.length, rw2.length]⟩
    · cases hf1
  · cases hf1
theorem di_zipA {e2 : Expr} {f : AF} {tpos : Pos} {elts : List Expr} {kk : Nat} (hg : Gl X "zip") (hm : X.mg "zip" = none) (ha : DA X [e, e2] f)
    (hs : starEach [e, e2] X.env = (false, eval e X.env) :: starEach [e2] X.env := by rfl) (hpl : (backTo pos (starEach [e2] X.env)).any (·.1) = false := by rfl) : DI X (.Tuple elts kk tpos) (.Call (.Name "zip" p) [e, e2] [] pos) (iZpA f) := by
  obtain ⟨t, pa, ra⟩ := ha.ex
  refine ⟨_, RZ.pi_zipA hg hm pa hs hpl, fun T σ H ρ m ds m' hm hs hf R k => ?_⟩
  obtain ⟨xs, m1, e1, hf1⟩ := bd_some hf
  refine ra T σ H ρ m xs m1 hm hs e1 _ fun vs T1 H1 l1 hm1 r1 => ?_
  clear hf
  split at hf1
  · next x y =>
    split at hf1
    · next ds es h1 h2 =>
      cases hf1
      obtain ⟨v, w, rfl, q1, q2⟩ := r1.two
      obtain ⟨a, rfl, ha⟩ := frz_T q1 h1
      obtain ⟨b, rfl, hb⟩ := frz_T q2 h2
      obtain ⟨us, hu, _⟩ := ha T1 H1 .refl
      obtain ⟨ws, hw, _⟩ := hb T1 H1 .refl
      refine ⟨a, b, us, ws, rfl, .inr ⟨hu, hw, k _ T1 H1 l1 hm1 (itok_Z (fun T2 H2 l2 i d e hd he => ?_) fun T2 H2 l2 i hi => ?_)⟩⟩
      · obtain ⟨us2, hu2, ru⟩ := ha T2 H2 l2
        obtain ⟨ws2, hw2, rw2⟩ := hb T2 H2 l2
        obtain ⟨u, eu, qu⟩ := ru.get hd
        obtain ⟨w, ew, qw⟩ := rw2.get he
        refine ⟨⟨us2, ws2, u, w, hu2, hw2, eu, ew⟩, fun x H3 ⟨t, x1, y1, h3, h4, h5, h6, h7⟩ => ?_⟩
        rw [yld_T (g := gx X) hu2 eu h6, yld_T (g := gx X) hw2 ew h7] at h5
        exact ⟨t, u, w, h3, h4, h5, qu, qw⟩
      · obtain ⟨us2, hu2, ru⟩ := ha T2 H2 l2
        obtain ⟨ws2, hw2, rw2⟩ := hb T2 H2 l2
        exact ⟨us2, ws2, hu2, hw2, by rw [← ru.length, ← rw2.length, ← hi, List.length_zip]; omega⟩
    · next ds es h1 h2 =>
      cases hf1
      obtain ⟨v, w, rfl, q1, q2⟩ := r1.two
      obtain ⟨a, rfl, ha⟩ := frz_L q1 h1
      obtain ⟨b, rfl, hb⟩ := frz_L q2 h2
      obtain ⟨us, hu, _⟩ := ha T1 H1 .refl
      obtain ⟨ws, hw, _⟩ := hb T1 H1 .refl
      refine ⟨a, b, us, ws, rfl, .inl ⟨hu, hw, k _ T1 H1 l1 hm1 (itok_Z (fun T2 H2 l2 i d e hd he => ?_) fun T2 H2 l2 i hi => ?_)⟩⟩
      · obtain ⟨us2, hu2, ru⟩ := ha T2 H2 l2
        obtain ⟨ws2, hw2, rw2⟩ := hb T2 H2 l2
        obtain ⟨u, eu, qu⟩ := ru.get hd
        obtain ⟨w, ew, qw⟩ := rw2.get he
        refine ⟨⟨us2, ws2, u, w, hu2, hw2, eu, ew⟩, fun x H3 ⟨t, x1, y1, h3, h4, h5, h6, h7⟩ => ?_⟩
        rw [yld_L (g := gx X) hu2 eu h6, yld_L (g := gx X) hw2 ew h7] at h5
        exact ⟨t, u, w, h3, h4, h5, qu, qw⟩
      · obtain ⟨us2, hu2, ru⟩ := ha T2 H2 l2
        obtain ⟨ws2, hw2, rw2⟩ := hb T2 H2 l2
        exact ⟨us2, ws2, hu2, hw2, by rw [← ru.length, ← rw2.length, ← hi, List.length_zip]; omega⟩
    · cases hf1
  · cases hf1
end
end L4

namespace L4
open PySem PySem.Spec PyProof.Rows L2
section
variable {X : Cx} {g : G} {T T' : Tk} {H : Hp} {m : M} {Q : VK} {pos p apos : Pos} {e o : Expr} {es : List Expr} {k n : Nat} {x c nm : Str}
/-! xs.pop(i) -/
def popAtL (ds ys : List D) : Option (D × List D) := match ys with
  | [.int i] => if -(2 ^ 63) ≤ i ∧ i < 2 ^ 63 then match seqIndex? i ds.length with
      | some k => match ds[k]? with
        | some y => some (y, ds.eraseIdx k)
        | none => none
      | none => none
    else none
  | _ => none
theorem RepL.erase {ds : List D} {vs : List V} (k : Nat) (r : RepL g T H ds vs) : RepL g T H (ds.eraseIdx k) (vs.eraseIdx k) := by
  rw [List.eraseIdx_eq_take_drop_succ, List.eraseIdx_eq_take_drop_succ]
  exact (r.take _).append (r.drop _)
theorem rfl_popAt : RfLm g rPopAt (fun _ => popAtL) := by
  intro T H m l xs ds ys vs d es hm hl rd ry hf Q k
  change popAtL ds ys = some (d, es) at hf
  unfold popAtL at hf
  split at hf
  · next i =>
    obtain ⟨⟨h1, h2⟩, hf⟩ := ite_some hf
    split at hf
    · next j hj =>
      split at hf
      · next y hy =>
        cases hf
        obtain ⟨v, rfl, q⟩ := ry.one
        cases q
        obtain ⟨w, ew, qw⟩ := rd.get hy
        exact ⟨l, xs, i, j, w, rfl, rfl, hl, h1, h2, by rw [← rd.length]; exact hj, ew, k _ _ (rd.erase j) qw⟩
      · cases hf
    · cases hf
  · cases hf
theorem de_popAt {fo : EF} {f : AF} (ho : DE X o fo) (ha : DA X [e] f) (hbase : attributeBase o "pop" X.env (eval o X.env) = eval o X.env := by rfl) (hline : (apos.endLine == pos.line) = true := by rfl) (hs : starEach [e] X.env = [(false, eval e X.env)] := by rfl)
    (hfew : ((backTo pos (starEach [e] X.env)).all (fun x => !x.1) && (backToKw pos (keywordEach [] X.env)).all (fun x => x.1.isSome) && decide ([e].length + ([] : List Keyword).length + (if ([] : List Keyword).isEmpty then 0 else 1) < 30)) = true := by rfl) :
    DE X (.Call (.Attribute o "pop" apos) [e] [] pos) (eLm0 (fun _ => popAtL) fo f) := de_lm PySem.F.slot_list_pop PySem.F.type_list_pop mt_popAt rfl_popAt ho ha hbase hfew hline hs rfl
end
end L4
namespace L4
open PySem PySem.Spec PyProof.Rows L2
/-! dicts of the top, told by a check of the written part -/
def atomB : D → Value → Bool
  | .bl b, .bool c => b == c
  | .int i, .int j _ => i == j
  | .str x, .str y _ => decide (x = y)
  | .non, .none => true
  | _, _ => false
def atomsB : List D → List Value → Bool
  | [], [] => true
  | d :: ds, u :: us => atomB d u && atomsB ds us
  | _, _ => false
def valB (K : PySem.W.Frag) (d : D) (u : Value) : Bool := match d, u with
  | .tup ds, .ref r => match K.lookup r with
    | some ⟨.type "tuple", _, .seq its _, _⟩ => decide (its.size ≤ sizeLine) && atomsB ds its.toList
    | _ => false
  | d, u => atomB d u
def tblB (K : PySem.W.Frag) (a : Addr) (tb : List (Str × D)) : Bool := tb.all fun q => match PySem.W.nsIn K a q.1 with
  | some (some u) => valB K q.2 u
  | _ => false
def nsOnly (K : PySem.W.Frag) (a : Addr) (names : List Str) : Bool := match K.lookup a with
  | some ⟨_, _, .dict es _, _⟩ => es.toList.all fun e => match e.key with
    | .str z _ => names.contains z
    | _ => false
  | _ => false
theorem atomB_ok {g : G} {d : D} {u : Value} (h : atomB d u = true) : ∃ v, RelV v u ∧ ∀ T H, Rep g T H d v := by
  unfold atomB at h
  split at h
  · exact ⟨.bl _, by rw [beq_iff_eq.mp h]; rfl, fun _ _ => .bl _⟩
  · exact ⟨.int _, ⟨_, by rw [beq_iff_eq.mp h]⟩, fun _ _ => .int _⟩
  · exact ⟨.str _, ⟨_, by rw [of_decide_eq_true h]⟩, fun _ _ => .str _⟩
  · exact ⟨.non, rfl, fun _ _ => .non⟩
  · cases h
theorem atomsB_ok {g : G} : ∀ {ds : List D} {us : List Value}, atomsB ds us = true → ∃ vs, Vals vs us ∧ ∀ T H, RepL g T H ds vs
  | [], [], _ => ⟨[], .nil, fun _ _ => .nil⟩
  | [], _ :: _, h => by cases h
  | _ :: _, [], h => by cases h
  | d :: ds, u :: us, h => by
    obtain ⟨h1, h2⟩ := and2 (show (atomB d u && atomsB ds us) = true from h)
    obtain ⟨v, r, q⟩ := atomB_ok (g := g) h1
    obtain ⟨vs, rs, qs⟩ := atomsB_ok (g := g) h2
    exact ⟨v :: vs, .cons r rs, fun T H => .cons (q T H) (qs T H)⟩
theorem valB_ok {g : G} {d : D} {u : Value} (h : valB g.K d u = true) : ∃ v, RelV v u ∧ ∀ T H, Rep g T H d v := by
  unfold valB at h
  split at h
  · next ds r =>
    split at h
    · next dd its n sl hl =>
      obtain ⟨h1, h2⟩ := and2 h
      obtain ⟨vs, rs, qs⟩ := atomsB_ok (g := g) h2
      exact ⟨.ref r, rfl, fun T H => .tup (.inr (.inr ⟨_, its, n, hl, rfl, rfl, of_decide_eq_true h1, rs⟩)) (qs T H)⟩
    · cases h
  · exact atomB_ok h
theorem tbl_of {X : Cx} {x : Str} {tb : List (Str × D)} {names : List Str} {K : PySem.W.Frag} {w : World} (hK : X.K = K) (hW : X.w = w) (h0 : ∃ es n, KDict K w (He.ga K x) es n) (h1 : tblB K (He.ga K x) tb = true) (h2 : nsOnly K (He.ga K x) names = true) (h3 : ∀ z ∈ names, (tb.lookup z).isSome = true := by decide +kernel) : Tbl X x tb := by
  subst hK hW
  refine ⟨h0, fun q hq => ?_, fun z hz => ?_⟩
  · have := List.all_eq_true.mp h1 q hq
    split at this
    · next u hu =>
      obtain ⟨v, r, s⟩ := valB_ok (g := gx X) this
      exact ⟨u, v, hu, r, s⟩
    · cases this
  · unfold nsOnly at h2
    unfold PySem.W.nsIn
    split at h2
    · next es n sl hl =>
      rw [hl]
      have key : ∀ e ∈ es.toList, ∃ y t, e.key = .str y t ∧ y ∈ names := fun e he => by
        have := List.all_eq_true.mp h2 e he
        split at this
        · next y t hy => exact ⟨y, t, hy, by simpa using this⟩
        · cases this
      have hn : z ∉ names := fun hz' => absurd (h3 z hz') (by rw [hz]; decide)
      have e1 : es.toList.find? (·.key.isStr z) = none := by
        rw [List.find?_eq_none]
        intro e he
        obtain ⟨y, t, ey, hy⟩ := key e he
        rw [ey]
        intro hh
        have : y = z := by simpa [Value.isStr] using hh
        exact hn (this ▸ hy)
      have e2 : es.toList.any (·.refKey) = false := by
        rw [List.any_eq_false]
        intro e he
        obtain ⟨y, t, ey, hy⟩ := key e he
        simp [DictEntry.refKey, ey]
      simp only [e1, e2]
      rfl
    · cases h2
end L4

namespace L4
open PySem PySem.Spec PyProof.Rows L2
section
variable {X : Cx} {g : G} {T T' : Tk} {H : Hp} {m : M} {Q : VK} {pos p apos : Pos} {e o : Expr} {es : List Expr} {k n : Nat} {x c nm : Str}
/-! a loop over a list that is tracked: as it stands at each turn -/
def forRef (f : GF) (b : SF) (n : Nat) : Nat → Nat → SF
  | 0, _ => fun _ _ => none
  | k + 1, i => fun ρ m => match (m[n]?).bind lstO with
    | none => none
    | some ds => match ds[i]? with
      | none => some (.nx ρ, m)
      | some x => bd (f x ρ m) fun ρ1 m1 => bd (b ρ1 m1) fun r m2 => match r with
        | .nx ρ2 => forRef f b n k (i + 1) ρ2 m2
        | .ct ρ2 => forRef f b n k (i + 1) ρ2 m2
        | .bk ρ2 => some (.nx ρ2, m2)
        | .rt d => some (.rt d, m2)
def sForA (fuel : Nat) (a : EF) (f : GF) (b : SF) : SF := fun ρ m => bd (a ρ m) fun x m1 => match x with
  | .ref n => forRef f b n fuel 0 ρ m1
  | x => match items x with
    | some xs => forGo f b xs ρ m1
    | none => none
theorem ds_forA {tg : Expr} {body : List Stmt} {fi : EF} {fg : GF} {fb : SF} (fuel : Nat) (hp : PassesOwn (model X.prog X.w) X.A X.env X.xe) (hc : X.calm = true) (hi : DE X e fi) (hg : DG X tg fg) (hb : DSs X body fb)
    (hs : ∀ x, foldedSetIterable e X.env x = pure x := by intro _; rfl) : DS X (.For tg e body [] pos) (sForA fuel fi fg fb) := by
  obtain ⟨ti, pi, ri⟩ := hi.ex; obtain ⟨tg', pg, rg⟩ := hg.ex; obtain ⟨tb, pb, rb⟩ := hb.ex
  obtain ⟨_, _, rI⟩ := (di_any (tg := tg) hi).ex
  obtain ⟨t2, p2, r2⟩ := (ds_for (pos := pos) hp hc (di_any (tg := tg) hi) hg hb hs).ex
  refine ⟨fun D σ H => tFor (iAny X.K ti) tg' tb D σ H ∨ t2 D σ H, ⟨fun pins s σ H D I h => ?_⟩, fun T σ H ρ m r m' hm hs hf D k => ?_⟩
  · rcases h with h | h
    · exact (ps_for hp hc (pi_any pi) pg pb hs).run pins s σ H D I h
    · exact p2.run pins s σ H D I h
  · obtain ⟨x, m1, e1, hf1⟩ := bd_some hf
    clear hf
    by_cases hx : ∃ n, x = .ref n
    · obtain ⟨n, rfl⟩ := hx
      left
      refine ri T σ H ρ m _ m1 hm hs e1 _ fun v T0 H0 l0 hm0 r0 => ?_
      cases r0 with
      | @ref _ a ea =>
        cases fuel with
        | zero => cases hf1
        | succ fuel =>
          change forRef fg fb n (fuel + 1) 0 ρ m1 = some (r, m') at hf1
          have hf1' := hf1
          unfold forRef at hf1
          split at hf1
          · cases hf1
          · next ds hds =>
            obtain ⟨ob, h1, h2⟩ := Option.bind_eq_some_iff.mp hds
            have hro := hm0.at_ _ _ _ ea h1
            cases hro with
            | @lst _ vs hH rl =>
              cases h2
              refine .inl ⟨a, rfl, ⟨_, SqL.of hH⟩, ?_⟩
              refine ⟨fun i j σ1 H1 => ∃ T1 ρ1 m1, Le T0 H0 T1 H1 ∧ RepH (gx X) T1 H1 m1 ∧ RepS (gx X) T1 H1 σ1 ρ1 ∧ forRef fg fb n j i ρ1 m1 = some (r, m'), ⟨fuel + 1, T0, ρ, m1, .refl, hm0, hs.le l0, hf1'⟩, ?_⟩
              rintro i j σ1 H1 ⟨T1, ρ1, m2, l1, hm1, hs1, hfj⟩
              cases j with
              | zero => cases hfj
              | succ j =>
                unfold forRef at hfj
                split at hfj
                · cases hfj
                · next ds1 hd1 =>
                  obtain ⟨ob1, h3, h4⟩ := Option.bind_eq_some_iff.mp hd1
                  have ea1 := l1.get ea
                  cases hm1.at_ _ _ _ ea1 h3 with
                  | @lst _ vs1 hH1 rl1 =>
                    cases h4
                    split at hfj
                    · next hn =>
                      cases hfj
                      left
                      refine ⟨⟨vs1, SqL.of hH1, ?_⟩, k σ1 T1 H1 (l0.trans l1) hm1 hs1⟩
                      rw [← rl1.length]
                      exact List.getElem?_eq_none_iff.mp hn
                    · next y hy =>
                      right
                      obtain ⟨w, ew, qw⟩ := rl1.get hy
                      refine ⟨⟨vs1, w, SqL.of hH1, ew⟩, _, fun _ _ q => q, fun z H2 ⟨eH, hz⟩ => ?_⟩
                      subst eH
                      have : z = w := by
                        have := hz vs1 (SqL.of hH1)
                        rw [ew] at this
                        exact (Option.some.inj this).symm
                      subst this
                      obtain ⟨ρ3, m3, e3, hf3⟩ := bd_some hfj
                      refine rg T1 σ1 _ ρ1 m2 y z ρ3 m3 hm1 hs1 qw e3 _ fun σ3 T3 H3 l3 hm3 hs3 => ?_
                      obtain ⟨fl, m4, e4, hf4⟩ := bd_some hf3
                      refine rb T3 σ3 H3 ρ3 m3 fl m4 hm3 hs3 e4 _ ?_
                      have l13 := l1.trans l3
                      cases fl with
                      | nx ρ4 => exact fun σ4 T4 H4 l4 hm4 hs4 => ⟨j, Nat.lt_succ_self _, T4, ρ4, m4, l13.trans l4, hm4, hs4, hf4⟩
                      | ct ρ4 => exact fun σ4 T4 H4 l4 hm4 hs4 => ⟨j, Nat.lt_succ_self _, T4, ρ4, m4, l13.trans l4, hm4, hs4, hf4⟩
                      | bk ρ4 => cases hf4; exact KS.le (l0.trans l13) k
                      | rt d => cases hf4; exact KV.le (l0.trans l13) k
                  | _ => cases h4
            | _ => cases h2
    · right
      refine r2 T σ H ρ m r m' hm hs ?_ D k
      unfold sFor iIt
      rw [e1]
      simp only [bd_go]
      cases x with
      | ref n => exact absurd ⟨n, rfl⟩ hx
      | tup ds => exact hf1
      | lst ds => exact hf1
      | scr ds => exact hf1
      | str ds => exact hf1
      | _ => cases hf1
end
end L4

namespace L4
open PySem PySem.Spec PyProof.Rows L2
/-! the end: a law's own call -/
theorem fs_of {K : PySem.W.Frag} {H : Hp} {a : Addr} {xs : List V} {T : Tk} (hT : T.ν = []) (hO : Only H) (h : SqL K H a xs) : FS K T H a xs := by
  rcases h with h | h
  · rcases hO a with z | ⟨ob, ys, z⟩
    · rcases h with h | ⟨o, h⟩ <;> rw [z] at h <;> cases h
    · rcases h with h | ⟨o, h⟩
      · rw [z] at h; cases h
      · exact .inl ⟨by rw [hT]; exact List.not_mem_nil, o, h⟩
  · exact .inr (.inr h)
theorem repL_ints {g : G} {T : Tk} {H : Hp} (ns : List Int) : RepL g T H (ns.map D.int) (ns.map V.int) := by
  induction ns with
  | nil => exact .nil
  | cons n ns ih => exact .cons (.int n) ih
theorem law_sp {P : Program} {w : World} {K : PySem.W.Frag} {F : List D → Option D} {H : Hp} {a : Addr} {ns : List Int} (hF : F [.scr (ns.map D.int)] = some (.bl true)) (hO : Only H) (h : SqL K H a (ns.map V.int)) :
    spP ⟨P, w, K⟩ 1 F [.ref a] H (fun v _ => v = .bl true) fun _ _ _ => False :=
  ⟨rfl, [], [.scr (ns.map D.int)], .bl true, fun a h => (List.not_mem_nil h).elim, .cons (.scr (fs_of rfl hO h) (repL_ints ns)) .nil, hF, fun v H' _ r => by cases r; rfl⟩
theorem law_df {P : Program} {w : World} {K : PySem.W.Frag} {mg : Str → Option Value} {base : Heap} {k : Nat} {ps N : List Str} {st : Stmt} {b : SF} {x q : Str} {f : Addr} {fd : FuncData} (F : Fun K x q st f fd) (S : FnScope N ps (defScope st))
    (hbody : ∀ (f : Addr) (cdv : Value) (A : Around) (outer : List Env) (s : Shared) (H : Hp) (E : XK), Gd k (cxOf CX0 P w K mg base N q (defScope st) f cdv A outer s H E).nox →
      DSs (cxOf CX0 P w K mg base N q (defScope st) f cdv A outer s H E).nox (defBody st) b) : FnG P w K mg base CX0 (k + 1) f fd ps (spP ⟨P, w, K⟩ ps.length (runP ps.length N.length b)) :=
  fnG_all F S (fun vs H Q E h => h.1) (fun r => spP_run r) (hbody f)
theorem FnG.to3 {P : Program} {w : World} {K : PySem.W.Frag} {mg : Str → Option Value} {base : Heap} {k : Nat} {f : Addr} {fd : FuncData} {ps : List Str} {sp : Sp} (F : FnG P w K mg base CX0 k f fd ps sp) : L3.FnG P w K mg base k f fd ps sp := ⟨F.len, F.run⟩
theorem walkL {l : PySem.W.OpenLaw} {n k : Nat} {q : Program} {loose : List Str} {XP : (Str → Option Value) → Heap → Prop} {YP : World → Heap → Prop} {d : DefRec} {x : Str} {FL : List D → Option D}
    (hn : l.most = some n) (hn2 : n ≤ sizeLine) (hdf : d.params.defaults = []) (hr : Room k callerA) (hF : ∀ ns : List Int, ns.length ≤ n → FL [.scr (ns.map D.int)] = some (.bl true))
    (F : ∀ (w : World) (mg : Str → Option Value) (fa : Addr) (h : Heap), YP w h → h.Ns mainGlobals mg → mg d.name = some (.ref fa) →
      ∃ (K : PySem.W.Frag) (fd : FuncData), K.In h ∧ (∀ (s : Shared) (u : Value), BindsTo s fd ⟨[u], []⟩ [(x, u)]) ∧ ∀ base : Heap, K.In base → base.Ns mainGlobals mg → FnG l.prog w K mg base CX0 k fa fd [x] (spP ⟨l.prog, w, K⟩ 1 FL)) :
    PySem.W.WalkO q loose XP YP l.row.toRowW d [] (fun f vs => PySem.call f vs) := by
  refine Att.attach_call hn hdf ?_
  intro w s₀ s₁ mg mb fa o pm cd doc a vs ns G Y ho hd hcd hmg hobj hints hlen hg
  obtain ⟨K, fd, KX, hb, hX⟩ := F w mg fa _ Y G.T.g hmg
  exact L3.callG (n := n) KX G.T.g G.T.b G.T.builtins G.T.nolimit hg hobj hints (Nat.le_trans hlen hn2) hr (fun base h1 h2 => (hX base h1 h2).to3) hb fun H hO hS => law_sp (hF ns hlen) hO hS
end L4

namespace L4
open PySem
/-! plain facts of the functions -/
theorem ixA_ref {m : M} {n : Nat} {ds : List D} {i : Int} (h : m[n]? = some (.lst ds)) : ixA m (.ref n) (.int i) = L2.atI ds i := by
  simp [ixA, dicOf, h, dicO, ixD, lstR, lstOf, lstO]
theorem setM_ref {m : M} {n : Nat} {ds : List D} {i : Int} {d : D} (h : m[n]? = some (.lst ds)) : setM m (.ref n) (.int i) d = (L2.ixN ds.length i).map fun j => m.set n (.lst (ds.set j d)) := by
  simp [setM, h, setO]
  cases L2.ixN ds.length i <;> rfl
theorem ixA_scr {m : M} {ds : List D} {i : Int} : ixA m (.scr ds) (.int i) = L2.atI ds i := by
  simp [ixA, dicOf, ixD, lstR]
theorem ixA_lst {m : M} {ds : List D} {i : Int} : ixA m (.lst ds) (.int i) = L2.atI ds i := by
  simp [ixA, dicOf, ixD, lstR, lstOf]
theorem ixA_tup {m : M} {ds : List D} {i : Int} : ixA m (.tup ds) (.int i) = L2.atI ds i := by
  simp [ixA, dicOf, ixD]
theorem lenD_scr {m : M} {ds : List D} : lenD m [.scr ds] = some (.int ds.length) := by simp [lenD, lstR]
theorem lenD_lst {m : M} {ds : List D} : lenD m [.lst ds] = some (.int ds.length) := by simp [lenD, lstR, lstOf]
theorem lenD_tup {m : M} {ds : List D} : lenD m [.tup ds] = some (.int ds.length) := by simp [lenD]
theorem lenD_ref {m : M} {n : Nat} {ds : List D} (h : m[n]? = some (.lst ds)) : lenD m [.ref n] = some (.int ds.length) := by simp [lenD, lstR, lstOf, h, lstO]
theorem atI_ints {ns : List Int} {k : Nat} (h : k < ns.length) : L2.atI (ns.map D.int) (k : Int) = some (.int ns[k]) := L2.atI_nat (by simp [h])
theorem at2 {m : M} {a b : Int} {c : Prop} [Decidable c] : (ixA m (.lst [.int a, .int b]) (.int (if c then 1 else 0))) = some (.int (if c then b else a)) := by
  rw [ixA_lst]
  by_cases h : c
  · rw [if_pos h, if_pos h]; rfl
  · rw [if_neg h, if_neg h]; rfl
theorem pow18 (m : M) : powD m (.int 10) (.int 18) = some (.int 1000000000000000000) := by
  have h : (match powD [] (.int 10) (.int 18) with | some (.int i) => decide (i = 1000000000000000000) | _ => false) = true := by decide +kernel
  have e : powD m (.int 10) (.int 18) = powD [] (.int 10) (.int 18) := rfl
  rw [e]
  revert h
  generalize powD [] (.int 10) (.int 18) = z
  intro h
  split at h
  · rw [of_decide_eq_true h]
  · cases h
theorem sz1 : (1 : Nat) ≤ sizeLine := by decide +kernel
theorem sz2 : (2 : Nat) ≤ sizeLine := by decide +kernel
theorem sz3 : (3 : Nat) ≤ sizeLine := by decide +kernel
/-- a loop by what holds at each turn -/
theorem forGo_inv {f : GF} {b : SF} (I : Nat → Ss → M → Prop) : ∀ (xs : List D) (i : Nat) (ρ : Ss) (m : M), I i ρ m →
    (∀ j x ρ m, xs[j]? = some x → I (i + j) ρ m → ∃ ρ1 m1, f x ρ m = some (ρ1, m1) ∧ ∃ r m2, b ρ1 m1 = some (r, m2) ∧ ∃ ρ2, (r = .nx ρ2 ∨ r = .ct ρ2) ∧ I (i + j + 1) ρ2 m2) →
    ∃ ρ' m', forGo f b xs ρ m = some (.nx ρ', m') ∧ I (i + xs.length) ρ' m'
  | [], i, ρ, m, h0, _ => ⟨ρ, m, rfl, h0⟩
  | x :: xs, i, ρ, m, h0, hs => by
    obtain ⟨ρ1, m1, e1, r, m2, e2, ρ2, hr, h2⟩ := hs 0 x ρ m rfl h0
    obtain ⟨ρ', m', e3, h3⟩ := forGo_inv I xs (i + 1) ρ2 m2 h2 fun j y ρ m hj hI => by
      have := hs (j + 1) y ρ m (by simpa using hj) (by rw [show i + (j + 1) = i + 1 + j by omega]; exact hI)
      rw [show i + (j + 1) + 1 = i + 1 + j + 1 by omega] at this
      exact this
    refine ⟨ρ', m', ?_, by rw [List.length_cons, show i + (xs.length + 1) = i + 1 + xs.length by omega]; exact h3⟩
    simp only [forGo, e1, bd_go, e2]
    rcases hr with rfl | rfl <;> exact e3
/-- .. over a tracked list that stays -/
theorem forRef_inv {f : GF} {b : SF} {n : Nat} {ds : List D} (I : Nat → Ss → M → Prop) (hI : ∀ i ρ m, I i ρ m → m[n]? = some (.lst ds)) : ∀ (k i : Nat) (ρ : Ss) (m : M), ds.length < i + k → i ≤ ds.length → I i ρ m →
    (∀ j x ρ m, ds[j]? = some x → I j ρ m → ∃ ρ1 m1, f x ρ m = some (ρ1, m1) ∧ ∃ r m2, b ρ1 m1 = some (r, m2) ∧ ∃ ρ2, (r = .nx ρ2 ∨ r = .ct ρ2) ∧ I (j + 1) ρ2 m2) →
    ∃ ρ' m', forRef f b n k i ρ m = some (.nx ρ', m') ∧ I ds.length ρ' m'
  | 0, i, ρ, m, hk, hi, _, _ => by omega
  | k + 1, i, ρ, m, hk, hi, h0, hs => by
    by_cases hlt : i < ds.length
    · obtain ⟨ρ1, m1, e1, r, m2, e2, ρ2, hr, h2⟩ := hs i ds[i] ρ m (List.getElem?_eq_getElem hlt) h0
      obtain ⟨ρ', m', e3, h3⟩ := forRef_inv I hI k (i + 1) ρ2 m2 (by omega) (by omega) h2 hs
      refine ⟨ρ', m', ?_, h3⟩
      simp only [forRef, hI i ρ m h0, Option.bind_some, lstO, List.getElem?_eq_getElem hlt, e1, bd_go, e2]
      rcases hr with rfl | rfl <;> exact e3
    · have e : i = ds.length := by omega
      subst e
      exact ⟨ρ, m, by simp [forRef, hI _ ρ m h0, lstO], h0⟩
end L4

/-! dicts that are written -/
namespace L4
open PySem PySem.Spec PyProof.Rows L2
section
variable {X : Cx} {g : G} {T T' : Tk} {H : Hp} {m : M} {Q : VK} {pos p apos : Pos} {e o : Expr} {es : List Expr} {k n : Nat} {x c nm : Str}
def eNewD : EF := fun _ m => some (.ref m.length, m ++ [.dic [] []])
theorem de_dict0 : DE X (.Dict [] [] pos) eNewD := by
  refine ⟨_, pe_dnewK, fun T σ H ρ m d m' hm hs hf Q k p hp => ?_⟩
  cases hf
  obtain ⟨l, hm1⟩ := hm.push (p := p) (u := .dK []) (o := .dic [] []) hp fun l => .dicF upd_same .nil .nil
  refine k _ _ _ l hm1 (.ref ?_)
  show (T.μ ++ [p])[m.length]? = some p
  rw [← hm.len, List.getElem?_append_right (Nat.le_refl _)]
  simp
/-- pairs, from the left -/
def pairsF : List (EF × EF) → Ss → M → Option (List (D × D) × M)
  | [], _, m => some ([], m)
  | (a, b) :: r, ρ, m => bd (a ρ m) fun x m1 => bd (b ρ m1) fun y m2 => bd (pairsF r ρ m2) fun ps m3 => some ((x, y) :: ps, m3)
def mergeD : List (D × D) → List D × List D → List D × List D
  | [], z => z
  | (x, y) :: ps, (ks, vs) => mergeD ps (dPutK ks x, dPutV ks vs x y)
def eDisp (nw : Bool) (ps : List (EF × EF)) : EF := fun ρ m => bd (pairsF ps ρ m) fun qs m1 =>
  if (qs.all fun q => isFlat q.1) && decide (qs.length ≤ 15) then some (bif nw then (.ref m1.length, m1 ++ [.dic (mergeD qs ([], [])).1 (mergeD qs ([], [])).2]) else (.dic (mergeD qs ([], [])).1 (mergeD qs ([], [])).2, m1)) else none
structure DPs (X : Cx) (pos : Pos) (keys : List (Option Expr)) (values : List Expr) (ps : List (EF × EF)) : Prop where
  ex : ∃ trs, PPs X pos keys values trs ∧ ∀ T σ H ρ m qs m', RepH (gx X) T H m → RepS (gx X) T H σ ρ → pairsF ps ρ m = some (qs, m') → ∀ Q : List (V × V) → Hp → Prop,
    (∀ vs T' H', Le T H T' H' → RepH (gx X) T' H' m' → RepL (gx X) T' H' (qs.map Prod.fst) (vs.map Prod.fst) → RepL (gx X) T' H' (qs.map Prod.snd) (vs.map Prod.snd) → Q vs H') → tPairs trs σ H Q
theorem dps_nil : DPs X pos [] [] [] := ⟨[], pps_nil, fun T σ H ρ m qs m' hm hs hf Q k => by cases hf; exact k [] T H .refl hm .nil .nil⟩
theorem dps_cons {a b : Expr} {ks : List (Option Expr)} {vs : List Expr} {fa fb : EF} {ps : List (EF × EF)} (ha : DE X a fa) (hb : DE X b fb) (hr : DPs X pos ks vs ps) : DPs X pos (some a :: ks) (b :: vs) ((fa, fb) :: ps) := by
  obtain ⟨ta, pa, ra⟩ := ha.ex; obtain ⟨tb, pb, rb⟩ := hb.ex; obtain ⟨tr, pr, rr⟩ := hr.ex
  refine ⟨_, pps_cons pa pb pr, fun T σ H ρ m qs m' hm hs hf Q k => ?_⟩
  obtain ⟨x, m1, e1, hf⟩ := bd_some hf
  obtain ⟨y, m2, e2, hf⟩ := bd_some hf
  obtain ⟨qs, m3, e3, hf⟩ := bd_some hf
  cases hf
  refine ra T σ H ρ m x m1 hm hs e1 _ fun v T1 H1 l1 hm1 r1 => ?_
  refine rb T1 σ H1 ρ m1 y m2 hm1 (hs.le l1) e2 _ fun u T2 H2 l2 hm2 r2 => ?_
  refine rr T2 σ H2 ρ m2 qs _ hm2 ((hs.le l1).le l2) e3 _ fun ws T3 H3 l3 hm3 r3 r4 => ?_
  exact k _ T3 H3 (l1.trans (l2.trans l3)) hm3 (.cons ((r1.le l2).le l3) r3) (.cons (r2.le l3) r4)
theorem flats {qs : List (D × D)} {vs : List (V × V)} (h : (qs.all fun q => isFlat q.1) = true) (r1 : RepL g T H (qs.map Prod.fst) (vs.map Prod.fst)) (r2 : RepL g T H (qs.map Prod.snd) (vs.map Prod.snd)) :
    ∃ kvs : List (Key × V), vs = kvs.map (fun kv => (kV kv.1, kv.2)) ∧ qs.map Prod.fst = kvs.map (fun kv => keyD kv.1) ∧ RepL g T H (qs.map Prod.snd) (kvs.map Prod.snd) := by
  induction qs generalizing vs with
  | nil => cases vs with
    | nil => exact ⟨[], rfl, rfl, .nil⟩
    | cons _ _ => cases r1
  | cons q qs ih => cases vs with
    | nil => cases r1
    | cons v vs =>
      obtain ⟨h1, h2⟩ := and2 h
      cases r1 with
      | cons a1 b1 =>
        cases r2 with
        | cons a2 b2 =>
          obtain ⟨kvs, rfl, e2, r3⟩ := ih h2 b1 b2
          obtain ⟨κ, hκ⟩ := flat_key h1
          rw [hκ] at a1
          have ev : v.1 = kV κ := by
            cases κ with
            | inl i => cases hv : v.1 <;> rw [hv] at a1 <;> cases a1; rfl
            | inr i => cases hv : v.1 <;> rw [hv] at a1 <;> cases a1; rfl
          refine ⟨(κ, v.2) :: kvs, ?_, ?_, .cons a2 r3⟩
          · rw [List.map_cons, ← ev]
          · rw [List.map_cons, List.map_cons, e2, hκ]
theorem merge_rep : ∀ {qs : List (D × D)} {kvs acc : List (Key × V)} {ks vs : List D}, qs.map Prod.fst = kvs.map (fun kv => keyD kv.1) → RepL g T H (qs.map Prod.snd) (kvs.map Prod.snd) → RepL g T H ks (acc.map fun p => kV p.1) → RepL g T H vs (acc.map Prod.snd) →
    RepL g T H (mergeD qs (ks, vs)).1 ((mergeK acc kvs).map fun p => kV p.1) ∧ RepL g T H (mergeD qs (ks, vs)).2 ((mergeK acc kvs).map Prod.snd)
  | [], [], _, _, _, _, _, r1, r2 => ⟨r1, r2⟩
  | [], _ :: _, _, _, _, e, _, _, _ => by cases e
  | _ :: _, [], _, _, _, e, _, _, _ => by cases e
  | (x, y) :: qs, (κ, v) :: kvs, acc, ks, vs, e, r, r1, r2 => by
    have e1 : x = keyD κ := (List.cons.inj e).1
    have e2 := (List.cons.inj e).2
    subst e1
    cases r with
    | cons ry rr =>
      obtain ⟨h1, h2⟩ := flat_put (κ := κ) r1 r2 ry
      exact merge_rep (qs := qs) (kvs := kvs) (acc := putK acc κ v) e2 rr h1 h2
theorem Made.newO {p : Addr} {u : HO} (hu : Mu u) (hm : RepH g T H m) (hp : H p = none) : RepH g (T.forb p) (upd H p u) m ∧ Le T H (T.forb p) (upd H p u) := by
  have l : Le T H (T.forb p) (upd H p u) := ⟨List.prefix_rfl, fun a v e _ => by rw [upd_ne (ne_of_none e hp)]; exact e, fun a ha n => by
    rcases List.mem_cons.mp ha with rfl | z
    · exact hp
    · exact absurd z n, fun a ha n => absurd ha n, fun a h => List.mem_cons_of_mem _ h⟩
  refine ⟨⟨hm.len, hm.nd, fun a ha => ?_, fun n a o h1 h2 => (hm.at_ n a o h1 h2).le l ?_⟩, l⟩
  · rcases List.mem_cons.mp ha with rfl | z
    · exact ⟨_, upd_same, hu⟩
    · obtain ⟨v, e, q⟩ := hm.has a z
      exact ⟨v, by rw [upd_ne (ne_of_none e hp)]; exact e, q⟩
  · obtain ⟨v, e, _⟩ := (hm.at_ n a o h1 h2).has
    rw [upd_ne (ne_of_none e hp)]
/-- a new object that stood forbidden is done: as it is, or tracked -/
theorem forb_fin {p : Addr} {u0 u : HO} {H1 : Hp} {T1 : Tk} {m1 : M} (hp : H p = none) (hm : RepH g T H m) (l : Le (T.forb p) (upd H p u0) T1 H1) (hm1 : RepH g T1 H1 m1) (hu : Mu u) :
    ∃ T2 : Tk, Le T H T2 (upd H1 p u) ∧ RepH g T2 (upd H1 p u) m1 ∧ p ∉ T2.ν ∧ (∀ ds vs, RepL g T1 H1 ds vs → RepL g T2 (upd H1 p u) ds vs) ∧
      Le T H (T2.push p) (upd H1 p u) ∧ (∀ ds vs, RepL g T1 H1 ds vs → RepL g (T2.push p) (upd H1 p u) ds vs) ∧ ∀ o, RepO g (T2.push p) (upd H1 p u) p o → RepH g (T2.push p) (upd H1 p u) (m1 ++ [o]) := by
  have np : p ∉ T.ν := hm.nope hp
  have start : Le T H T (upd H p u0) := ⟨List.prefix_rfl, fun a v e _ => by rw [upd_ne (ne_of_none e hp)]; exact e, fun a h n => absurd h n, fun a h n => absurd h n, fun a h => h⟩
  obtain ⟨T2, e1, e2, e3, l2⟩ := start.unforb hp np ⟨_, upd_same⟩ l
  have hpT1 : p ∈ T1.ν := (e3 p).mp (List.mem_cons_self ..)
  have npμ : p ∉ T1.μ := fun z => e2 (T2.sub p (by rw [e1]; exact z))
  have sub : ∀ a ∈ T2.ν, a ∈ T1.ν := fun a h => (e3 a).mp (List.mem_cons_of_mem _ h)
  have l3 : Le T H T2 (upd H1 p u) := ⟨l2.pre, fun a v e n => by rw [upd_ne (ne_of_none e hp)]; exact l2.keep a v e n, l2.new, l2.newμ, l2.up⟩
  have hm2 : RepH g T1 (upd H1 p u) m1 := ⟨hm1.len, hm1.nd, fun a ha => by
    by_cases z : a = p
    · rw [z]; exact ⟨_, upd_same, hu⟩
    · obtain ⟨v, e, q⟩ := hm1.has a ha
      exact ⟨v, by rw [upd_ne z]; exact e, q⟩, fun n a o h1 h2 => (hm1.at_ n a o h1 h2).upF hpT1 (by rintro rfl; exact npμ (List.mem_of_getElem? h1))⟩
  have sub3 : ∀ a ∈ (T2.push p).ν, a ∈ T1.ν := fun a h => (e3 a).mp (forb_push h)
  have pre3 : T1.μ <+: (T2.push p).μ := by
    show T1.μ <+: T2.μ ++ [p]
    rw [e1]; exact List.prefix_append _ _
  refine ⟨T2, l3, ⟨by rw [e1]; exact hm2.len, by rw [e1]; exact hm2.nd, fun a ha => hm2.has a (sub a ha), fun n a o h1 h2 => (hm2.at_ n a o (by rw [← e1]; exact h1) h2).wk e1 sub⟩, e2, fun ds vs r => (r.upF hpT1 _).wk e1 sub _, l3.pushed hp, fun ds vs r => (r.upF hpT1 _).ext pre3 sub3 _, fun o ho => ?_⟩
  exact trackIt hm2 hpT1 npμ (by show T2.μ ++ [p] = _; rw [e1]) sub3 ho
theorem push_ref {p : Addr} {T2 : Tk} {m1 : M} (hl : T2.μ.length = m1.length) : Rep g (T2.push p) H (.ref m1.length) (.ref p) := by
  refine .ref ?_
  show (T2.μ ++ [p])[m1.length]? = some p
  rw [← hl, List.getElem?_append_right (Nat.le_refl _)]
  simp
theorem de_disp {nw : Bool} {keys : List (Option Expr)} {values : List Expr} {ps : List (EF × EF)} (h : DPs X pos keys values ps) (hall : keys.all (·.isSome) = true := by rfl) (hl : keys.length = values.length := by rfl) (h0 : keys ≠ [] := by intro z; cases z)
    (h15 : keys.length ≤ 15 := by decide) : DE X (.Dict keys values pos) (eDisp nw ps) := by
  obtain ⟨trs, pp, rp⟩ := h.ex
  refine ⟨_, pe_disp pp hall hl h0 h15, fun T σ H ρ m d m' hm hs hf Q k p hp => ?_⟩
  obtain ⟨qs, m1, e1, hf⟩ := bd_some hf
  obtain ⟨hg, hf⟩ := ite_some hf
  have hf := Option.some.inj hf
  obtain ⟨hfl, hz⟩ := and2 hg
  have hz : qs.length ≤ 15 := of_decide_eq_true hz
  obtain ⟨hm0, l0⟩ := Made.newO (u := .dK []) trivial hm hp
  refine rp _ σ _ ρ m qs m1 hm0 (hs.le l0) e1 _ fun vs T1 H1 l1 hm1 r1 r2 => ?_
  obtain ⟨kvs, rfl, ek, r3⟩ := flats hfl r1 r2
  have hq : H1 p = some (.dK []) := l1.keep p _ upd_same (fun z => hm.nope hp (T.sub p z))
  refine ⟨hq, kvs, rfl, ?_, ?_⟩
  · have := congrArg List.length ek
    simp at this
    omega
  obtain ⟨T2, l2, hm2, np, rl, l3, rl3, hm3⟩ := forb_fin (u := .dK (mergeK [] kvs)) hp hm l1 hm1 trivial
  obtain ⟨a1, a2⟩ := merge_rep (ks := []) (vs := []) ek r3 (acc := []) .nil .nil
  cases nw with
  | false =>
    cases hf
    exact k _ _ _ l2 hm2 (.dicF np (.inl upd_same) (rl _ _ a1) (rl _ _ a2))
  | true =>
    cases hf
    exact k _ _ _ l3 (hm3 _ (.dicF upd_same (rl3 _ _ a1) (rl3 _ _ a2))) (push_ref hm2.len)
/-! {key: value} with a nested tuple as the key -/
def tDispN (X : Cx) (tk tv : TE) : TE := fun σ H Q => ∀ p, H p = none → tPairs [(tk, tv)] σ (upd H p (.dK [])) fun ps H2 => H2 p = some (.dK []) ∧ ∃ c k y, ps = [(.ref c, y)] ∧ NkAt X H2 c k ∧ Q (.ref p) (upd H2 p (dnO (gx X) p [(k, c, y)]))
theorem pe_dispN {k : Nat} {a b : Expr} {tk tv : TE} (gd : Gd k X) (hk : PE X a tk) (hv : PE X b tv) : PE X (.Dict [some a] [b] pos) (tDispN X tk tv) := by
  refine ⟨fun pins s σ H Q I q => ?_⟩
  have hn := I.hok.fresh (Nat.le_refl s.heap.objs.size)
  have I1 := I.laid (a := s.heap.objs.size) (o := .dK []) (h' := s.heap.push { cls := .type "dict", data := .dict #[] }) (t' := s.toks) (fun _ _ q => Heap.get?_push_of_some _ q) (Nat.le_refl _) (dk_empty s.heap I.big)
  have pp : PPs X pos [some a] [b] [(tk, tv)] := pps_cons hk hv pps_nil
  have hroom : (nestedKind X.prog X.w).room X.A := by
    have := gd.r.un
    show X.A.units + 8 < cLine
    omega
  rw [arm_eval_Dict, zip_pairTrees [some a] [b] X.env pos rfl rfl, dictDisplay_pairs (pairTrees [some a] [b] X.env pos) (by intro z; cases z) (by show (1 : Nat) < 17; decide)]
  refine wpAny_bind (wpAny_standAt (wpAny_bind ?_))
  refine wpAny_subDictH (knd := nestedKind X.prog X.w) (Q := fun d s' => wpAny (model X.prog X.w) X.A (pure (Value.ref d)) _ X.xe s') hroom (by show (1 : Nat) ≤ 15; decide) (thn (pp.run pins _ σ _ _ I1 (q _ hn)) fun ws s2 ⟨ps, H2, I2, rel, e, c, k, y, ep, nk, q2⟩ => ?_)
  subst ep
  cases rel with
  | @cons p1 q1 ps1 qs1 h1 t1 =>
    cases t1
    obtain ⟨w1, w2⟩ := q1
    obtain ⟨r1, r2⟩ := h1
    cases r1
    obtain ⟨z, hd, vs0, r0, dd⟩ := dk_of I2.hok e
    cases r0
    obtain ⟨ob, es, ep, g1, g2, g3, g4, g5, g6⟩ := dd
    have he : es.toList = [] := by
      cases hh : es.toList with
      | nil => rfl
      | cons a b => rw [hh] at g5; cases g5
    refine ⟨[(k, c, w2)], ⟨rfl, rfl, nk pins σ s2 I2, trivial⟩, ⟨ob, es, ep, g1, g2, g3, by rw [he]; rfl, fun x hx => (nomatch hx), by simp⟩, fun h' tk' dd' hs => wpAny_pure ⟨.ref s.heap.objs.size, _, ?_, rfl, q2⟩⟩
    obtain ⟨ob, es, ep, f1, f2, f3, f4, _, f6⟩ := dd'
    exact d_write I2 (by rw [e]; exact True.intro) hs ⟨ob, f1⟩ (dn_ok (by show (1 : Nat) ≤ _; exact sz1) hd (.cons ⟨rfl, rfl, r2⟩ .nil) f1 f2 f3 f4 f6)
def eDispN (nw : Bool) (a b : EF) : EF := fun ρ m => bd (a ρ m) fun x m1 => bd (b ρ m1) fun y m2 => match nkT x with
  | some _ => some (bif nw then (.ref m2.length, m2 ++ [.dic [x] [y]]) else (.dic [x] [y], m2))
  | none => none
theorem nk_ref {d : D} {κ : NestedKey} {v : V} (h : nkT d = some κ) (r : Rep g T H d v) : ∃ c, v = .ref c := by
  cases d with
  | tup ds => cases r with
    | tup f r => exact ⟨_, rfl⟩
  | _ => cases h
theorem de_dispN {nw : Bool} {k : Nat} {a b : Expr} {fa fb : EF} (gd : Gd k X) (ha : DE X a fa) (hb : DE X b fb) : DE X (.Dict [some a] [b] pos) (eDispN nw fa fb) := by
  obtain ⟨ta, pa, ra⟩ := ha.ex; obtain ⟨tb, pb, rb⟩ := hb.ex
  refine ⟨_, pe_dispN gd pa pb, fun T σ H ρ m d m' hm hs hf Q k p hp => ?_⟩
  obtain ⟨x, m1, e1, hf⟩ := bd_some hf
  obtain ⟨y, m2, e2, hf⟩ := bd_some hf
  obtain ⟨hm0, l0⟩ := Made.newO (u := .dK []) trivial hm hp
  refine ra _ σ _ ρ m x m1 hm0 (hs.le l0) e1 _ fun v T1 H1 l1 hm1 r1 => ?_
  refine rb _ σ _ ρ m1 y m2 hm1 ((hs.le l0).le l1) e2 _ fun u T2 H2 l2 hm2 r2 => ?_
  have r1 := r1.le l2
  split at hf
  · next κ hκ =>
    have hf := Option.some.inj hf
    obtain ⟨c, rfl⟩ := nk_ref hκ r1
    have l12 := l1.trans l2
    have hq : H2 p = some (.dK []) := l12.keep p _ upd_same (fun z => hm.nope hp (T.sub p z))
    refine ⟨hq, c, κ, u, rfl, nkAt hκ r1, ?_⟩
    obtain ⟨T3, l3, hm3, np, rl, l4, rl4, hm4⟩ := forb_fin (u := dnO (gx X) p [(κ, c, u)]) hp hm l12 hm2 trivial
    have a1 : RepL (gx X) T2 H2 [x] ([(κ, c, u)].map fun p => .ref p.2.1) := .cons r1 .nil
    have a2 : RepL (gx X) T2 H2 [y] ([(κ, c, u)].map fun p => p.2.2) := .cons r2 .nil
    have ek : [x].map nkT = [(κ, c, u)].map (fun p => some p.1) ∧ [(κ, c, u)] ≠ [] := ⟨by simp [hκ], by intro z; cases z⟩
    cases nw with
    | false =>
      cases hf
      exact k _ _ _ l3 hm3 (.dicN np (.inl upd_same) ek (rl _ _ a1) (rl _ _ a2))
    | true =>
      cases hf
      exact k _ _ _ l4 (hm4 _ (.dicN upd_same ek (rl4 _ _ a1) (rl4 _ _ a2))) (push_ref hm3.len)
  · cases hf
end
end L4

/-! targets with a star; tuples of any targets -/
namespace L4
open PySem PySem.Spec PyProof.Rows PySem.W L2
section
variable {X : Cx} {g : G} {T T' : Tk} {H : Hp} {m : M} {Q : VK} {pos p apos : Pos} {e o : Expr} {es : List Expr} {k n : Nat} {x c nm : Str}
/-- first, *rest of a list -/
theorem unpack_star {prog : Program} {w : World} {A : Around} {E : Value → Shared → Prop} {s : Shared} {l : Addr} {items : Array Value} {v0 : Value} {vr : List Value} {R : List Value → Shared → Prop} (hh : A.handled = none) (hl : s.heap.IsList l items) (hi : items.toList = v0 :: vr) (hz : items.size ≤ sizeLine)
    (h : ∀ (h' : Heap) (tk : Nat), (∀ b q, s.heap.get? b = some q → h'.get? b = some q) → R [v0, .ref h'.objs.size] { s with heap := h'.push { cls := .type "list", data := .seq vr.toArray }, toks := tk }) :
    wpAny (model prog w) A (unpackItems (.ref l) 2 (some 1)) R E s := by
  have hlt : l ≠ s.heap.objs.size := by obtain ⟨q, hq, _⟩ := hl; exact Nat.ne_of_lt (Heap.lt_size hq)
  have hs1 : items.size = vr.length + 1 := by rw [← Array.length_toList, hi]; rfl
  unfold unpackItems
  refine wpAny_bind ?_
  unfold notIterableAtAll
  refine wpAny_bind (wpAny_specialOf hl.typeIs slot_list_iter.lookup (wpAny_pure ?_))
  simp only [Bool.false_eq_true, if_false]
  refine wpAny_bind (wpAny_holding (wpAny_pyIter_list hl ?_))
  refine wpAny_bind (wpAny_holding (kun_draw hlt 1 0 _ _ ⟨_, Heap.get?_push_size _ rfl, rfl, rfl⟩ (hl.push _) (by omega) fun h1 it1 sm1 => ?_))
  have hl1 : h1.IsList l items := (hl.push _).extBut sm1.extBut hlt
  rw [Nat.zero_add] at it1
  have b1 : s.heap.objs.size < h1.objs.size := by obtain ⟨q, hq, _⟩ := id it1; exact Heap.lt_size hq
  have b2 : l < h1.objs.size := by obtain ⟨q, hq, _⟩ := id hl1; exact Heap.lt_size hq
  rw [List.drop_zero, hi]
  rw [if_neg (show ¬ ((List.take 1 (v0 :: vr)).length < 1) by simp)]
  refine wpAny_bind (wpAny_holding (kun_collect (s := { s with heap := h1 }) (T := "list_iterator") (.inr (.inr (.inl rfl))) (Walks.list (A := A.in1) hh s.heap.objs.size l hlt items) (fun j u st => st.1.typeIs) (k := 1) (by omega) ⟨it1, hl1⟩ b1 b2 (fun h2 tk hk => ?_) hz))
  rw [hi]
  have ed : List.drop 1 (v0 :: vr) = vr := rfl
  have et : List.take 1 (v0 :: vr) = [v0] := rfl
  rw [ed, et]
  show wpAny _ _ (if vr.length < 0 then _ else _) _ _ _
  rw [if_neg (Nat.not_lt_zero _)]
  have e1 : vr.take (vr.length - (2 - 1 - 1)) = vr := by simp
  have e2 : vr.drop (vr.length - (2 - 1 - 1)) = [] := by simp
  show wpAny _ _ (newList (vr.take (vr.length - (2 - 1 - 1))) >>= fun d => pure ([v0] ++ [d] ++ vr.drop (vr.length - (2 - 1 - 1)))) _ _ _
  rw [e1, e2]
  have keep : ∀ b q, s.heap.get? b = some q → h2.get? b = some q := fun b q hb => hk b q (Nat.ne_of_lt (Heap.lt_size hb)) (sm1.extBut b q (Nat.ne_of_lt (Heap.lt_size hb)) (Heap.get?_push_of_some _ hb))
  refine wpAny_bind (wpAny_newList ?_ (by omega))
  exact wpAny_pure (h _ _ keep)
/-- first, *rest = a list -/
def gStarL (K : PySem.W.Frag) (t : TGs) : TG := fun v σ H Q => ∃ a x xs, v = .ref a ∧ SqL K H a (x :: xs) ∧ ∀ q, H q = none → t [x, .ref q] σ (upd H q (.lst xs)) Q
theorem pg_starL {a b : Expr} {pb : Pos} {k : Nat} {t : TGs} (hc : X.calm = true) (h : PGs X [a, b] t) (hn : assignEach [a, .Starred b pb] X.env = [(false, assign a X.env), (true, assign b X.env)] := by rfl)
    (hn2 : assignEach [a, b] X.env = [(false, assign a X.env), (false, assign b X.env)] := by rfl) : PG X (.Tuple [a, .Starred b pb] k pos) (gStarL X.K t) := by
  refine ⟨fun pins s σ H v u Q I r hw => ?_⟩
  obtain ⟨l, x, xs, e1, hq, hw⟩ := hw
  subst e1
  cases r
  obtain ⟨its, rv, ht, hz⟩ := I.list hq
  cases rv with
  | @cons v0 w0 vs ws r0 rr =>
    rw [assign_Tuple]
    refine wpAny_bind (wpAny_standAt ?_)
    unfold unpack
    rw [hn]
    have hsz : (w0 :: ws).toArray.size ≤ sizeLine := by
      have := rr.length
      simp at hz ⊢
      omega
    refine wpAny_bind (wpAny_holding (unpack_star (I.ok.hd hc) ht.isList rfl hsz fun h' tk hk => ?_))
    have I1 : Inv X pins σ H { s with heap := h', toks := tk } := I.kept hk
    have I2 := I1.laid (a := h'.objs.size) (o := .lst xs) (h' := h'.push { cls := .type "list", data := .seq ws.toArray }) (t' := tk) (fun _ _ q => Heap.get?_push_of_some _ q) (Nat.le_refl _) ⟨by simp at hz; omega, ws, 0, rr, Heap.get?_push_size _ rfl⟩
    have hr := h.run pins _ σ _ [x, .ref h'.objs.size] [w0, .ref h'.objs.size] Q I2 (.cons r0 (.cons rfl .nil)) (hw _ (I1.hok.fresh (Nat.le_refl _)))
    rw [hn2] at hr
    exact hr
def gStar (i j : Nat) : GF := fun d ρ m => match lstR m d with
  | some (x :: xs) => some ((ρ.set i (some x)).set j (some (.lst xs)), m)
  | _ => none
theorem dg_star {i j : Nat} {y : Str} {px py pb : Pos} {kk : Nat} (hc : X.calm = true) (hN : X.N.Nodup) (hi : X.N[i]? = some x) (hj : X.N[j]? = some y) (hx : Loc X.env.scope x) (hy : Loc X.env.scope y) (hn : assignEach [.Name x px, .Starred (.Name y py) pb] X.env = [(false, assign (.Name x px) X.env), (true, assign (.Name y py) X.env)] := by rfl)
    (hf : X.fn x = true ∨ X.env.scope.names.lookup x = some .local := by first | exact .inl rfl | exact .inr rfl | assumption) (hf2 : X.fn y = true ∨ X.env.scope.names.lookup y = some .local := by first | exact .inl rfl | exact .inr rfl | assumption) :
    DG X (.Tuple [.Name x px, .Starred (.Name y py) pb] kk pos) (gStar i j) := by
  refine ⟨_, pg_starL hc (pgs_cons (pg_name hN hi hx hf) (pgs_cons (pg_name hN hj hy hf2) pgs_nil)) hn, fun T σ H ρ m d v ρ' m' hm hs r hf Q k => ?_⟩
  unfold gStar at hf
  split at hf
  · next x0 xs hl =>
    cases hf
    obtain ⟨a, vs, rfl, hq, rl⟩ := lstR_rep hm r hl
    cases rl with
    | @cons _ v0 _ vr r0 rr =>
      refine ⟨a, v0, vr, rfl, hq, fun q hq => ?_⟩
      obtain ⟨l, hm1⟩ := hm.fresh (p := q) (u := .lst vr) hq
      refine ⟨_, _, rfl, ⟨_, _, rfl, ⟨rfl, ?_⟩⟩⟩
      exact k _ T _ l hm1 (((hs.le l).set (r0.le l)).set (.lst ⟨hm.nope hq, upd_same⟩ (rr.le l)))
  · cases hf
end
end L4

/-! tuples of any targets; walks over what may change meanwhile -/
namespace L4
open PySem PySem.Spec PyProof.Rows PySem.W L2
section
variable {X : Cx} {g : G} {T T' : Tk} {H : Hp} {m : M} {Q : VK} {pos p apos : Pos} {e o : Expr} {es : List Expr} {k n : Nat} {x c nm : Str}
def seqG : List GF → List D → Ss → M → Option (Ss × M)
  | [], [], ρ, m => some (ρ, m)
  | f :: fs, d :: ds, ρ, m => bd (f d ρ m) fun ρ1 m1 => seqG fs ds ρ1 m1
  | _, _, _, _ => none
structure DGm (X : Cx) (es : List Expr) (fs : List GF) : Prop where
  ex : ∃ t, PGs X es t ∧ ∀ T σ H ρ m ds vs ρ' m', RepH (gx X) T H m → RepS (gx X) T H σ ρ → RepL (gx X) T H ds vs → seqG fs ds ρ m = some (ρ', m') → ∀ Q, KS (gx X) T H m' ρ' Q → t vs σ H Q
theorem dgm_nil : DGm X [] [] := ⟨_, pgs_nil, fun T σ H ρ m ds vs ρ' m' hm hs r hf Q k => by
  cases ds with
  | nil => cases r; cases hf; exact ⟨rfl, k σ T H .refl hm hs⟩
  | cons _ _ => cases hf⟩
theorem dgm_cons {f : GF} {fs : List GF} (h1 : DG X e f) (h2 : DGm X es fs) (hs : (assignEach (e :: es) X.env).map (·.2) = assign e X.env :: (assignEach es X.env).map (·.2) := by rfl) : DGm X (e :: es) (f :: fs) := by
  obtain ⟨t1, p1, r1⟩ := h1.ex; obtain ⟨t2, p2, r2⟩ := h2.ex
  refine ⟨_, pgs_cons p1 p2 hs, fun T σ H ρ m ds vs ρ' m' hm hs r hf Q k => ?_⟩
  cases ds with
  | nil => cases hf
  | cons d ds =>
    cases r with
    | @cons _ v _ vs rv rr =>
      obtain ⟨ρ1, m1, e1, hf⟩ := bd_some hf
      refine ⟨v, vs, rfl, r1 T σ H ρ m d v ρ1 m1 hm hs rv e1 _ fun σ1 T1 H1 l1 hm1 hs1 => ?_⟩
      exact r2 T1 σ1 H1 ρ1 m1 ds vs ρ' m' hm1 hs1 (rr.le l1) hf Q (k.le l1)
theorem seqG_len : ∀ {fs : List GF} {ds : List D} {ρ : Ss} {m : M} {r : Ss × M}, seqG fs ds ρ m = some r → ds.length = fs.length
  | [], [], _, _, _, _ => rfl
  | [], _ :: _, _, _, _, h => by cases h
  | _ :: _, [], _, _, _, h => by cases h
  | f :: fs, d :: ds, _, _, (r, m'), h => by
    obtain ⟨ρ1, m1, _, h⟩ := bd_some h
    rw [List.length_cons, List.length_cons, seqG_len h]
def gTupG (fs : List GF) : GF := fun d ρ m => match d with
  | .tup ds => seqG fs ds ρ m
  | _ => none
theorem dg_tupG {kk : Nat} {fs : List GF} (hc : X.calm = true) (h : DGm X es fs) (hn : (assignEach es X.env).length = fs.length := by rfl) (hst : (assignEach es X.env).findIdx? (·.1) = none := by rfl) : DG X (.Tuple es kk pos) (gTupG fs) := by
  obtain ⟨t, pt, rt⟩ := h.ex
  refine ⟨_, pg_tup hc pt hn hst, fun T σ H ρ m d v ρ' m' hm hs r hf Q k => ?_⟩
  cases r with
  | @tup a vs ds f q => exact ⟨a, vs, rfl, f.sq, by rw [← q.length]; exact seqG_len hf, rt T σ H ρ m _ vs ρ' m' hm hs q hf Q k⟩
  | _ => cases hf
/-! walks -/
abbrev NX := M → Nat → Option (Option D)
abbrev LF := Ss → M → Option (NX × M)
def ItLv (g : G) (T : Tk) (H : Hp) (J : It) (nx : NX) : Prop := ∀ T1 H1, Le T H T1 H1 → ∀ m1, RepH g T1 H1 m1 → ∀ i : Nat,
  (∀ d, nx m1 i = some (some d) → J.go i H1 ∧ ∀ x H2, J.yld i H1 x H2 → ∃ T2, Le T1 H1 T2 H2 ∧ RepH g T2 H2 m1 ∧ Rep g T2 H2 d x) ∧ (nx m1 i = some none → J.stop i H1)
def RfL (g : G) (wi : TI) (f : LF) : Prop := ∀ T σ H ρ m nx m', RepH g T H m → RepS g T H σ ρ → f ρ m = some (nx, m') → ∀ R : It → Hp → Prop, (∀ J T' H', Le T H T' H' → RepH g T' H' m' → ItLv g T' H' J nx → R J H') → wi σ H R
structure DL (X : Cx) (tg iter : Expr) (f : LF) : Prop where
  ex : ∃ wi, PI X tg iter wi ∧ RfL (gx X) wi f
theorem ItLv.le {T1 : Tk} {H1 : Hp} {J : It} {nx : NX} (l : Le T H T1 H1) (h : ItLv g T H J nx) : ItLv g T1 H1 J nx := fun T2 H2 l2 => h T2 H2 (l.trans l2)
def forLv (f : GF) (b : SF) (nx : NX) : Nat → Nat → SF
  | 0, _ => fun _ _ => none
  | k + 1, i => fun ρ m => match nx m i with
    | none => none
    | some none => some (.nx ρ, m)
    | some (some x) => bd (f x ρ m) fun ρ1 m1 => bd (b ρ1 m1) fun r m2 => match r with
        | .nx ρ2 => forLv f b nx k (i + 1) ρ2 m2
        | .ct ρ2 => forLv f b nx k (i + 1) ρ2 m2
        | .bk ρ2 => some (.nx ρ2, m2)
        | .rt d => some (.rt d, m2)
def sForV (fuel : Nat) (it : LF) (f : GF) (b : SF) : SF := fun ρ m => bd (it ρ m) fun nx m1 => forLv f b nx fuel 0 ρ m1
theorem ds_forV {tg iter : Expr} {body : List Stmt} {fi : LF} {fg : GF} {fb : SF} (fuel : Nat) (hp : PassesOwn (model X.prog X.w) X.A X.env X.xe) (hc : X.calm = true) (hi : DL X tg iter fi) (hg : DG X tg fg) (hb : DSs X body fb)
    (hs : ∀ x, foldedSetIterable iter X.env x = pure x := by intro _; rfl) : DS X (.For tg iter body [] pos) (sForV fuel fi fg fb) := by
  obtain ⟨ti, pi, ri⟩ := hi.ex; obtain ⟨tg', pg, rg⟩ := hg.ex; obtain ⟨tb, pb, rb⟩ := hb.ex
  refine ⟨_, ps_for hp hc pi pg pb hs, fun T σ H ρ m r m' hm hs hf D k => ?_⟩
  obtain ⟨nx, m1, e1, hf⟩ := bd_some hf
  refine ri T σ H ρ m nx m1 hm hs e1 _ fun J T0 H0 l0 hm0 ok => ?_
  refine ⟨fun i j σ1 H1 => ∃ T1 ρ1 m1, Le T0 H0 T1 H1 ∧ RepH (gx X) T1 H1 m1 ∧ RepS (gx X) T1 H1 σ1 ρ1 ∧ forLv fg fb nx j i ρ1 m1 = some (r, m'), ⟨fuel, T0, ρ, m1, .refl, hm0, hs.le l0, hf⟩, ?_⟩
  rintro i j σ1 H1 ⟨T1, ρ1, m2, l1, hm1, hs1, hfj⟩
  cases j with
  | zero => cases hfj
  | succ j =>
    obtain ⟨okG, okS⟩ := ok T1 H1 l1 m2 hm1 i
    unfold forLv at hfj
    split at hfj
    · cases hfj
    · next hn =>
      cases hfj
      left
      exact ⟨okS hn, k σ1 T1 H1 (l0.trans l1) hm1 hs1⟩
    · next y hy =>
      right
      obtain ⟨go, yl⟩ := okG y hy
      refine ⟨go, _, fun _ _ q => q, fun z H2 y2 => ?_⟩
      obtain ⟨T2, l2, hm2, r2⟩ := yl z H2 y2
      obtain ⟨ρ3, m3, e3, hf3⟩ := bd_some hfj
      refine rg T2 σ1 _ ρ1 m2 y z ρ3 m3 hm2 (hs1.le l2) r2 e3 _ fun σ3 T3 H3 l3 hm3 hs3 => ?_
      obtain ⟨fl, m4, e4, hf4⟩ := bd_some hf3
      refine rb T3 σ3 H3 ρ3 m3 fl m4 hm3 hs3 e4 _ ?_
      have l13 := l1.trans (l2.trans l3)
      cases fl with
      | nx ρ4 => exact fun σ4 T4 H4 l4 hm4 hs4 => ⟨j, Nat.lt_succ_self _, T4, ρ4, m4, l13.trans l4, hm4, hs4, hf4⟩
      | ct ρ4 => exact fun σ4 T4 H4 l4 hm4 hs4 => ⟨j, Nat.lt_succ_self _, T4, ρ4, m4, l13.trans l4, hm4, hs4, hf4⟩
      | bk ρ4 => cases hf4; exact KS.le (l0.trans l13) k
      | rt d => cases hf4; exact KV.le (l0.trans l13) k
/-! comprehensions -/
def compLv (t : Tgt) (c : TF) (e : EF) (nx : NX) (ρ : Ss) : Nat → Nat → M → Option (List D × M)
  | 0, _, _ => none
  | k + 1, i, m => match nx m i with
    | none => none
    | some none => some ([], m)
    | some (some x) => match t.un x with
      | some ds => bd (c (setMany ρ t.is ds) m) fun b m1 => if b then bd (e (setMany ρ t.is ds) m1) fun y m2 => bd (compLv t c e nx ρ k (i + 1) m2) fun ys m3 => some (y :: ys, m3) else compLv t c e nx ρ k (i + 1) m1
      | none => none
def eLcV (nw : Bool) (it : LF) (t : Tgt) (c : TF) (e : EF) : EF := fun ρ m => bd (it ρ m) fun nx m1 => bd (compLv t c e nx ρ 1000001 0 m1) fun ys m2 => some (bif nw then (.ref m2.length, m2 ++ [.lst ys]) else (.lst ys, m2))
theorem rf_lcV {wi : TI} {it : LF} {t : Tgt} {tg : TG} {tt : TT} {te : TE} {c : TF} {e : EF} (hi : RfL g wi it) (hg : ∀ T σ H d v ds, Rep g T H d v → t.un d = some ds → ∀ Q, (∀ vs, RepL g T H ds vs → Q (setMany σ t.is vs) H) → tg v σ H Q)
    (hc : RfT g tt c) (he : RfE g te e) {is : List Nat} (his : is = t.is) {nw : Bool} : RfE g (tLc wi tg tt te is) (eLcV nw it t c e) := by
  subst his
  intro T σ H ρ m d m' hm hs hf Q k
  obtain ⟨nx, m1, e1, hf⟩ := bd_some hf
  obtain ⟨ys, mz, e2, hf⟩ := bd_some hf
  have hf := Option.some.inj hf
  refine hi T σ H ρ m nx m1 hm hs e1 _ fun J T0 H0 l0 hm0 ok p hp => ?_
  have hs0 := hs.le l0
  obtain ⟨md, lf⟩ := Made.new hm0 hp
  have start : Le T0 H0 T0 (upd H0 p (.lst [])) := ⟨List.prefix_rfl, fun a u e _ => by rw [upd_ne (ne_of_none e hp)]; exact e, fun a h n => absurd h n, fun a h n => absurd h n, fun a h => h⟩
  refine ⟨fun i j H1 => i + j = 1000001 ∧ ∃ T1 m1 ds rest, Le T0 H0 T1 H1 ∧ Made g T1 H1 m1 p ds ∧ ds.length ≤ i ∧ RepS g (T1.forb p) H1 σ ρ ∧ compLv t c e nx ρ j i m1 = some (rest, mz) ∧ ys = ds ++ rest, ⟨1000001, by omega, T0, m1, [], ys, start, md, Nat.le_refl _, hs0.le lf, e2, rfl⟩, ?_⟩
  rintro i j H1 ⟨hij, T1, m1', ds, rest, l1, md1, hdl, hs1, hf1, hy⟩
  obtain ⟨vs1, hv1, rl1⟩ := md1.at_
  have okT : ItLv g (T1.forb p) H1 J nx := fun T2 H2 l2 mm hmm => ok (⟨T2.μ, T2.ν, T2.sub⟩) H2 (by
    refine ⟨l1.pre.trans l2.pre, fun a u h n => l2.keep a u (l1.keep a u h n) fun z => ?_, fun a ha n => ?_, fun a ha n => ?_, fun a h => l2.up a (List.mem_cons_of_mem _ (l1.up a h))⟩
    · rw [l1.newμ a z n] at h; cases h
    · cases e : H0 a with
      | none => rfl
      | some u =>
        have n1 : a ∉ (T1.forb p).ν := fun z => by
          rcases List.mem_cons.mp z with rfl | z
          · rw [hp] at e; cases e
          · exact l1.out e n z
        have := l2.new a ha n1
        rw [l1.keep a u e (Tk.out n)] at this
        cases this
    · cases e : H0 a with
      | none => rfl
      | some u =>
        have n1 : a ∉ T1.μ := fun z => by rw [l1.newμ a z n] at e; cases e
        have := l2.newμ a ha n1
        rw [l1.keep a u e n] at this
        cases this) mm hmm
  obtain ⟨okG, okS⟩ := okT (T1.forb p) H1 .refl m1' md1.hm i
  cases j with
  | zero => cases hf1
  | succ j =>
    unfold compLv at hf1
    split at hf1
    · cases hf1
    · next hn =>
      left
      cases hf1
      rw [List.append_nil] at hy
      subst hy
      refine ⟨okS hn, ?_⟩
      cases nw with
      | false =>
        cases hf
        obtain ⟨hmd, rd⟩ := md1.done l1
        exact k _ T1 H1 (l0.trans l1) hmd rd
      | true =>
        cases hf
        obtain ⟨l3, hmd, rd⟩ := md1.track l1 hp
        exact k _ _ H1 (l0.trans l3) hmd rd
    · next y0 hy0 =>
      right
      obtain ⟨go, yl⟩ := okG y0 hy0
      refine ⟨go, _, fun _ q => q, fun x H2 y2 => ?_⟩
      obtain ⟨T2, l2, hm2, r2⟩ := yl x H2 y2
      split at hf1
      · next es hes =>
        obtain ⟨b, m3, e3, hf3⟩ := bd_some hf1
        refine hg T2 (wipe σ t.is) H2 y0 x es r2 hes _ fun vs rv => ⟨?_, ?_⟩
        · rw [wipe_many t.is vs _ fun u hu => hu, wipe_wipe t.is fun u hu => hu]
        · have hs2 : RepS g T2 H2 (setMany (wipe σ t.is) t.is vs) (setMany ρ t.is es) := many_wiped (hs1.le l2) rv (Tgt.un_len hes)
          refine hc T2 _ H2 _ m1' b m3 hm2 hs2 e3 _ fun T3 H3 l3 hm3 => ?_
          cases b with
          | false =>
            obtain ⟨T4, l4, md4, e4, e5⟩ := md1.step l1 hp (l2.trans l3) hm3
            exact ⟨j, Nat.lt_succ_self _, by omega, T4, m3, ds, rest, l4, md4, by omega, ⟨hs1.len, fun q d hq => by
              obtain ⟨v, h1, h2⟩ := (hs1.le (l2.trans l3)).at_ q d hq
              exact ⟨v, h1, Rep.wk (T' := T4.forb p) e4 (fun a h => (e5 a).mp h) _ h2⟩⟩, hf3, hy⟩
          | true =>
            obtain ⟨y, m4, e6, hf4⟩ := bd_some hf3
            obtain ⟨ys', m5, e7, hf5⟩ := bd_some hf4
            cases hf5
            refine he T3 _ H3 _ m3 y m4 hm3 (hs2.le l3) e6 _ fun v T4 H4 l4 hm4 r4 => ?_
            obtain ⟨T5, l5, md5, e8, e9⟩ := md1.step l1 hp (l2.trans (l3.trans l4)) hm4
            obtain ⟨vs5, hv5, _⟩ := md5.at_
            have r5 : Rep g (T5.forb p) H4 y v := Rep.wk (T' := T5.forb p) e8 (fun a h => (e9 a).mp h) _ r4
            obtain ⟨md6, l6⟩ := md5.app l5 hp r5 hv5
            have hl5 : vs5.length = ds.length := by
              obtain ⟨w, hw, q⟩ := md5.at_
              rw [hv5] at hw
              cases hw
              exact q.length.symm
            refine ⟨vs5, hv5, ?_, j, Nat.lt_succ_self _, by omega, T5, m4, ds ++ [y], ys', l6, md6, by simp; omega, ⟨hs1.len, fun q d hq => ?_⟩, e7, by rw [hy]; simp⟩
            · rw [hl5, sizeLine_eq]; omega
            · obtain ⟨w, h1, h2⟩ := (hs1.le (l2.trans (l3.trans l4))).at_ q d hq
              exact ⟨w, h1, Rep.upF (List.mem_cons_self ..) _ (Rep.wk (T' := T5.forb p) e8 (fun a h => (e9 a).mp h) _ h2)⟩
      · cases hf1
theorem de_lcV {nw : Bool} {elt tg iter : Expr} {ifs : List Expr} {scope : Scope} {own : List (Str × Nat)} {fi : LF} {t : Tgt} {fc : TF} {fe : EF} (hc : X.calm = true) (hN : X.N.Nodup) (hi : DL X tg iter fi) (ok : BlkOk X.N X.env.scope scope own)
    (hg : ∀ (s : Shared) (H : Hp) (C : Addr) (cl : List (Str × Addr)) (fp : List Addr), DGn (X.blk s H scope (compEnvC scope cl C X.env) fp) tg t) (ht : ∀ (s : Shared) (H : Hp) (C : Addr) (cl : List (Str × Addr)) (fp : List Addr), DTs (X.blk s H scope (compEnvC scope cl C X.env) fp) ifs fc)
    (he : ∀ (s : Shared) (H : Hp) (C : Addr) (cl : List (Str × Addr)) (fp : List Addr), DE (X.blk s H scope (compEnvC scope cl C X.env) fp) elt fe) (hq : own.map (·.2) = t.is := by rfl) (hs : ∀ x, foldedSetIterable iter X.env x = pure x := by intro _; rfl) :
    DE X (.ListComp elt [⟨tg, iter, ifs, 0⟩] scope pos) (eLcV nw fi t fc fe) := by
  obtain ⟨ti, pi, ri⟩ := hi.ex
  refine ⟨_, pe_lc (g := fun v σ H Q => ∀ s H' C cl fp, ∃ t, PG (X.blk s H' scope (compEnvC scope cl C X.env) fp) tg t ∧ t v σ H Q) (tt := fun σ H Q => ∀ s H' C cl fp, ∃ t, PTs (X.blk s H' scope (compEnvC scope cl C X.env) fp) ifs t ∧ t σ H Q)
    (te := fun σ H Q => ∀ s H' C cl fp, ∃ t, PE (X.blk s H' scope (compEnvC scope cl C X.env) fp) elt t ∧ t σ H Q) hc hN pi ok (fun s H C cl fp => ⟨fun pins s1 σ H1 v u Q I r h => ?_⟩) (fun s H C cl fp => ⟨fun pins s1 σ H1 Q I h => ?_⟩) (fun s H C cl fp => ⟨fun pins s1 σ H1 Q I h => ?_⟩) hs, ?_⟩
  · obtain ⟨t, p, q⟩ := h s H C cl fp
    exact p.run pins s1 σ H1 v u Q I r q
  · obtain ⟨t, p, q⟩ := h s H C cl fp
    exact p.run pins s1 σ H1 Q I q
  · obtain ⟨t, p, q⟩ := h s H C cl fp
    exact p.run pins s1 σ H1 Q I q
  · refine rf_lcV ri ?_ ?_ ?_ hq
    · intro T σ H d v ds r hu Q k s H' C cl fp
      obtain ⟨t, p, q⟩ := (hg s H' C cl fp).ex
      exact ⟨t, p, q T σ H d v ds r hu Q k⟩
    · intro T σ H ρ m b m' hm hs hf Q k s H' C cl fp
      obtain ⟨t, p, q⟩ := (ht s H' C cl fp).ex
      exact ⟨t, p, q T σ H ρ m b m' hm hs hf Q k⟩
    · intro T σ H ρ m b m' hm hs hf Q k s H' C cl fp
      obtain ⟨t, p, q⟩ := (he s H' C cl fp).ex
      exact ⟨t, p, q T σ H ρ m b m' hm hs hf Q k⟩
theorem ds_setLcV {nw : Bool} {i : Nat} {y : Str} {py : Pos} {elt tg iter : Expr} {ifs : List Expr} {scope : Scope} {own : List (Str × Nat)} {spos : Pos} {fi : LF} {t : Tgt} {fc : TF} {fe : EF} (hc : X.calm = true) (hN : X.N.Nodup) (hy : X.N[i]? = some y) (hyl : X.env.scope.names.lookup y = some .local)
    (hsw : swapsWith (.ListComp elt [⟨tg, iter, ifs, 0⟩] scope pos) (some (.Name y py)) spos.line X.env = pure true) (hi : DL X tg iter fi) (ok : BlkOk X.N X.env.scope scope own)
    (hg : ∀ (s : Shared) (H : Hp) (C : Addr) (cl : List (Str × Addr)) (fp : List Addr), DGn (X.blk s H scope (compEnvC scope cl C X.env) fp) tg t) (ht : ∀ (s : Shared) (H : Hp) (C : Addr) (cl : List (Str × Addr)) (fp : List Addr), DTs (X.blk s H scope (compEnvC scope cl C X.env) fp) ifs fc)
    (he : ∀ (s : Shared) (H : Hp) (C : Addr) (cl : List (Str × Addr)) (fp : List Addr), DE (X.blk s H scope (compEnvC scope cl C X.env) fp) elt fe) (hq : own.map (·.2) = t.is := by rfl) (hs : ∀ x, foldedSetIterable iter X.env x = pure x := by intro _; rfl) :
    DS X (.Assign [.Name y py] (.ListComp elt [⟨tg, iter, ifs, 0⟩] scope pos) spos) (sAsg (eLcV nw fi t fc fe) (gNm i)) := by
  obtain ⟨ti, pi, ri⟩ := hi.ex
  refine ⟨_, ps_setLc (g := fun v σ H Q => ∀ s H' C cl fp, ∃ t, PG (X.blk s H' scope (compEnvC scope cl C X.env) fp) tg t ∧ t v σ H Q) (tt := fun σ H Q => ∀ s H' C cl fp, ∃ t, PTs (X.blk s H' scope (compEnvC scope cl C X.env) fp) ifs t ∧ t σ H Q)
    (te := fun σ H Q => ∀ s H' C cl fp, ∃ t, PE (X.blk s H' scope (compEnvC scope cl C X.env) fp) elt t ∧ t σ H Q) hc hN hy hyl hsw pi ok (fun s H C cl fp => ⟨fun pins s1 σ H1 v u Q I r h => ?_⟩) (fun s H C cl fp => ⟨fun pins s1 σ H1 Q I h => ?_⟩) (fun s H C cl fp => ⟨fun pins s1 σ H1 Q I h => ?_⟩) hs, rf_asg ?_ ?_⟩
  · obtain ⟨t, p, q⟩ := h s H C cl fp
    exact p.run pins s1 σ H1 v u Q I r q
  · obtain ⟨t, p, q⟩ := h s H C cl fp
    exact p.run pins s1 σ H1 Q I q
  · obtain ⟨t, p, q⟩ := h s H C cl fp
    exact p.run pins s1 σ H1 Q I q
  · refine rf_lcV ri ?_ ?_ ?_ hq
    · intro T σ H d v ds r hu Q k s H' C cl fp
      obtain ⟨t, p, q⟩ := (hg s H' C cl fp).ex
      exact ⟨t, p, q T σ H d v ds r hu Q k⟩
    · intro T σ H ρ m b m' hm hs hf Q k s H' C cl fp
      obtain ⟨t, p, q⟩ := (ht s H' C cl fp).ex
      exact ⟨t, p, q T σ H ρ m b m' hm hs hf Q k⟩
    · intro T σ H ρ m b m' hm hs hf Q k s H' C cl fp
      obtain ⟨t, p, q⟩ := (he s H' C cl fp).ex
      exact ⟨t, p, q T σ H ρ m b m' hm hs hf Q k⟩
  · exact fun T σ H ρ m d v ρ' m' hm hs r hf Q k => by cases hf; exact k _ T H .refl hm (hs.set r)
/-! what is walked -/
def nxC (xs : List D) : NX := fun _ i => if i ≤ xs.length then some xs[i]? else none
def nxR (n : Nat) : NX := fun m i => (m[n]?).bind fun ob => (lstO ob).map fun ds => ds[i]?
theorem nxC_some {xs : List D} {m : M} {i : Nat} {d : D} (h : nxC xs m i = some (some d)) : xs[i]? = some d := by
  obtain ⟨_, h⟩ := ite_some h
  exact Option.some.inj h
theorem nxC_end {xs : List D} {m : M} {i : Nat} (h : nxC xs m i = some none) : xs.length = i := by
  obtain ⟨h1, h⟩ := ite_some h
  have := List.getElem?_eq_none_iff.mp (Option.some.inj h)
  omega
theorem itlv_of {J : It} {xs : List D} (h : ItOk g T H J xs) : ItLv g T H J (nxC xs) := fun T1 H1 l m1 hm1 i => ⟨fun d hd => (h T1 H1 l m1 hm1 i).1 d (nxC_some hd), fun hd => (h T1 H1 l m1 hm1 i).2 (nxC_end hd)⟩
theorem nxR_some {n i : Nat} {m : M} {r : Option D} (h : nxR n m i = some r) : ∃ ds, m[n]? = some (.lst ds) ∧ r = ds[i]? := by
  obtain ⟨ob, h1, h2⟩ := Option.bind_eq_some_iff.mp h
  obtain ⟨ds, h3, rfl⟩ := Option.map_eq_some_iff.mp h2
  cases ob with
  | lst ds' => cases h3; exact ⟨ds, h1, rfl⟩
  | _ => cases h3
theorem at_lst {n : Nat} {a : Addr} {ds : List D} (hm : RepH g T H m) (ea : T.μ[n]? = some a) (h : m[n]? = some (.lst ds)) : ∃ vs, H a = some (.lst vs) ∧ RepL g T H ds vs := by
  cases hm.at_ _ _ _ ea h with
  | lst h1 r => exact ⟨_, h1, r⟩
theorem itlv_ref {n : Nat} {a : Addr} (ea : T.μ[n]? = some a) : ItLv g T H (Itl g.K a) (nxR n) := by
  intro T1 H1 l m1 hm1 i
  refine ⟨fun d hd => ?_, fun hd => ?_⟩
  · obtain ⟨ds, h1, h2⟩ := nxR_some hd
    obtain ⟨vs, hv, r⟩ := at_lst hm1 (l.get ea) h1
    obtain ⟨v, ev, q⟩ := r.get h2.symm
    refine ⟨⟨vs, v, SqL.of hv, ev⟩, fun x H2 ⟨eq, hy⟩ => ?_⟩
    subst eq
    have := hy vs (SqL.of hv)
    rw [ev] at this
    cases this
    exact ⟨T1, .refl, hm1, q⟩
  · obtain ⟨ds, h1, h2⟩ := nxR_some hd
    obtain ⟨vs, hv, r⟩ := at_lst hm1 (l.get ea) h1
    exact ⟨vs, SqL.of hv, r.none (List.getElem?_eq_none_iff.mp h2.symm)⟩
def lIt (a : EF) : LF := fun ρ m => bd (a ρ m) fun x m1 => match x with
  | .ref n => ((m1[n]?).bind lstO).map fun _ => (nxR n, m1)
  | x => (items x).map fun xs => (nxC xs, m1)
theorem dl_any {tg e : Expr} {f : EF} (h : DE X e f) : DL X tg e (lIt f) := by
  obtain ⟨t, p, r⟩ := h.ex
  refine ⟨_, pi_any p, fun T σ H ρ m nx m' hm hs hf R k => ?_⟩
  obtain ⟨x, m1, e1, hf⟩ := bd_some hf
  refine r T σ H ρ m x _ hm hs e1 _ fun v T1 H1 l1 hm1 r1 => ?_
  cases r1 with
  | tup f q => cases hf; exact .inr (.inl ⟨_, rfl, ⟨_, f.sq⟩, k _ T1 H1 l1 hm1 (itlv_of (itok_T fun T2 H2 l => ⟨_, (f.le l).sq, q.le l⟩))⟩)
  | lst f q => cases hf; exact .inl ⟨_, rfl, ⟨_, f.sq⟩, k _ T1 H1 l1 hm1 (itlv_of (itok_L fun T2 H2 l => ⟨_, (f.le l).sq, q.le l⟩))⟩
  | scr f q => cases hf; exact .inl ⟨_, rfl, ⟨_, f.sq⟩, k _ T1 H1 l1 hm1 (itlv_of (itok_L fun T2 H2 l => ⟨_, (f.le l).sq, q.le l⟩))⟩
  | str x => cases hf; exact .inr (.inr ⟨_, rfl, k _ T1 H1 l1 hm1 (itlv_of itok_S)⟩)
  | @ref n a ea =>
    obtain ⟨ds, h1, h2⟩ := Option.map_eq_some_iff.mp hf
    cases h2
    obtain ⟨ob, h3, h4⟩ := Option.bind_eq_some_iff.mp h1
    cases ob with
    | lst ds' =>
      obtain ⟨vs, hv, _⟩ := at_lst hm1 ea h3
      exact .inl ⟨_, rfl, ⟨_, SqL.of hv⟩, k _ T1 H1 l1 hm1 (itlv_ref ea)⟩
    | _ => cases h4
  | _ => cases hf
end
end L4

/-! enumerate -/
namespace L4
open PySem PySem.Spec PyProof.Rows PySem.W L2
theorem enum_new1 {v : Value} {ob : Obj} {H : Heap → Prop} (B : Begins v ob H) :
    Meets (Builtin.«enumerate.__new__» ⟨[.type "enumerate", v], []⟩) (fun _ R s => H s.heap ∧
      R (.ok (.ret (.ref (s.heap.push ob).objs.size))) { s with heap := (s.heap.push ob).push { cls := .type "enumerate", data := .fields #[.none, .bool false, .ref s.heap.objs.size, rawInt 0, .none, .none] } }) :=
  .of_wp fun prog w A R s h => by
    obtain ⟨hp, gn, dr, tk, os⟩ := s; obtain ⟨h1, h⟩ := h
    have subE := sub_enumerate
    have q1 : ∀ {A' : Around} {E : Value → Shared → Prop} {Q : Value → Shared → Prop}, Q (.ref hp.objs.size) ⟨hp.push ob, gn, dr, tk, os⟩ → wpAny (model prog w) A' (pyIter v) Q E ⟨hp, gn, dr, tk, os⟩ :=
      fun q => B.iter prog w _ _ _ _ h1 q
    wp_walk using q1
    refine wpAny_stack_any fun st => wpAny_pure ?_
    split
    · rename_i c _ _ _ _ _
      cases (c == Value.type "enumerate") <;> (wp_walk using q1; exact ⟨_, rfl, h⟩)
    · wp_walk using q1
      exact ⟨_, rfl, h⟩
section
variable {prog : Program} {w : World} {A : Around} {E : Value → Shared → Prop} {s : Shared}
theorem enum_call1 {v : Value} {ob : Obj} {H : Heap → Prop} {Q : Value → Shared → Prop} (B : Begins v ob H) (h1 : H s.heap)
    (h : ∀ h', IsEnum h' (s.heap.objs.size + 1) s.heap.objs.size 0 .none → h'.get? s.heap.objs.size = some ob → (∀ b q, s.heap.get? b = some q → h'.get? b = some q) → Q (.ref (s.heap.objs.size + 1)) { s with heap := h' }) :
    wpAny (model prog w) A (call (.type "enumerate") [v]) Q E s := by
  refine callType_new F.called_enumerate (by decide) (F.typeCall_enumerate_1 _) (F.newCall_enumerate_1 _) (fun obj => F.args_object_init_2 obj _) F.entry_enumerate_new (enum_new1 B) ⟨h1, ?_⟩
  have hz : (s.heap.push ob).objs.size = s.heap.objs.size + 1 := Heap.size_push ..
  show _ ∧ _
  rw [hz]
  have he : IsEnum ((s.heap.push ob).push { cls := .type "enumerate", data := .fields #[.none, .bool false, .ref s.heap.objs.size, rawInt 0, .none, .none] }) (s.heap.objs.size + 1) s.heap.objs.size 0 .none := by
    have hq := Heap.get?_push_size (s.heap.push ob) (o := { cls := .type "enumerate", data := .fields #[.none, .bool false, .ref s.heap.objs.size, rawInt 0, .none, .none] }) rfl
    rw [hz] at hq; exact hq
  exact ⟨⟨_, he, rfl⟩, h _ he (Heap.get?_push_of_some _ (Heap.get?_push_size _ B.free)) fun b q x => Heap.get?_push_of_some _ (Heap.get?_push_of_some _ x)⟩
end
/-- the tuple at a, its items in new pairs -/
def IteT (K : PySem.W.Frag) (a : Addr) : It :=
  ⟨fun i H => ∃ (xs : List V) (x : V), SqT K H a xs ∧ xs[i]? = some x, fun i H v H' => ∃ t x, v = .ref t ∧ H t = none ∧ H' = upd H t (.tup [.int (i : Nat), x]) ∧ ∀ xs, SqT K H a xs → xs[i]? = some x, fun i H => ∃ xs : List V, SqT K H a xs ∧ xs.length = i⟩
theorem turn_enumT {P : Program} {w : World} {K : PySem.W.Frag} {elts : List Expr} {kk : Nat} {tpos : Pos} (a e it : Addr) (hea : e ≠ a) (hia : it ≠ a) :
    Turn P w K (.Tuple elts kk tpos) (IteT K a) [e, it] e (fun i h => (∃ old, IsEnum h e it ((i : Nat) : Int) old) ∧ h.IsTupleIter it a i ∧ e ≠ it) where
  mem := by simp
  obj := fun i h st b hb => by
    obtain ⟨⟨old, he⟩, ⟨ob, ho, hc, hd⟩, _⟩ := st
    have hbe : b = e ∨ b = it := by simpa using hb
    rcases hbe with z | z
    · rw [z]; exact ⟨_, he, fun v q => nomatch q⟩
    · rw [z]; exact ⟨ob, ho, fun v q => by rw [hd] at q; cases q⟩
  keep := fun i h h' st k => let ⟨⟨old, he⟩, hi, hne⟩ := st; ⟨⟨old, k e (by simp) _ he⟩, hi.at fun q z => k it (by simp) q z, hne⟩
  item := by
    intro X hP hw hK hc i pins s σ H E I hf st hg
    subst hP hw hK
    obtain ⟨⟨old, he⟩, hit, hne⟩ := st
    obtain ⟨xs, x, hq, hx⟩ := hg
    obtain ⟨its, rv, p, hz⟩ := I.tuple hq
    obtain ⟨u, hu, ru⟩ := rv.get hx
    have hel : e < s.heap.objs.size := Heap.lt_size he
    have hil : it < s.heap.objs.size := by obtain ⟨_, q, _⟩ := hit; exact Heap.lt_size q
    have hli : i < its.toArray.size := by
      have := (List.getElem?_eq_some_iff.mp hu).1
      simpa using this
    refine wpAny_pyNext_enum_itemC (D := Draws.tuple (A := X.A.in1) (I.ok.hd hc) it a (Ne.symm hia) its.toArray) he ⟨hit, p⟩ hli hne (by simp [hne, hea]) fun x1 h' tk hPx ho hit' hT hsz hk => ?_
    have ex : x1 = u := by
      have hPx : its.toArray[i]? = some x1 := hPx
      rw [List.getElem?_toArray, hu] at hPx
      exact (Option.some.inj hPx).symm
    subst ex
    refine ⟨_, rfl, wpAny_letOwnedTupleGo_enum (s := { s with heap := h', toks := tk + 1 }) ho fun h'' he' sb => ?_⟩
    have hT2 : h''.get? s.heap.objs.size = some { cls := .type "tuple", data := .seq #[.int i tk, x1] } := (sb.2 _ (Nat.ne_of_gt hel)).trans hT
    have new : ObjOk X.prog X.w (upd H s.heap.objs.size (.tup [.int (i : Nat), x])) h'' s.heap.objs.size (.tup [.int (i : Nat), x]) :=
      ⟨by show 2 ≤ sizeLine; decide, [.int i tk, x1], .cons ⟨_, rfl⟩ (.cons ru .nil), ⟨_, hT2, rfl, _, rfl⟩⟩
    have I1 : Inv X pins σ (upd H s.heap.objs.size (.tup [.int (i : Nat), x])) { s with heap := h'', toks := tk + 1 } :=
      I.turnedNew (ch := [e, it]) (fun b ob hb q => (sb.2 b (fun z => hb (by simp [z]))).trans (hk b ob (fun z => hb (by simp [z])) (fun z => hb (by simp [z])) q)) hf (Nat.le_refl _) new
    refine ⟨.ref s.heap.objs.size, _, I1, rfl, ⟨_, x, rfl, I.hok.fresh (Nat.le_refl _), rfl, fun ys hy => by rw [I.tuple_inj hy hq]; exact hx⟩, ⟨⟨x1, ?_⟩, hit'.1.at fun q z => (sb.2 it (Ne.symm hne)).trans z, hne⟩, fun b hb => ?_⟩
    · have e1 : ((i + 1 : Nat) : Int) = (i : Int) + 1 := by omega
      rw [e1]; exact he'
    · have hb' : b < s.heap.objs.size := by
        have hbe : b = e ∨ b = it := by simpa using hb
        rcases hbe with z | z
        · rw [z]; exact hel
        · rw [z]; exact hil
      rw [upd_ne (Nat.ne_of_lt hb')]
      exact (hf b hb).1
  done := by
    intro X hP hw hK hc i pins s σ H E I hf st hg
    subst hP hw hK
    obtain ⟨⟨old, he⟩, hit, hne⟩ := st
    obtain ⟨xs, hq, hx⟩ := hg
    obtain ⟨its, rv, p, hz⟩ := I.tuple hq
    obtain ⟨f0, f1, f2, f3, f4, f5⟩ := hf it (by simp)
    have hl := rv.length
    have hi : its.toArray.size = i := by simp; omega
    exact wpAny_pyNext_enum_endD (D := Draws.tuple (A := X.A.in1) (I.ok.hd hc) it a (Ne.symm hia) its.toArray) he ⟨by rw [hi]; exact hit, p⟩ fun h' eb => ⟨rfl, I.turned (t' := s.toks) (fun b q hb z => eb b q hb z) f0 f1 f3 f4 f5⟩
  self := fun A i s Q E st h => let ⟨⟨_, he⟩, _⟩ := st; wpAny_pyIter_enum he h
def iEnumA (K : PySem.W.Frag) (ta : TA) : TI := fun σ H R => ta σ H fun vs H1 => (∃ a xs, vs = [.ref a] ∧ SqL K H1 a xs ∧ R (Ite K a) H1) ∨ (∃ a xs, vs = [.ref a] ∧ SqT K H1 a xs ∧ R (IteT K a) H1)
theorem pi_enumA {X : Cx} {e : Expr} {ta : TA} {p pos tpos : Pos} {elts : List Expr} {kk : Nat} (hg : Gl X "enumerate") (hm : X.mg "enumerate" = none) (ha : PA X [e] ta) (hs : starEach [e] X.env = [(false, eval e X.env)] := by rfl) :
    PI X (.Tuple elts kk tpos) (.Call (.Name "enumerate" p) [e] [] pos) (iEnumA X.K ta) := by
  refine ⟨fun pins s σ H R I h => ?_⟩
  refine Call_ (ld_blt I hg hm boot_enumerate (PyProof.Rows.callWith_type1 (thn (ha.run pos pins s σ H _ I h) fun us s1 ⟨vs, H1, I1, r1, q1⟩ => ?_) hs rfl))
  rcases q1 with ⟨a, xs, ex, hq, q⟩ | ⟨a, xs, ex, hq, q⟩
  · subst ex
    cases r1 with
    | cons r rr =>
      cases rr
      cases r
      obtain ⟨its, rv, p', hz⟩ := I1.list hq
      refine call_enumerate_list p'.isList fun h' he hit hsz hk => wpAny_pyIter_enum he ?_
      have I2 : Inv X pins σ H1 { s1 with heap := h' } := I1.kept (t' := s1.toks) hk
      refine ⟨s1.heap.objs.size + 1, [s1.heap.objs.size + 1, s1.heap.objs.size], _, _, H1, rfl, I2, turn_enum a (s1.heap.objs.size + 1) s1.heap.objs.size, ⟨⟨.none, he⟩, hit, Nat.succ_ne_self _⟩, fun b hb => ?_, q⟩
      have hle : s1.heap.objs.size ≤ b := by
        have hbb : b = s1.heap.objs.size + 1 ∨ b = s1.heap.objs.size := by simpa using hb
        rcases hbb with z | z
        · rw [z]; exact Nat.le_add_right _ _
        · rw [z]; exact Nat.le_refl _
      exact I1.fpOk hle (I1.hok.fresh hle)
  · subst ex
    cases r1 with
    | cons r rr =>
      cases rr
      cases r
      obtain ⟨its, rv, p', hz⟩ := I1.tuple hq
      have hlt : a < s1.heap.objs.size := by obtain ⟨ob, h1, _⟩ := id p'; exact Heap.lt_size h1
      refine enum_call1 (begins_tuple a its.toArray) p' fun h' he hit hk => wpAny_pyIter_enum he ?_
      have I2 : Inv X pins σ H1 { s1 with heap := h' } := I1.kept (t' := s1.toks) hk
      refine ⟨s1.heap.objs.size + 1, [s1.heap.objs.size + 1, s1.heap.objs.size], _, _, H1, rfl, I2, turn_enumT a (s1.heap.objs.size + 1) s1.heap.objs.size (Nat.ne_of_gt (Nat.lt_succ_of_lt hlt)) (Nat.ne_of_gt hlt), ⟨⟨.none, he⟩, ⟨_, hit, rfl, rfl⟩, Nat.succ_ne_self _⟩, fun b hb => ?_, q⟩
      have hle : s1.heap.objs.size ≤ b := by
        have hbb : b = s1.heap.objs.size + 1 ∨ b = s1.heap.objs.size := by simpa using hb
        rcases hbb with z | z
        · rw [z]; exact Nat.le_add_right _ _
        · rw [z]; exact Nat.le_refl _
      exact I1.fpOk hle (I1.hok.fresh hle)
section
variable {X : Cx} {g : G} {T T' : Tk} {H : Hp} {m : M} {Q : VK} {pos p apos : Pos} {e o : Expr} {es : List Expr} {k n : Nat} {x c nm : Str}
def nxE (nx : NX) : NX := fun m i => (nx m i).map fun r => r.map fun d => .tup [.int (i : Nat), d]
theorem nxE_some {nx : NX} {i : Nat} {d : D} (h : nxE nx m i = some (some d)) : ∃ y, nx m i = some (some y) ∧ d = .tup [.int (i : Nat), y] := by
  obtain ⟨r, h1, h2⟩ := Option.map_eq_some_iff.mp h
  cases r with
  | none => cases h2
  | some y => cases h2; exact ⟨y, h1, rfl⟩
theorem nxE_end {nx : NX} {i : Nat} (h : nxE nx m i = some none) : nx m i = some none := by
  obtain ⟨r, h1, h2⟩ := Option.map_eq_some_iff.mp h
  cases r with
  | none => exact h1
  | some y => cases h2
theorem itlv_enum {J J' : It} {nx : NX} (h : ItLv g T H J nx) (hgo : ∀ i H, J.go i H → J'.go i H) (hst : ∀ T1 H1 m1 i, Le T H T1 H1 → RepH g T1 H1 m1 → nx m1 i = some none → J'.stop i H1)
    (hy : ∀ i H v H', J'.yld i H v H' → ∃ t x, v = .ref t ∧ H t = none ∧ H' = upd H t (.tup [.int (i : Nat), x]) ∧ J.yld i H x H) : ItLv g T H J' (nxE nx) := by
  intro T1 H1 l m1 hm1 i
  obtain ⟨h1, h2⟩ := h T1 H1 l m1 hm1 i
  refine ⟨fun d hd => ?_, fun hd => hst T1 H1 m1 i l hm1 (nxE_end hd)⟩
  obtain ⟨y, h3, rfl⟩ := nxE_some hd
  obtain ⟨go, yl⟩ := h1 y h3
  refine ⟨hgo i H1 go, fun x H2 hyl => ?_⟩
  obtain ⟨t, x0, rfl, hn, rfl, h4⟩ := hy i H1 x H2 hyl
  obtain ⟨T2, l2, hm2, r2⟩ := yl x0 H1 h4
  obtain ⟨l3, hm3⟩ := hm2.fresh (p := t) (u := .tup [.int (i : Nat), x0]) hn
  exact ⟨T2, l2.trans l3, hm3, .tup (.inl ⟨hm2.nope hn, upd_same⟩) (.cons (.int _) (.cons (r2.le l3) .nil))⟩
def lEn (a : AF) : LF := fun ρ m => bd (a ρ m) fun xs m1 => match xs with
  | [.ref n] => ((m1[n]?).bind lstO).map fun _ => (nxE (nxR n), m1)
  | [.tup ds] => some (nxE (nxC ds), m1)
  | [.lst ds] => some (nxE (nxC ds), m1)
  | [.scr ds] => some (nxE (nxC ds), m1)
  | _ => none
theorem enL {a : Addr} {nx : NX} (h : ItLv g T H (Itl g.K a) nx) : ItLv g T H (Ite g.K a) (nxE nx) := itlv_enum h (fun i H ⟨xs, x, h1, h2⟩ => ⟨xs, x, h1, h2⟩) (fun T1 H1 m1 i l hm1 hn => (h T1 H1 l m1 hm1 i).2 hn) fun i H v H' ⟨t, x, h1, h2, h3, h4⟩ => ⟨t, x, h1, h2, h3, rfl, h4⟩
theorem dl_enum {f : AF} {tpos : Pos} {elts : List Expr} {kk : Nat} (hg : Gl X "enumerate") (hm : X.mg "enumerate" = none) (ha : DA X [e] f) (hs : starEach [e] X.env = [(false, eval e X.env)] := by rfl) : DL X (.Tuple elts kk tpos) (.Call (.Name "enumerate" p) [e] [] pos) (lEn f) := by
  obtain ⟨t, pt, r⟩ := ha.ex
  refine ⟨_, pi_enumA hg hm pt hs, fun T σ H ρ m nx m' hm hs hf R k => ?_⟩
  obtain ⟨xs, m1, e1, hf⟩ := bd_some hf
  refine r T σ H ρ m xs _ hm hs e1 _ fun vs T1 H1 l1 hm1 r1 => ?_
  split at hf
  · next n =>
    obtain ⟨v, rfl, rv⟩ := r1.one
    obtain ⟨ds, h1, h2⟩ := Option.map_eq_some_iff.mp hf
    cases h2
    obtain ⟨ob, h3, h4⟩ := Option.bind_eq_some_iff.mp h1
    cases rv with
    | @ref _ a ea =>
      cases ob with
      | lst ds' =>
        obtain ⟨vs, hv, _⟩ := at_lst hm1 ea h3
        exact .inl ⟨a, vs, rfl, SqL.of hv, k _ T1 H1 l1 hm1 (enL (itlv_ref ea))⟩
      | _ => cases h4
  · next ds =>
    obtain ⟨v, rfl, rv⟩ := r1.one
    cases hf
    cases rv with
    | @tup a vs _ f q =>
      have base : ItLv (gx X) T1 H1 (Itt X.K a) (nxC ds) := itlv_of (itok_T fun T2 H2 l => ⟨_, (f.le l).sq, q.le l⟩)
      refine .inr ⟨a, vs, rfl, f.sq, k _ T1 H1 l1 hm1 (itlv_enum base (fun i H ⟨xs, x, h1, h2⟩ => ⟨xs, x, h1, h2⟩) (fun T2 H2 m2 i l hm2 hn => ⟨vs, (f.le l).sq, ?_⟩) fun i H v H' ⟨t, x, h1, h2, h3, h4⟩ => ⟨t, x, h1, h2, h3, rfl, h4⟩)⟩
      rw [← q.length]
      exact nxC_end hn
  · next ds =>
    obtain ⟨v, rfl, rv⟩ := r1.one
    cases hf
    cases rv with
    | @lst a vs _ f q => exact .inl ⟨a, vs, rfl, f.sq, k _ T1 H1 l1 hm1 (enL (itlv_of (itok_L fun T2 H2 l => ⟨_, (f.le l).sq, q.le l⟩)))⟩
  · next ds =>
    obtain ⟨v, rfl, rv⟩ := r1.one
    cases hf
    cases rv with
    | @scr a vs _ f q => exact .inl ⟨a, vs, rfl, f.sq, k _ T1 H1 l1 hm1 (enL (itlv_of (itok_L fun T2 H2 l => ⟨_, (f.le l).sq, q.le l⟩)))⟩
  · cases hf
end
end L4

/-! defs whose last parameter has the default () -/
namespace L4
open PySem PySem.Spec PyProof.Rows L2
section
variable {P : Program} {w : World} {K : PySem.W.Frag} {mg : Str → Option Value} {base : Heap} {k : Nat} {x q c : Str} {ps N : List Str} {st : Stmt} {b : SF}
theorem fnG_ofD {f : Addr} {fd : FuncData} {sp : Sp} {dvs : List V} (F : FunD K x q (defArgs st) (defBody st) (defScope st) dvs [] f fd) (S : FnScope N ps (defScope st)) (len : ∀ vs H Q E, sp vs H Q E → vs.length = ps.length)
    (hbody : ∀ (cdv : Value) (A : Around) (outer : List Env) (s : Shared) (H : Hp) (vs : List V) (Q : VK) (E : XK), A.guards = some [] → Room k (A.deeper (envOfC q (defScope st) s.heap.objs.size f cdv)) → sp vs H Q E →
      ∃ t, PSs (cxOf CX0 P w K mg base N q (defScope st) f cdv A outer s H E).nox (defBody st) t ∧ t { nx := fun _ H' => Q .non H', rt := Q } (start N vs) H) : L3.FnG P w K mg base (k + 1) f fd ps sp := by
  obtain ⟨oc, od, dV, kV, doc, pm, an, cdv, ct, osl, rfl, lk, hcd, _, _⟩ := F.ex
  refine ⟨len, ?_⟩
  intro A outer s H args us vs Q E hg hr e0 hb r hsp
  have keep : ∀ b o, base.get? b = some o → s.heap.get? b = some o := fun b o e => (e0.bs b o e).1
  have KX : K.In s.heap := e0.mod.kin.keeps keep
  have par : ∀ y ∈ ps.zip us, (defScope st).names.lookup y.1 = some .local ∨ ((defScope st).names.lookup y.1 = some .cell ∧ ((cellsFrom (s.heap.objs.size + 1) (defScope st).names []).lookup y.1).isSome = true) := by
    rintro ⟨n, v⟩ hy
    cases S.par n (List.of_mem_zip hy).1 with
    | inl z => exact .inl z
    | inr z => exact .inr ⟨z, PySem.W.cellsFrom_some _ _ _ (.inl z)⟩
  refine codeAny_call_function hr.depth (KX _ _ lk) rfl S.co S.gen rfl (PySem.W.codeRec_of KX hcd) ?_
  refine hb _ _ _ _ ?_
  refine wpAny_newFunctionEnv_cells S.kind par ?_
  rintro env rfl s1 x
  refine ⟨(e0.mod.nolimit.keeps keep).keeps x.toInCall.keep, ?_⟩
  refine codeAny_func ?_
  obtain ⟨t, ht, hq⟩ := hbody cdv A outer s H vs Q E hg (hr.deeper _) hsp
  have I : Inv (cxOf CX0 P w K mg base N q (defScope st) f cdv A outer s H E) [] (start N vs) H s1 := inv_start S hr.hd e0 (len _ _ _ _ hsp) r x
  refine wpAny_mono (ht.nox.run [] s1 (start N vs) H _ I hq) ?_ (fun _ _ z => z)
  intro fl s' hs
  cases fl with
  | ret u =>
    obtain ⟨v, σ', H', J, rv, z⟩ := hs
    exact ⟨v, H', J.os, J.bare, J.base, J.hok, rv, z⟩
  | next =>
    obtain ⟨σ', H', J, z⟩ := hs
    exact ⟨.non, H', J.os, J.bare, J.base, J.hok, rfl, z⟩
  | brk => obtain ⟨σ', H', J, z⟩ := hs; exact False.elim z
  | cont => obtain ⟨σ', H', J, z⟩ := hs; exact False.elim z
theorem fnG_allD {f : Addr} {fd : FuncData} {sp : Sp} {dvs : List V} (F : FunD K x q (defArgs st) (defBody st) (defScope st) dvs [] f fd) (S : FnScope N ps (defScope st)) (len : ∀ vs H Q E, sp vs H Q E → vs.length = ps.length)
    (hrun : ∀ {t : TS}, RfS ⟨P, w, K⟩ t b → ∀ {vs : List V} {H : Hp} {Q : VK} {E : XK}, sp vs H Q E → t { nx := fun _ H' => Q .non H', rt := Q } (L2.start N vs) H)
    (hbody : ∀ (cdv : Value) (A : Around) (outer : List Env) (s : Shared) (H : Hp) (E : XK), Gd k (cxOf CX0 P w K mg base N q (defScope st) f cdv A outer s H E).nox →
      DSs (cxOf CX0 P w K mg base N q (defScope st) f cdv A outer s H E).nox (defBody st) b) : FnG P w K mg base CX0 (k + 1) f fd ps sp := by
  refine .old (fnG_ofD F S len fun cdv A outer s H vs Q E hg hr hsp => ?_)
  obtain ⟨t, p, r⟩ := (hbody cdv A outer s H E ⟨hg, hr⟩).ex
  exact ⟨t, p, hrun r hsp⟩
/-- the empty tuple of the top -/
def tup0B (K : PySem.W.Frag) (a : Addr) : Bool := match K.lookup a with
  | some ⟨.type c, _, .seq its _, _⟩ => decide (c = "tuple") && its.toList.isEmpty
  | _ => false
theorem tup0B_ok {a : Addr} (h : tup0B K a = true) (H : Hp) : SqT K H a [] := by
  unfold tup0B at h
  split at h
  · next c d its n sl hq =>
    obtain ⟨h1, h2⟩ := and2 h
    refine .inr ⟨_, its, n, hq, congrArg Value.type (of_decide_eq_true h1), rfl, ?_, ?_⟩
    · rw [← Array.length_toList, List.isEmpty_iff.mp h2]; exact Nat.zero_le _
    · rw [List.isEmpty_iff.mp h2]; exact .nil
  · cases h
structure DfD (K : PySem.W.Frag) (mg : Str → Option Value) (x : Str) (st : Stmt) : Prop where
  ex : ∃ f fd a, FunD K x x (defArgs st) (defBody st) (defScope st) [.ref a] [] f fd ∧ mg x = some (.ref f) ∧ ∀ H, SqT K H a []
structure KiD (K : PySem.W.Frag) (mg : Str → Option Value) (x : Str) (C : Addr) (q : Str) (st : Stmt) : Prop where
  cl : Cls K C
  mgC : mg x = some (.ref C)
  ex : ∃ f fd a, FunD K "__init__" q (defArgs st) (defBody st) (defScope st) [.ref a] [] f fd ∧ Mk K C f ∧ ∀ H, SqT K H a []
def gdefD (x : PySem.Str) (st : Stmt) : He5.DefA := ⟨fun K => He.ga K x, x, x, L2.defArgs st, L2.defBody st, L2.defScope st, [.adr (He.dflAt (x, none) 0)], []⟩
def mdefD (c m q : PySem.Str) (st : Stmt) : He5.DefA := ⟨fun K => He.ma K (He.ga K c) m, m, q, L2.defArgs st, L2.defBody st, L2.defScope st, [.adr (He.dflAt (c, some m) 0)], []⟩
theorem dfd_of {h : Heap} {ex : PySem.W.Frag → Bool} {fn : List He5.DefA} (X : K.In h) (G : h.Ns mainGlobals mg) (f : (L3.Fx.fa (.glo x)).ok K = true) (f2 : tup0B K (He.dflAt (x, none) 0 K) = true) (s : L3.SaysB ex fn K) (i : Nat) (e : fn[i]? = some (gdefD x st) := by rfl) : DfD K mg x st := by
  obtain ⟨fd, F⟩ := s.def_ i e
  exact ⟨He.ga K x, fd, He.dflAt (x, none) 0 K, F, He.glo_ok X G f, fun H => tup0B_ok f2 H⟩
theorem kid_of {h : Heap} {ex : PySem.W.Frag → Bool} {fn : List He5.DefA} (X : K.In h) (G : h.Ns mainGlobals mg) (f : (L3.Fx.fa (.glo x)).ok K = true) (f1 : (L3.Fx.fa (.cls x)).ok K = true) (f2 : (L3.Fx.fa (.mkr x)).ok K = true) (f3 : tup0B K (He.dflAt (x, some "__init__") 0 K) = true) (s : L3.SaysB ex fn K) (i : Nat) (e : fn[i]? = some (mdefD x "__init__" q st) := by rfl) : KiD K mg x (He.ga K x) q st := by
  obtain ⟨fd, F⟩ := s.def_ i e
  exact ⟨He.cls_ok f1, He.glo_ok X G f, He.ma K (He.ga K x) "__init__", fd, He.dflAt (x, some "__init__") 0 K, F, He.mkr_ok f2, fun H => tup0B_ok f3 H⟩
structure PFd (P : Program) (w : World) (K : PySem.W.Frag) (mg : Str → Option Value) (base : Heap) (k : Nat) (x : Str) (n : Nat) (F : List D → Option D) : Prop where
  fn : PFn P w K mg base k x n F
  df : ∃ f fd ps a ds, FnG P w K mg base CX0 k f fd ps (spP ⟨P, w, K⟩ n F) ∧ mg x = some (.ref f) ∧ PySem.W.keepIn K (.ref f) = true ∧ Vals [.ref a] ds ∧ Binds K fd ps ds ∧ ∀ H, SqT K H a []
structure MNd (P : Program) (w : World) (K : PySem.W.Frag) (mg : Str → Option Value) (base : Heap) (k : Nat) (c : Str) (n : Nat) (F : List D → M → Option (D × M)) : Prop where
  fn : MNw P w K mg base k c n F
  df : ∃ f fd ps a ds, FnG P w K mg base CX0 k f fd ps (spM ⟨P, w, K⟩ n F) ∧ Mk K (He.ga K c) f ∧ Vals [.ref a] ds ∧ Binds K fd ps ds ∧ ∀ H, SqT K H a []
abbrev BindD (x q : Str) (st : Stmt) (ps : List Str) (n j : Nat) : Prop := ∀ (T : Addr) (kV doc pm : Value) (an : Option Addr) (cdv ct : Value) (us its : List Value), us.length = n → its.length = 1 →
      ∃ k, bindArgs (PySem.W.fnOf x q (defArgs st) (defBody st) (defScope st) (.ref T) kV doc pm an cdv ct) ⟨us, []⟩ = seqItems? (.ref T) >>= k ∧ k (some its.toArray) = pure (ps.zip (us ++ its.drop j))
theorem pfd_df (D : DfD K mg x st) (S : FnScope N ps (defScope st)) (h1 : 1 ≤ ps.length) (hb : BindD x x st ps ps.length 1) (hb2 : BindD x x st ps (ps.length - 1) 0)
    (hbody : ∀ (f : Addr) (cdv : Value) (A : Around) (outer : List Env) (s : Shared) (H : Hp) (E : XK), Gd k (cxOf CX0 P w K mg base N x (defScope st) f cdv A outer s H E).nox →
      DSs (cxOf CX0 P w K mg base N x (defScope st) f cdv A outer s H E).nox (defBody st) b) : PFd P w K mg base (k + 1) x ps.length (runP ps.length N.length b) := by
  obtain ⟨f, fd, a, F, g, sq⟩ := D.ex
  have G : FnG P w K mg base CX0 (k + 1) f fd ps (spP ⟨P, w, K⟩ ps.length (runP ps.length N.length b)) := fnG_allD F S (fun vs H Q E h => h.1) (fun r => spP_run r) (hbody f)
  obtain ⟨ds, r, B⟩ := F.binds1 (ps := ps) ps.length 1 (by intro z; cases z) rfl hb
  cases r
  obtain ⟨es, r2, B2⟩ := F.binds1 (ps := ps) (ps.length - 1) 0 (by intro z; cases z) (Nat.sub_add_cancel h1) hb2
  exact ⟨⟨fun ds d h => runP_len h, f, fd, ps, G, g, F.kp, B⟩, f, fd, ps, a, es, G, g, F.kp, r2, B2, sq⟩
theorem mnd_ki (D : KiD K mg c (He.ga K c) q st) (S : FnScope N ps (defScope st)) (h1 : 1 ≤ ps.length) (hb : BindD "__init__" q st ps ps.length 1) (hb2 : BindD "__init__" q st ps (ps.length - 1) 0)
    (hbody : ∀ (f : Addr) (cdv : Value) (A : Around) (outer : List Env) (s : Shared) (H : Hp) (E : XK), Gd k (cxOf CX0 P w K mg base N q (defScope st) f cdv A outer s H E).nox →
      DSs (cxOf CX0 P w K mg base N q (defScope st) f cdv A outer s H E).nox (defBody st) b) : MNd P w K mg base (k + 1) c ps.length (runM ps.length N.length b) := by
  obtain ⟨f, fd, a, F, g, sq⟩ := D.ex
  have G : FnG P w K mg base CX0 (k + 1) f fd ps (spM ⟨P, w, K⟩ ps.length (runM ps.length N.length b)) := fnG_allD F S (fun vs H Q E h => h.1) (fun r => spM_run r) (hbody f)
  obtain ⟨ds, r, B⟩ := F.binds1 (ps := ps) ps.length 1 (by intro z; cases z) rfl hb
  cases r
  obtain ⟨es, r2, B2⟩ := F.binds1 (ps := ps) (ps.length - 1) 0 (by intro z; cases z) (Nat.sub_add_cancel h1) hb2
  exact ⟨⟨fun ds m d h => runM_len h, D.mgC, f, fd, ps, G, g, B⟩, f, fd, ps, a, es, G, g, r2, B2, sq⟩
end
section
variable {X : Cx} {g : G} {T T' : Tk} {H : Hp} {m : M} {Q : VK} {pos p apos : Pos} {e o : Expr} {es : List Expr} {k n : Nat} {x c nm : Str}
/-- the default at the end -/
def dflt (G : M → List D → Option D) (m : M) (xs : List D) : Option D := G m (xs ++ [.tup []])
theorem rf_dflt {g : G} {r : List V → Hp → VK → Prop} {F : M → List D → Option D} {a : Addr} (sq : ∀ H, SqT g.K H a []) (h : RfC g r F) : RfC g (fun vs H Q => r (vs ++ [.ref a]) H Q) (dflt F) := by
  intro T H m xs vs d hm rl hf Q k
  refine h T H m _ _ d hm (rl.append (.cons (.tup (.inr (sq _)) .nil) .nil)) hf Q k
theorem de_pfnD {F : List D → Option D} {f : AF} (hF : PFd X.prog X.w X.K X.mg X.base k x n F) (gd : Gd k X) (hg : Gl X x) (ha : DA X (e :: es) f) (hdb : (x == ("__debug__" : Str)) = false := by decide)
    (he : starEach (e :: es) X.env = (false, eval e X.env) :: starEach es X.env := by rfl) (hpl : (backTo pos (starEach es X.env)).any (·.1) = false := by rfl) : DE X (.Call (.Name x p) (e :: es) [] pos) (eCall (dflt (callP F)) f) := by
  obtain ⟨fa, fd, ps, a, ds, G, hm, kp, r, b, sq⟩ := hF.df
  obtain ⟨t, pa, ra⟩ := ha.ex
  exact ⟨_, pe_callR (G.call gd b r) hg hm kp pa hdb he hpl, rf_call (rf_dflt (g := gx X) sq (rf_callP hF.fn.len)) ra⟩
theorem de_pfnD0 {F : List D → Option D} (hF : PFd X.prog X.w X.K X.mg X.base k x n F) (gd : Gd k X) (hg : Gl X x) (hdb : (x == ("__debug__" : Str)) = false := by decide) : DE X (.Call (.Name x p) [] [] pos) (eCall (dflt (callP F)) aNil) := by
  obtain ⟨fa, fd, ps, a, ds, G, hm, kp, r, b, sq⟩ := hF.df
  exact ⟨_, pe_callR0 (G.call gd b r) hg hm kp hdb, rf_call (rf_dflt (g := gx X) sq (rf_callP hF.fn.len)) rf_nil⟩
end
end L4

/-! sorted: data whose tuples are alike as far as they are compared -/
namespace L4
open PySem PyProof.Rows PySem.W
/-- two rows can be compared: place by place up to the first that differs -/
def wk2 : List PyData → List PyData → Bool
  | x :: xs, y :: ys => alike x y && (!PyData.eqv x y || wk2 xs ys)
  | _, _ => true
def okP : PyData → PyData → Bool
  | .tuple (x :: xs), .tuple (y :: ys) => wk2 (x :: xs) (y :: ys)
  | .tuple _, _ => false
  | _, .tuple _ => false
  | .none, _ => false
  | a, b => alike a b
theorem wk2_cons {x y : PyData} {xs ys : List PyData} (h : wk2 (x :: xs) (y :: ys) = true) : alike x y = true ∧ (PyData.eqv x y = true → wk2 xs ys = true) := by
  unfold wk2 at h
  obtain ⟨h1, h2⟩ := and2 h
  refine ⟨h1, fun e => ?_⟩
  rw [e] at h2
  simpa using h2
theorem wk2_one {h : Heap} : ∀ (xs ys : List PyData) (vs : List Value) (as bs : List Addr), wk2 xs ys = true → ReadsAll h vs xs as → ReadsAll h vs ys bs → xs = ys
  | [], ys, _, _, _, _, r, q => by cases r; cases q; rfl
  | x :: xs, [], _, _, _, _, r, q => by cases r; cases q
  | x :: xs, y :: ys, _, _, _, hw, r, q => by
    cases r with
    | cons r1 r2 =>
      cases q with
      | cons q1 q2 =>
        obtain ⟨h1, h2⟩ := wk2_cons hw
        have e := alike_unique x y _ _ _ h1 r1 q1
        subst e
        rw [wk2_one xs ys _ _ _ (h2 (eqv_refl_alike x h1)) r2 q2]
theorem okP_one {h : Heap} {d d' : PyData} {v : Value} {as bs : List Addr} (hw : okP d d' = true) (r : Reads h v d as) (q : Reads h v d' bs) : d = d' := by
  unfold okP at hw
  split at hw
  · next x xs y ys =>
    cases r with
    | @tuple a o vs n _ _ h1 h2 h3 h4 =>
      cases q with
      | @tuple _ o' vs' n' _ _ k1 k2 k3 k4 =>
        rw [h1] at k1
        cases k1
        rw [h3] at k3
        cases k3
        rw [wk2_one _ _ _ _ _ hw h4 k4]
  · cases hw
  · cases hw
  · cases hw
  · exact alike_unique _ _ _ _ _ hw r q
section
variable {prog : Program} {w : World} {A : Around} {E : Value → Shared → Prop} {s : Shared}
theorem katLexW {b fin : Bool} {Q : Bool → Shared → Prop} : ∀ (xs ys : List PyData) (i : Nat) (vs ws : List Value) (as bs : List Addr), ReadsAll s.heap vs xs as → ReadsAll s.heap ws ys bs → wk2 xs ys = true →
    A.units + min (PyData.depthAll xs) (PyData.depthAll ys) < cLine → (b = true → i = 0 → ∀ x r t, xs = x :: r → x ≠ .tuple t) → fin = decide (xs.length < ys.length) → Q (PyProof.Rows.lexLt itemOrd (keyToksAll xs) (keyToksAll ys)) s → KatLex prog w A b fin Q (vs.zip ws) i s
  | [], [], i, _, _, _, _, ra, rb, _, _, _, hf, hq => by
    cases ra; cases rb
    have e : fin = false := by rw [hf]; rfl
    subst e
    rw [lex_irrefl] at hq
    exact kat_nil hq
  | [], y :: ys, i, _, _, _, _, ra, rb, _, _, _, hf, hq => by
    cases ra
    have e : fin = true := by rw [hf]; exact decide_eq_true (Nat.succ_pos _)
    subst e
    rw [toks_all_cons] at hq
    simp only [keyToksAll] at hq
    rw [lex_diff (O := itemOrd) (by simp)] at hq
    rw [List.zip_nil_left]
    exact kat_nil (by simpa [itemLt] using hq)
  | x :: xs, [], i, _, _, _, _, ra, rb, _, _, _, hf, hq => by
    cases rb
    have e : fin = false := by rw [hf]; exact decide_eq_false (Nat.not_lt_zero _)
    subst e
    rw [toks_all_cons] at hq
    simp only [keyToksAll] at hq
    rw [lex_diff (O := itemOrd) (by simp)] at hq
    rw [List.zip_nil_right]
    exact kat_nil (by simpa [itemLt] using hq)
  | x :: xs, y :: ys, i, _, _, _, _, ra, rb, h, hu, hb, hf, hq => by
    obtain ⟨h1, h2⟩ := wk2_cons h
    have hf' : fin = decide (xs.length < ys.length) := by
      rw [hf]
      simp only [List.length_cons, Nat.add_lt_add_iff_right]
    cases ra with
    | cons r rs =>
      cases rb with
      | cons r' rs' =>
        rw [List.zip_cons_cons]
        refine kat_cons (eqAt_alike x y A s _ _ _ _ r r' h1 (SeqAt.room_head hu) prog w _ _ ?_)
        cases hx : PyData.eqv x y with
        | true =>
          rw [dataLt_all_yes h1 hx] at hq
          exact kat_yes (katLexW xs ys (i + 1) _ _ _ _ rs rs' (h2 hx) (SeqAt.room_tail hu) (fun _ hi => absurd hi (Nat.succ_ne_zero i)) hf' hq)
        | false =>
          rw [dataLt_all_no h1 hx] at hq
          refine kat_no (oneLt_alike (fun hbi t => ?_) r r' h1 (ne_none_of h1 hx) (SeqAt.room_head hu) hq)
          rw [Bool.and_eq_true] at hbi
          exact hb hbi.1 (by simpa using hbi.2) x xs t rfl
theorem kind_some {h : Heap} {ds : List PyData} (hal : ∀ d ∈ ds, ∀ d' ∈ ds, okP d d' = true) {v : Value} {d : PyData} {as : List Addr} (hd : d ∈ ds) (r : Reads h v d as) : (dataKind h ds).keyOf v = some (keyToks d) := by
  have q : ∃ d, d ∈ ds ∧ ∃ as, Reads h v d as := ⟨d, hd, as, r⟩
  have e : (dataKind h ds).keyOf v = some (keyToks q.choose) := by
    show (open Classical in if q : ∃ d, d ∈ ds ∧ ∃ as, Reads h v d as then some (keyToks q.choose) else none) = _
    rw [dif_pos q]
  obtain ⟨h1, as', h2⟩ := q.choose_spec
  rw [e, okP_one (hal _ h1 _ hd) h2 r]
theorem okP_tup {x : PyData} {xs : List PyData} {d' : PyData} (h : okP (.tuple (x :: xs)) d' = true) : ∃ y ys, d' = .tuple (y :: ys) ∧ wk2 (x :: xs) (y :: ys) = true := by
  unfold okP at h
  cases d' with
  | tuple ys =>
    cases ys with
    | nil => cases h
    | cons y ys => exact ⟨_, _, rfl, h⟩
  | _ => cases h
theorem okP_other {d d' : PyData} (h : okP d d' = true) (hd : ∀ xs, d ≠ .tuple xs) : d ≠ .none ∧ (∀ xs, d' ≠ .tuple xs) ∧ alike d d' = true := by
  unfold okP at h
  split at h
  · exact absurd rfl (hd _)
  · exact absurd rfl (hd _)
  · cases h
  · cases h
  · refine ⟨?_, ?_, h⟩
    · assumption
    · assumption
theorem sortsW {vs : List Value} {ds : List PyData} (e : EachIs (fun v d => ∃ as, Reads s.heap v d as) vs ds) (hal : ∀ d ∈ ds, ∀ d' ∈ ds, okP d d' = true) (hu : ∀ d, d ∈ ds → A.units + d.depth < cLine) : SortsAt prog w A s (dataKind s.heap ds) vs := by
  have room : ∀ {d d' : PyData}, d ∈ ds → A.units + min d.depth d'.depth < cLine := fun {d d'} hd => Nat.lt_of_le_of_lt (Nat.add_le_add_left (Nat.min_le_left _ _) _) (hu d hd)
  refine ⟨fun v hv => ?_, ?_⟩
  · obtain ⟨d, hd, as, r⟩ := e.left v hv
    exact ⟨_, kind_some hal hd r⟩
  · cases ds with
    | nil =>
      cases e
      exact ⟨general', fun E x y a b Q ha _ _ => (by
        obtain ⟨d, _, hd, _⟩ := dataKind_inv ha
        exact absurd hd (by simp)), fun h2 => absurd h2 (by simp)⟩
    | cons d₀ ds₀ =>
      have self0 := hal d₀ (List.mem_cons_self ..) d₀ (List.mem_cons_self ..)
      by_cases ht : ∃ x₀ r₀, d₀ = .tuple (x₀ :: r₀)
      · obtain ⟨x₀, r₀, rfl⟩ := ht
        have all : ∀ d ∈ (PyData.tuple (x₀ :: r₀)) :: ds₀, ∃ x r, d = .tuple (x :: r) ∧ alike x x₀ = true := fun d hd => by
          obtain ⟨y, ys, rfl, _⟩ := okP_tup (hal _ (List.mem_cons_self ..) d hd)
          obtain ⟨_, _, ez, hw⟩ := okP_tup (hal _ hd _ (List.mem_cons_self ..))
          cases ez
          exact ⟨y, ys, rfl, (wk2_cons hw).1⟩
        have alltup : ∀ d ∈ (PyData.tuple (x₀ :: r₀)) :: ds₀, ∃ x r, d = .tuple (x :: r) := fun d hd => by obtain ⟨x, r, e, _⟩ := all d hd; exact ⟨x, r, e⟩
        refine ⟨tuples' (dataType x₀ != Value.type "tuple"), ?_, fun h2 E Q hq => ?_⟩
        · intro E x y a b Q ha hb hq
          obtain ⟨d, as, hd, ra, rfl⟩ := dataKind_inv ha
          obtain ⟨d', as', hd', rb, rfl⟩ := dataKind_inv hb
          have hdd := hal d hd d' hd'
          have hroom := room (d' := d') hd
          obtain ⟨x1, r1, rfl, hx1⟩ := all d hd
          obtain ⟨x2, r2, rfl, hx2⟩ := all d' hd'
          have hq' : Q (dataLt (.tuple (x1 :: r1)) (.tuple (x2 :: r2))) s := hq
          rw [dataLt_tuple] at hq'
          obtain ⟨_, _, ez, hw⟩ := okP_tup hdd
          cases ez
          cases ra with
          | @tuple l o xs n _ _ h1 h2 h3 h4 =>
            cases rb with
            | @tuple l' o' xs' n' _ _ k1 k2 k3 k4 =>
              have n1 : xs.size = (x1 :: r1).length := by simpa using SeqAt.ReadsAll.length _ _ _ h4
              have n2 : xs'.size = (x2 :: r2).length := by simpa using SeqAt.ReadsAll.length _ _ _ k4
              refine kat_lt h1 h3 k1 k3 (katLexW (x1 :: r1) (x2 :: r2) 0 _ _ _ _ h4 k4 hw (by have q := SeqAt.room_in hroom; omega) (fun hb _ x r t ex => ?_) (by rw [n1, n2]) hq')
              obtain ⟨rfl, rfl⟩ := List.cons.inj ex
              rw [← dataType_alike hx1] at hb
              exact dataType_tuple hb t
        · obtain ⟨fs, t1, t2, t3⟩ := each_katTups e alltup
          refine kat_kind (T := dataType x₀) t1 (by omega) (fun f hf => ?_) (beq_self_eq_true _) hq
          obtain ⟨x, r, as, m1, m2⟩ := t3 f hf
          obtain ⟨x', r', ez, ha⟩ := all _ m1
          cases ez
          rw [← dataType_alike ha]
          exact looks_reads m2
      · have hn0 : ∀ xs, d₀ ≠ .tuple xs := fun xs z => by
          subst z
          cases xs with
          | nil => unfold okP at self0; simp at self0
          | cons x r => exact ht ⟨x, r, rfl⟩
        have hn : ∀ d ∈ d₀ :: ds₀, d ≠ .none ∧ (∀ xs, d ≠ .tuple xs) := fun d hd => by
          obtain ⟨_, h2, _⟩ := okP_other (hal d₀ (List.mem_cons_self ..) d hd) hn0
          obtain ⟨h1, _, _⟩ := okP_other (hal d hd d hd) h2
          exact ⟨h1, h2⟩
        refine ⟨oneType', ?_, fun h2 E Q hq => ?_⟩
        · intro E x y a b Q ha hb hq
          obtain ⟨d, as, hd, ra, rfl⟩ := dataKind_inv ha
          obtain ⟨d', as', hd', rb, rfl⟩ := dataKind_inv hb
          rw [keyLt'_oneType]
          exact oneLt_alike (fun _ => (hn d hd).2) ra rb (okP_other (hal d hd d' hd') (hn d hd).2).2.2 (hn d hd).1 (room hd) hq
        · refine kas_kind (T := dataType d₀) h2 (fun v hv => ?_) (dataType_other hn0) (beq_self_eq_true _) hq
          obtain ⟨d, hd, as, r⟩ := e.left v hv
          rw [← dataType_alike (okP_other (hal d hd d₀ (List.mem_cons_self ..)) (hn d hd).2).2.2]
          exact looks_reads r
end
end L4

/-! sorted(..) as a function on data -/
namespace L4
open PySem PySem.Spec PyProof.Rows PySem.W L2
section
variable {α : Type} {le : α → α → Bool}
def ins1 (le : α → α → Bool) (a : α) : List α → List α
  | [] => [a]
  | b :: l => if le a b then a :: b :: l else b :: ins1 le a l
def isort (le : α → α → Bool) : List α → List α
  | [] => []
  | a :: l => ins1 le a (isort le l)
theorem ins1_mem {a c : α} : ∀ {l : List α}, c ∈ ins1 le a l → c = a ∨ c ∈ l
  | [], h => .inl (List.mem_singleton.mp h)
  | b :: l, h => by
    unfold ins1 at h
    split at h
    · rcases List.mem_cons.mp h with h | h
      · exact .inl h
      · exact .inr h
    · rcases List.mem_cons.mp h with h | h
      · exact .inr (by rw [h]; exact List.mem_cons_self ..)
      · rcases ins1_mem h with h | h
        · exact .inl h
        · exact .inr (List.mem_cons_of_mem _ h)
theorem ins1_pw (h : TotalLe le) {a : α} : ∀ {l : List α}, l.Pairwise (fun a b => le a b = true) → (ins1 le a l).Pairwise (fun a b => le a b = true)
  | [], _ => by unfold ins1; simp
  | b :: l, hp => by
    obtain ⟨h1, h2⟩ := List.pairwise_cons.mp hp
    unfold ins1
    split
    · next hab =>
      refine List.pairwise_cons.mpr ⟨fun c hc => ?_, hp⟩
      rcases List.mem_cons.mp hc with rfl | hc
      · exact hab
      · exact h.trans _ _ _ hab (h1 c hc)
    · next hab =>
      refine List.pairwise_cons.mpr ⟨fun c hc => ?_, ins1_pw h h2⟩
      rcases ins1_mem hc with rfl | hc
      · rcases h.total c b with z | z
        · exact absurd z hab
        · exact z
      · exact h1 c hc
theorem ins1_rank (h : TotalLe le) {a c : α} : ∀ {l : List α}, (ins1 le a l).filter (sameRank le c) = (a :: l).filter (sameRank le c)
  | [] => rfl
  | b :: l => by
    unfold ins1
    split
    · rfl
    · next hab =>
      rw [List.filter_cons, ins1_rank h]
      by_cases hb : sameRank le c b = true
      · by_cases ha : sameRank le c a = true
        · obtain ⟨h1, h2⟩ := and2 ha
          obtain ⟨h3, h4⟩ := and2 hb
          exact absurd (h.trans _ _ _ h2 h3) hab
        · simp [List.filter_cons, ha, hb]
      · simp [List.filter_cons, hb]
theorem isort_eq (h : TotalLe le) (l : List α) : isort le l = l.mergeSort le := by
  refine sort_unique h ?_ ?_
  · induction l with
    | nil => exact List.Pairwise.nil
    | cons a l ih => exact ins1_pw h ih
  · intro c
    induction l with
    | nil => rfl
    | cons a l ih =>
      show (ins1 le a (isort le l)).filter _ = _
      rw [ins1_rank h, List.filter_cons, ih, List.filter_cons]
end
/-- the rows of signs by which data are sorted -/
abbrev Sgn := List (Int ⊕ List Nat)
def sgnLe (a b : Sgn) : Bool := !PyProof.Rows.lexLt itemOrd b a
theorem dataLe_total {β : Type} (k : β → PyData) : TotalLe (dataLe false k) := sortLe_total _ _ _
section
variable {prog : Program} {w : World} {A : Around} {E : Value → Shared → Prop} {s : Shared}
theorem sorted_any {v : Value} {β : Type} {R : Value → β → Prop} {enc : β → PyData} {vs : List Value} {bs : List β} {Q : Value → Shared → Prop} (ha : argsOk "sorted" ⟨[v], []⟩)
    (hcol : ∀ {Q' : List Value → Shared → Prop} {E' : Value → Shared → Prop}, (∀ (h' : Heap) (tk : Nat), (∀ b o, s.heap.get? b = some o → h'.get? b = some o) → Q' vs { s with heap := h', toks := tk }) → wpAny (model prog w) A.in1 (collect v) Q' E' s)
    (e : EachIs R vs bs) (er : EachIs (fun v b => ∃ as, Reads s.heap v (enc b) as) vs bs) (hal : ∀ a ∈ bs, ∀ b ∈ bs, okP (enc a) (enc b) = true) (hL : bs.length ≤ sizeLine) (hu : ∀ b, b ∈ bs → A.units + 2 + (enc b).depth < cLine)
    (h : ∀ (out : List Value) (h1 h2 : Heap) (c tk : Nat), out.length = bs.length → EachIs R out (bs.mergeSort (dataLe false enc)) → (∀ b o, s.heap.get? b = some o → h1.get? b = some o) → (∀ b o, h1.get? b = some o → h2.get? b = some o) → h2.get? h1.objs.size = some (seqObj "list" out.toArray c) → Q (.ref h1.objs.size) { s with heap := h2, toks := tk }) :
    wpAny (model prog w) A (call (.builtin "sorted") [v]) Q E s := by
  have hl : vs.length = bs.length := e.length
  refine Calls.call_function_entry PyProof.Rows.kind_sorted PyProof.Rows.plain_sorted PyProof.Rows.entry_sorted ha ?_
  unfold Builtin.«sorted»
  refine wpAny_bind (m := checkCount "sorted" 1 1 _) (wpAny_pure ?_)
  refine wpAny_bind (hcol fun h1 tk hk => ?_)
  refine wpAny_bind (wpAny_newList ?_ (by rw [hl]; exact hL))
  have hoL : (h1.push (seqObj "list" vs.toArray 0)).get? h1.objs.size = some (seqObj "list" vs.toArray 0) := Heap.get?_push_size _ rfl
  show wpAny _ _ _ _ _ { s with heap := h1.push (seqObj "list" vs.toArray 0), toks := tk }
  have er' : EachIs (fun v b => ∃ as, Reads (sortingHeap (h1.push (seqObj "list" vs.toArray 0)) h1.objs.size vs) v (enc b) as) vs bs := er.mono fun _ _ ⟨as, r⟩ => ⟨as, PyProof.Rows.Reads.keeps (fun b o q => sortingHeap_old (Nat.ne_of_lt (Heap.lt_size (hk b o q))) (Heap.get?_push_of_some _ (hk b o q))) r⟩
  have hal' : ∀ d ∈ bs.map enc, ∀ d' ∈ bs.map enc, okP d d' = true := fun d hd d' hd' => by
    obtain ⟨a, ha, rfl⟩ := List.mem_map.mp hd
    obtain ⟨b, hb, rfl⟩ := List.mem_map.mp hd'
    exact hal a ha b hb
  have S : SortsAt prog w A.in1.in1 { s with heap := sortingHeap (h1.push (seqObj "list" vs.toArray 0)) h1.objs.size vs, toks := tk } (dataKind (sortingHeap (h1.push (seqObj "list" vs.toArray 0)) h1.objs.size vs) (bs.map enc)) vs :=
    sortsW (s := { s with heap := sortingHeap (h1.push (seqObj "list" vs.toArray 0)) h1.objs.size vs, toks := tk }) (each_map (R := fun v d => ∃ as, Reads (sortingHeap (h1.push (seqObj "list" vs.toArray 0)) h1.objs.size vs) v d as) enc er') hal' (fun d hd => by
      obtain ⟨b, hb, rfl⟩ := List.mem_map.mp hd
      exact hu b hb)
  refine wpAny_bind (wpAny_holding (wpAny_call_entry PyProof.Rows.slot_list_sort ⟨_, hoL, rfl⟩ PyProof.Rows.entry_list_sort (list_sort_vals (s := { s with heap := h1.push (seqObj "list" vs.toArray 0), toks := tk }) hoL S (by rw [hl]; exact hL) ⟨_, rfl, ?_⟩) (PyProof.Rows.args_list_sort _)))
  have hk2 : EachIs (fun v b => (dataKind (sortingHeap (h1.push (seqObj "list" vs.toArray 0)) h1.objs.size vs) (bs.map enc)).keyOf v = some (keyToks (enc b))) vs bs := (each_mem er').mono fun v b ⟨⟨as, r⟩, hb⟩ => kind_some hal' (List.mem_map_of_mem hb) r
  have hout := sortVals_each (rev := false) (κ := dataKind (sortingHeap (h1.push (seqObj "list" vs.toArray 0)) h1.objs.size vs) (bs.map enc)) (fun b => keyToks (enc b)) e hk2
  obtain ⟨c, hc⟩ := PyProof.Rows.sortedHeap_at (vs := vs) (out := (sortVals (dataKind (sortingHeap (h1.push (seqObj "list" vs.toArray 0)) h1.objs.size vs) (bs.map enc)) false vs vs).toArray) hoL
  refine wpAny_pure ⟨_, rfl, h _ h1 _ c tk (by rw [sortVals_length false rfl]; exact hl) hout hk (fun b o q => ?_) hc⟩
  have hb : b < h1.objs.size := Heap.lt_size q
  rw [PyProof.Rows.sortedHeap_old (Nat.ne_of_lt hb) (by rw [size_push']; exact Nat.lt_succ_of_lt hb)]
  exact Heap.get?_push_of_some _ q
end
section
variable {X : Cx} {g : G} {T T' : Tk} {H : Hp} {m : M} {Q : VK} {pos p apos : Pos} {e o : Expr} {es : List Expr} {k n : Nat} {x c nm : Str}
theorem each_vals : ∀ {xs : List V} {us : List Value} {ds : List PyData}, Vals xs us → xs.length = ds.length → EachIs (fun u (b : V × PyData) => RelV b.1 u) us (xs.zip ds)
  | _, _, [], .nil, _ => .nil
  | _, _, d :: ds, .cons r rr, h => .cons r (each_vals rr (by simpa using h))
  | _, _, _ :: _, .nil, h => by cases h
  | _, _, [], .cons _ _, h => by cases h
theorem each_read {pins : List (Addr × Obj)} {σ : L2.St} {s : Shared} (I : Inv X pins σ H s) : ∀ {xs : List V} {us : List Value} {ds : List PyData}, Vals xs us → DpAll X.K H xs ds → EachIs (fun u (b : V × PyData) => ∃ as, Reads s.heap u b.2 as) us (xs.zip ds)
  | _, _, [], .nil, _ => .nil
  | _, _, d :: ds, .cons r rr, .cons q qq => .cons (Dp.reads I _ _ _ q r) (each_read I rr qq)
theorem dp_len {K : PySem.W.Frag} : ∀ {xs : List V} {ds : List PyData}, DpAll K H xs ds → xs.length = ds.length
  | _, _, .nil => rfl
  | _, _, .cons _ r => by rw [List.length_cons, List.length_cons, dp_len r]
theorem each_out : ∀ {out : List Value} {bs : List (V × PyData)}, EachIs (fun u (b : V × PyData) => RelV b.1 u) out bs → Vals (bs.map Prod.fst) out
  | _, _, .nil => .nil
  | _, _, .cons r rr => .cons r (each_out rr)
/-- what is collected: a list's items, a dict's keys -/
inductive Col (X : Cx) (H : Hp) (a : Addr) (xs : List V) : Prop
  | lst : SqL X.K H a xs → Col X H a xs
  | dF (kvs : List (Key × V)) : Rd H a (.dK kvs) → xs = kvs.map (fun p => kV p.1) → Col X H a xs
  | dN (kvs : NV) : Rd H a (dnO (gx X) a kvs) → (∀ p ∈ kvs, NkAt X H p.2.1 p.1) → xs = kvs.map (fun p => .ref p.2.1) → Col X H a xs
def rSortW (X : Cx) : List V → Hp → VK → Prop := fun vs H Q => ∃ a xs ds, vs = [.ref a] ∧ Col X H a xs ∧ DpAll X.K H xs ds ∧ (∀ a ∈ xs.zip ds, ∀ b ∈ xs.zip ds, okP a.2 b.2 = true) ∧ (∀ d ∈ ds, d.depth ≤ 60) ∧ xs.length ≤ sizeLine ∧
  ∀ p, H p = none → Q (.ref p) (upd H p (.lst (((xs.zip ds).mergeSort (dataLe false Prod.snd)).map Prod.fst)))
theorem nkeys_rel : ∀ {kvs : NV} {xs : List (NestedKey × Addr × Value)}, Paired NP kvs xs → Vals (kvs.map fun p => V.ref p.2.1) (xs.map fun q => Value.ref q.2.1)
  | _, _, .nil => .nil
  | _, _, .cons h t => .cons (by have e := h.2.1; show RelV (V.ref _) (Value.ref _); rw [e]; rfl) (nkeys_rel t)
theorem raw_collect {prog : Program} {w : World} {A : Around} {s : Shared} {a : Addr} {es : Array DictEntry} {ep : Nat} (lo : (a == sysModules) = false) (hh : A.handled = none) (hr : s.heap.DictRaw a es ep) (hz : es.size ≤ sizeLine) {Q' : List Value → Shared → Prop} {E' : Value → Shared → Prop}
    (k : ∀ (h' : Heap) (tk : Nat), (∀ b o, s.heap.get? b = some o → h'.get? b = some o) → Q' (es.toList.map (·.key)) { s with heap := h', toks := tk }) : wpAny (model prog w) A (collect (.ref a)) Q' E' s := by
  refine PySem.W.kdu_collect (KdlSrc.rawDict (es := es) (ep := ep) lo) hh hr hz fun h' tk acc hk hacc => ?_
  have e : acc.toList = es.toList.map (·.key) := by
    apply List.ext_getElem?
    intro i
    rw [Array.getElem?_toList, List.getElem?_map, Array.getElem?_toList]
    rcases Nat.lt_or_ge i acc.size with hi | hi
    · have h1 : acc[i]? = some acc[i] := Array.getElem?_eq_getElem hi
      obtain ⟨h2, h3⟩ := hacc.2 i _ h1
      rw [h1, Array.getElem?_eq_getElem h2, h3]
      rfl
    · rw [Array.getElem?_eq_none hi, Array.getElem?_eq_none (by have := hacc.1; omega)]
      rfl
  rw [e]
  exact k h' tk hk
theorem col_ok {pins : List (Addr × Obj)} {σ : L2.St} {s : Shared} {a : Addr} {xs : List V} (hc : X.calm = true) (I : Inv X pins σ H s) (c : Col X H a xs) (hz : xs.length ≤ sizeLine) : ∃ us, Vals xs us ∧ ∀ {Q' : List Value → Shared → Prop} {E' : Value → Shared → Prop}, (∀ (h' : Heap) (tk : Nat), (∀ b o, s.heap.get? b = some o → h'.get? b = some o) → Q' us { s with heap := h', toks := tk }) → wpAny (model X.prog X.w) X.A.in1 (collect (.ref a)) Q' E' s := by
  cases c with
  | lst h =>
    obtain ⟨its, rv, p, _⟩ := I.list h
    refine ⟨its, rv, fun k => ?_⟩
    refine collect_list p.isList (k _ s.toks fun b o q => ?_) (by rw [← rv.length]; exact hz)
    have hb : b < s.heap.objs.size := Heap.lt_size q
    rw [Heap.get?_update_ne _ _ _ _ (Nat.ne_of_lt hb)]
    exact Heap.get?_push_of_some _ q
  | dF kvs h ex =>
    subst ex
    obtain ⟨_, lo, vs, rel, dd⟩ := dk_rd I.hok h
    obtain ⟨es, ep, hr, h2, h3⟩ := dd.raw
    have hl : es.toList.length = vs.length := by rw [Array.length_toList]; exact h2
    have hrel : Vals (vs.map fun p => kV p.1) (es.toList.map (·.key)) := keys_at (by rw [List.length_map]; exact hl) fun j v e => by
      rw [List.getElem?_map] at e
      obtain ⟨en, e1, rfl⟩ := Option.map_eq_some_iff.mp e
      have hj : j < es.size := by
        have := (List.getElem?_eq_some_iff.mp e1).1
        simpa using this
      have hv : j < vs.length := by omega
      have een : en = es[j] := by
        have := (List.getElem?_eq_some_iff.mp e1).2
        simpa using this.symm
      obtain ⟨h4, h5⟩ := h3 j hj vs[j].1 vs[j].2 (List.getElem?_eq_getElem hv)
      exact ⟨vs[j].1, vs[j].2, List.getElem?_eq_getElem hv, by rw [een]; exact h4⟩
    have ek : kvs.map (fun p => kV p.1) = vs.map fun p => kV p.1 := by
      have := congrArg (List.map kV) rel.keys
      simpa [List.map_map, Function.comp_def] using this
    rw [ek] at hz ⊢
    refine ⟨_, hrel, fun k => raw_collect (A := X.A.in1) lo (I.ok.hd hc) hr (by rw [h2]; simpa using hz) k⟩
  | dN kvs h hk ex =>
    subst ex
    obtain ⟨_, lo, xs, pr, hm⟩ := dn_rd0 I h hk
    obtain ⟨ob, es, ep, h1, h2, h3, h4, _, _⟩ := hm
    have e : es.toList.map (·.key) = xs.map fun q => Value.ref q.2.1 := by
      rw [h4, List.map_map]
      rfl
    have hl : es.size = kvs.length := by
      have := congrArg List.length h4
      rw [Array.length_toList, List.length_map] at this
      rw [this, Paired.length pr]
    refine ⟨_, nkeys_rel pr, fun k => raw_collect (A := X.A.in1) lo (I.ok.hd hc) ⟨ob, h1, h2, h3⟩ (by rw [hl]; simpa using hz) fun h' tk q => ?_⟩
    rw [e]
    exact k h' tk q
theorem cr_sortW (hc : X.calm = true) {k : Nat} (gd : Gd k X) : CallR X (.builtin "sorted") (rSortW X) := by
  intro pins s σ H vs us Q I r h
  obtain ⟨a, xs, ds, rfl, col, dp, hok, hdep, hz, q⟩ := h
  obtain ⟨u, eu, rx⟩ := vals1 r
  subst eu
  cases rx
  obtain ⟨us, rv, hcol⟩ := col_ok hc I col hz
  have hl := dp_len dp
  have hu := gd.u64
  refine sorted_any (PyProof.Rows.args_sorted1 _) (fun k => hcol k) (each_vals rv hl) (each_read I rv dp) (enc := Prod.snd) hok (by rw [List.length_zip, ← hl, Nat.min_self]; exact hz) (fun b hb => ?_) fun out h1 h2 c tk ho he k1 k2 hg => ?_
  · have := hdep b.2 (List.of_mem_zip hb).2
    omega
  · have I1 : Inv X pins σ H { s with heap := h1, toks := tk } := I.kept k1
    have rl := each_out he
    refine ⟨.ref h1.objs.size, _, I1.laid (a := h1.objs.size) (o := .lst (((xs.zip ds).mergeSort (dataLe false Prod.snd)).map Prod.fst)) (h' := h2) (t' := tk) k2 (Nat.le_refl _) ⟨?_, out, c, rl, hg⟩, rfl, q _ (I1.hok.fresh (Nat.le_refl _))⟩
    rw [rl.length, ho, List.length_zip, ← hl, Nat.min_self]
    exact hz
/-! on plain data -/
def allPairs {α : Type} (p : α → α → Bool) (l : List α) : Bool := l.all fun a => l.all fun b => p a b
def sortL (ds : List D) : Option (List D) := match pdL ds with
  | some ps => if allPairs okP ps && (ps.all fun p => decide (p.depth ≤ 60)) && decide (ds.length ≤ sizeLine) then some ((isort (fun (a b : Sgn × D) => sgnLe a.1 b.1) ((ps.map keyToks).zip ds)).map Prod.snd) else none
  | none => none
def colD (m : M) (x : D) : Option (List D) := match dicOf m x with
  | some (ks, _) => some ks
  | none => lstR m x
def sortedD (nw : Bool) (a : EF) : EF := fun ρ m => bd (a ρ m) fun x m1 => match (colD m1 x).bind sortL with
  | some ys => some (bif nw then (.ref m1.length, m1 ++ [.lst ys]) else (.lst ys, m1))
  | none => none
theorem zip3 {α γ δ : Type} (f : γ → δ) (le : δ → δ → Bool) (as : List α) (cs : List γ) : isort (fun (a b : δ × α) => le a.1 b.1) ((cs.map f).zip as) = ((isort (fun (a b : α × γ) => le (f a.2) (f b.2)) (as.zip cs)).map fun q => (f q.2, q.1)) := by
  have hins : ∀ (a : α) (c : γ) (l : List (α × γ)), ins1 (fun (a b : δ × α) => le a.1 b.1) (f c, a) (l.map fun q => (f q.2, q.1)) = (ins1 (fun (a b : α × γ) => le (f a.2) (f b.2)) (a, c) l).map fun q => (f q.2, q.1) := by
    intro a c l
    induction l with
    | nil => rfl
    | cons b l ih =>
      simp only [List.map_cons, ins1]
      split
      · rfl
      · rw [ih]; rfl
  induction as generalizing cs with
  | nil => cases cs <;> rfl
  | cons a as ih =>
    cases cs with
    | nil => rfl
    | cons c cs =>
      show ins1 _ (f c, a) (isort _ ((cs.map f).zip as)) = (ins1 _ (a, c) (isort _ (as.zip cs))).map _
      rw [ih, hins]
theorem isort_mem {α : Type} {le : α → α → Bool} {c : α} : ∀ {l : List α}, c ∈ isort le l → c ∈ l
  | [], h => h
  | a :: l, h => by
    rcases ins1_mem (show c ∈ ins1 le a (isort le l) from h) with rfl | h
    · exact List.mem_cons_self ..
    · exact List.mem_cons_of_mem _ (isort_mem h)
theorem sort_rep {ds : List D} {xs : List V} {ps : List PyData} (r : RepL g T H ds xs) : RepL g T H ((isort (fun (a b : D × PyData) => sgnLe (keyToks a.2) (keyToks b.2)) (ds.zip ps)).map Prod.fst) ((isort (fun (a b : V × PyData) => sgnLe (keyToks a.2) (keyToks b.2)) (xs.zip ps)).map Prod.fst) := by
  have hins : ∀ (d : D) (x : V) (p : PyData) (l : List (D × PyData)) (k : List (V × PyData)), Rep g T H d x → l.map Prod.snd = k.map Prod.snd → RepL g T H (l.map Prod.fst) (k.map Prod.fst) →
      (ins1 (fun (a b : D × PyData) => sgnLe (keyToks a.2) (keyToks b.2)) (d, p) l).map Prod.snd = (ins1 (fun (a b : V × PyData) => sgnLe (keyToks a.2) (keyToks b.2)) (x, p) k).map Prod.snd ∧
      RepL g T H ((ins1 (fun (a b : D × PyData) => sgnLe (keyToks a.2) (keyToks b.2)) (d, p) l).map Prod.fst) ((ins1 (fun (a b : V × PyData) => sgnLe (keyToks a.2) (keyToks b.2)) (x, p) k).map Prod.fst) := by
    intro d x p l
    induction l with
    | nil => intro k rd e rl; cases k with
      | nil => exact ⟨rfl, .cons rd .nil⟩
      | cons _ _ => cases e
    | cons a l ih => intro k rd e rl; cases k with
      | nil => cases e
      | cons b k =>
        have e1 : a.2 = b.2 := (List.cons.inj e).1
        have e2 := (List.cons.inj e).2
        cases rl with
        | cons r1 r2 =>
          unfold ins1
          dsimp only
          rw [e1]
          split
          · exact ⟨by simp [e1, e2], .cons rd (.cons r1 r2)⟩
          · obtain ⟨h1, h2⟩ := ih k rd e2 r2
            exact ⟨by simp [e1, h1], .cons r1 h2⟩
  have main : ∀ {ds : List D} {xs : List V} {ps : List PyData}, RepL g T H ds xs → (isort (fun (a b : D × PyData) => sgnLe (keyToks a.2) (keyToks b.2)) (ds.zip ps)).map Prod.snd = (isort (fun (a b : V × PyData) => sgnLe (keyToks a.2) (keyToks b.2)) (xs.zip ps)).map Prod.snd ∧ RepL g T H ((isort (fun (a b : D × PyData) => sgnLe (keyToks a.2) (keyToks b.2)) (ds.zip ps)).map Prod.fst) ((isort (fun (a b : V × PyData) => sgnLe (keyToks a.2) (keyToks b.2)) (xs.zip ps)).map Prod.fst) := by
    intro ds
    induction ds with
    | nil => intro xs ps r; cases r; exact ⟨rfl, .nil⟩
    | cons d ds ih => intro xs ps r; cases r with
      | cons r1 r2 => cases ps with
        | nil => exact ⟨rfl, .nil⟩
        | cons p ps =>
          obtain ⟨h1, h2⟩ := ih (ps := ps) r2
          exact hins d _ p _ _ r1 h1 h2
  exact (main r).2
theorem col_rep {d : D} {v : V} {ks : List D} (hm : RepH (gx X) T H m) (r : Rep (gx X) T H d v) (h : colD m d = some ks) : ∃ a xs, v = .ref a ∧ Col X H a xs ∧ RepL (gx X) T H ks xs := by
  unfold colD at h
  split at h
  · next ks' vs' hd =>
    cases h
    obtain ⟨a, rfl, dr⟩ := dic_rep hm r hd
    cases dr with
    | flat h1 r1 _ => exact ⟨a, _, rfl, .dF _ h1 rfl, r1⟩
    | nest h1 e1 r1 _ => exact ⟨a, _, rfl, .dN _ h1 (nkAts e1.1 r1) rfl, r1⟩
  · obtain ⟨a, vs, rfl, h1, r1⟩ := lstR_rep hm r h
    exact ⟨a, vs, rfl, .lst h1, r1⟩
theorem de_sorted {nw : Bool} {f : EF} {k : Nat} (gd : Gd k X) (hc : X.calm = true) (hg : Gl X "sorted") (hm : X.mg "sorted" = none) (ha : DE X e f) (he : starEach [e] X.env = (false, eval e X.env) :: starEach [] X.env := by rfl) : DE X (.Call (.Name "sorted" p) [e] [] pos) (sortedD nw f) := by
  obtain ⟨t, pt, rt⟩ := ha.ex
  refine ⟨_, pe_callB (cr_sortW hc gd) hg hm (by decide +kernel) (pa_cons pt pa_nil he) (he := he), fun T σ H ρ m d m' hm hs hf Q k => ?_⟩
  obtain ⟨x, m1, e1, hf⟩ := bd_some hf
  split at hf
  · next ys hy =>
    have hf := Option.some.inj hf
    obtain ⟨ds, h1, h2⟩ := Option.bind_eq_some_iff.mp hy
    refine rt T σ H ρ m x m1 hm hs e1 _ fun v T1 H1 l1 hm1 r1 => ?_
    obtain ⟨a, xs, rfl, col, rl⟩ := col_rep hm1 r1 h1
    unfold sortL at h2
    split at h2
    · next ps hps =>
      obtain ⟨hg, h2⟩ := ite_some h2
      cases h2
      obtain ⟨hg, hz⟩ := and2 hg
      obtain ⟨hok, hdep⟩ := and2 hg
      have hz : ds.length ≤ sizeLine := of_decide_eq_true hz
      have dp := pdL_rep ds hps rl
      refine ⟨a, xs, ps, rfl, col, dp, fun a ha b hb => ?_, fun p hp => of_decide_eq_true (List.all_eq_true.mp hdep p hp), by rw [← rl.length]; exact hz, fun q hq => ?_⟩
      · exact List.all_eq_true.mp (List.all_eq_true.mp hok a.2 (List.of_mem_zip ha).2) b.2 (List.of_mem_zip hb).2
      · have ez := zip3 keyToks sgnLe ds ps
        rw [ez] at hf
        have e3 : (((isort (fun (a b : D × PyData) => sgnLe (keyToks a.2) (keyToks b.2)) (ds.zip ps)).map (fun q => (keyToks q.2, q.1))).map Prod.snd) = (isort (fun (a b : D × PyData) => sgnLe (keyToks a.2) (keyToks b.2)) (ds.zip ps)).map Prod.fst := by
          rw [List.map_map]; rfl
        rw [e3] at hf
        have rs := sort_rep (ps := ps) rl
        have e4 : (isort (fun (a b : V × PyData) => sgnLe (keyToks a.2) (keyToks b.2)) (xs.zip ps)) = (xs.zip ps).mergeSort (dataLe false Prod.snd) := isort_eq (dataLe_total Prod.snd) _
        rw [e4] at rs
        cases nw with
        | false =>
          cases hf
          exact KV.lst (k.le l1) hm1 rs q hq
        | true =>
          cases hf
          exact KV.newL (k.le l1) hm1 rs q hq
    · cases h2
  · cases hf
end
end L4

/-! more of what is called -/
namespace L4
open PySem PySem.Spec PyProof.Rows PySem.W L2
section
variable {X : Cx} {g : G} {T T' : Tk} {H : Hp} {m : M} {Q : VK} {pos p apos : Pos} {e o : Expr} {es : List Expr} {k n : Nat} {x c nm : Str}
/-! range downwards -/
def rngC (lo c : Int) (n : Nat) : List D := (List.range n).map fun (i : Nat) => .int (lo + i * c)
def iR3 (a : AF) : AF := fun ρ m => bd (a ρ m) fun xs m1 => match xs with
  | [.int i, .int j, .int c] => if c = -1 ∧ -(2 ^ 62) ≤ i ∧ i < 2 ^ 62 ∧ -(2 ^ 62) ≤ j ∧ j < 2 ^ 62 then some (rngC i c (i - j).toNat, m1) else none
  | _ => none
theorem itok_C {lo c : Int} {n : Nat} : ItOk g T H (Itc lo c n) (rngC lo c n) := by
  intro T1 H1 l m1 hm1 i
  refine ⟨fun d hd => ?_, fun hl => ?_⟩
  · unfold rngC at hd
    rw [List.getElem?_map] at hd
    obtain ⟨j, hj, rfl⟩ := Option.map_eq_some_iff.mp hd
    obtain ⟨h1, h2⟩ := List.getElem?_eq_some_iff.mp hj
    have : j = i := by simpa using h2.symm
    subst this
    refine ⟨show j < n by simpa using h1, fun x H2 ⟨e, hx⟩ => ?_⟩
    subst e hx
    exact ⟨T1, .refl, hm1, .int _⟩
  · show n ≤ i
    unfold rngC at hl
    simp at hl
    omega
theorem di_range3 {tg a b c : Expr} {f : AF} (hg : Gl X "range") (hm : X.mg "range" = none) (ha : DA X [a, b, c] f) (hs : starEach [a, b, c] X.env = (false, eval a X.env) :: starEach [b, c] X.env := by rfl) (hpl : (backTo pos (starEach [b, c] X.env)).any (·.1) = false := by rfl) : DI X tg (.Call (.Name "range" p) [a, b, c] [] pos) (iR3 f) := by
  obtain ⟨t, pa, r⟩ := ha.ex
  refine ⟨_, pi_range3 hg hm pa hs hpl, fun T σ H ρ m ds m' hm hs hf R k => ?_⟩
  obtain ⟨x, m1, e1, hf⟩ := bd_some hf
  refine r T σ H ρ m x _ hm hs e1 _ fun v T1 H1 l1 hm1 r1 => ?_
  split at hf
  · obtain ⟨⟨h0, h1, h2, h3, h4⟩, hf⟩ := ite_some hf
    cases hf
    subst h0
    cases r1 with
    | cons a b => cases a; cases b with
      | cons a b => cases a; cases b with
        | cons a b => cases a; cases b; exact ⟨_, _, _, _, rfl, RgC.neg h1 h2 h3 h4, k _ T1 H1 l1 hm1 itok_C⟩
  · cases hf
/-! xs[::-1] -/
def eRev (nw : Bool) (a : EF) : EF := fun ρ m => bd (a ρ m) fun x m1 => match lstR m1 x with
  | some ds => some (bif nw then (.ref m1.length, m1 ++ [.lst ds.reverse]) else (.lst ds.reverse, m1))
  | none => none
theorem RepL.rev {ds : List D} {vs : List V} (r : RepL g T H ds vs) : RepL g T H ds.reverse vs.reverse := by
  induction ds generalizing vs with
  | nil => cases r; exact .nil
  | cons d ds ih => cases r with
    | cons r1 r2 => rw [List.reverse_cons, List.reverse_cons]; exact (ih r2).append (.cons r1 .nil)
theorem de_rev {nw : Bool} {f : EF} {kk : Nat} {p1 p2 p3 : Pos} (h : DE X e f) : DE X (.Subscript e (.Slice none none (some (.UnaryOp .USub (.Constant (.int 1) kk p1) p2)) p3) pos) (eRev nw f) := by
  obtain ⟨t, pt, rt⟩ := h.ex
  refine ⟨_, pe_revL pt, fun T σ H ρ m d m' hm hs hf Q k => ?_⟩
  obtain ⟨x, m1, e1, hf⟩ := bd_some hf
  refine rt T σ H ρ m x m1 hm hs e1 _ fun v T1 H1 l1 hm1 r1 => ?_
  split at hf
  · next ds hl =>
    have hf := Option.some.inj hf
    obtain ⟨a, xs, rfl, hq, rl⟩ := lstR_rep hm1 r1 hl
    refine ⟨a, xs, rfl, hq, fun q hq => ?_⟩
    cases nw with
    | false =>
      cases hf
      exact KV.lst (k.le l1) hm1 rl.rev q hq
    | true =>
      cases hf
      exact KV.newL (k.le l1) hm1 rl.rev q hq
  · cases hf
/-! sum, max of a list of whole numbers -/
def intsD : List D → Option (List Int)
  | [] => some []
  | .int i :: ds => (intsD ds).map (i :: ·)
  | _ :: _ => none
theorem ints_rep : ∀ {ds : List D} {ns : List Int} {vs : List V}, intsD ds = some ns → RepL g T H ds vs → vs = ns.map V.int
  | [], _, _, h, .nil => by cases h; rfl
  | d :: ds, ns, _, h, .cons r rr => by
    cases r with
    | int i =>
      obtain ⟨js, h1, rfl⟩ := Option.map_eq_some_iff.mp h
      rw [List.map_cons, ints_rep h1 rr]
    | _ => cases h
def sumD : M → List D → Option D
  | m, [x] => ((lstR m x).bind intsD).map fun ns => .int ns.sum
  | _, _ => none
theorem call_sum' (hc : X.calm = true) : CallD X (.builtin "sum") sumD := ⟨_, cr_sum hc, fun T H m xs vs d hm r hf Q k => by
  unfold sumD at hf; split at hf
  · obtain ⟨ns, h1, rfl⟩ := Option.map_eq_some_iff.mp hf
    obtain ⟨ds, h2, h3⟩ := Option.bind_eq_some_iff.mp h1
    obtain ⟨v, rfl, q⟩ := r.one
    obtain ⟨a, ws, rfl, hx, rl⟩ := lstR_rep hm q h2
    rw [ints_rep h3 rl] at hx
    exact ⟨a, ns, rfl, hx, k.now hm (.int _)⟩
  · cases hf⟩
def maxI : Int → List Int → Int
  | a, [] => a
  | a, b :: l => maxI (if a < b then b else a) l
theorem maxI_ge : ∀ (l : List Int) (a : Int), a ≤ maxI a l ∧ ∀ y ∈ l, y ≤ maxI a l
  | [], a => ⟨Int.le_refl _, fun y hy => nomatch hy⟩
  | b :: l, a => by
    show a ≤ maxI (if a < b then b else a) l ∧ ∀ y ∈ b :: l, y ≤ maxI (if a < b then b else a) l
    by_cases hab : a < b
    · rw [if_pos hab]
      obtain ⟨h1, h2⟩ := maxI_ge l b
      refine ⟨by omega, fun y hy => ?_⟩
      rcases List.mem_cons.mp hy with rfl | hy
      · exact h1
      · exact h2 y hy
    · rw [if_neg hab]
      obtain ⟨h1, h2⟩ := maxI_ge l a
      refine ⟨h1, fun y hy => ?_⟩
      rcases List.mem_cons.mp hy with rfl | hy
      · omega
      · exact h2 y hy
theorem max_uniq {ns : List Int} {m : Int} {a : Int} {l : List Int} (e : ns = a :: l) (h1 : m ∈ ns) (h2 : ∀ y ∈ ns, y ≤ m) : m = maxI a l := by
  subst e
  obtain ⟨g1, g2⟩ := maxI_ge l a
  have mem : ∀ (l : List Int) (a : Int), maxI a l ∈ a :: l := by
    intro l
    induction l with
    | nil => intro a; simp [maxI]
    | cons b l ih =>
      intro a
      show maxI (if a < b then b else a) l ∈ _
      rcases List.mem_cons.mp (ih (if a < b then b else a)) with z | z
      · rw [z]
        split <;> simp
      · exact List.mem_cons_of_mem _ (List.mem_cons_of_mem _ z)
  have h3 := h2 _ (mem l a)
  rcases List.mem_cons.mp h1 with rfl | z
  · omega
  · have := g2 m z
    omega
def maxLD : M → List D → Option D
  | m, [x] => ((lstR m x).bind intsD).bind fun ns => match ns with
    | a :: l => some (.int (maxI a l))
    | [] => none
  | _, _ => none
theorem call_max1' (hc : X.calm = true) : CallD X (.builtin "max") maxLD := ⟨_, cr_max hc, fun T H m xs vs d hm r hf Q k => by
  unfold maxLD at hf; split at hf
  · obtain ⟨ns, h1, h4⟩ := Option.bind_eq_some_iff.mp hf
    obtain ⟨ds, h2, h3⟩ := Option.bind_eq_some_iff.mp h1
    obtain ⟨v, rfl, q⟩ := r.one
    obtain ⟨a, ws, rfl, hx, rl⟩ := lstR_rep hm q h2
    rw [ints_rep h3 rl] at hx
    cases ns with
    | nil => cases h4
    | cons b l =>
      cases h4
      refine ⟨a, b :: l, rfl, hx, Nat.succ_pos _, fun m1 g1 g2 => ?_⟩
      rw [max_uniq rfl g1 g2]
      exact k.now hm (.int _)
  · cases hf⟩
/-! xs.index(y) of a list -/
def findP (d : PyData) : List PyData → Nat → Option Nat
  | [], _ => none
  | z :: zs, i => if PyData.eqv z d then some i else findP d zs (i + 1)
theorem findP_some {d : PyData} : ∀ {zs : List PyData} {i j : Nat}, findP d zs i = some j → ∃ k z, j = i + k ∧ zs[k]? = some z ∧ PyData.eqv z d = true ∧ ∀ (m : Nat) (z' : PyData), m < k → zs[m]? = some z' → PyData.eqv z' d = false
  | [], _, _, h => by cases h
  | z :: zs, i, j, h => by
    unfold findP at h
    split at h
    · next he => cases h; exact ⟨0, z, rfl, rfl, he, fun m z' hm => absurd hm (Nat.not_lt_zero _)⟩
    · next he =>
      obtain ⟨k, z0, rfl, h1, h2, h3⟩ := findP_some h
      refine ⟨k + 1, z0, by omega, by simpa using h1, h2, fun m z' hm hz => ?_⟩
      cases m with
      | zero =>
        cases hz
        simpa using he
      | succ m => exact h3 m z' (by omega) (by simpa using hz)
def indexD (m : M) (x y : D) : Option D := match (pdM m x), (pdM m y) with
  | some (.list ps), some p => (findP p ps 0).map fun j => .int (j : Nat)
  | _, _ => none
def eIdx (a b : EF) : EF := fun ρ m => bd (a ρ m) fun x m1 => if (lstR m1 x).isSome then bd (b ρ m1) fun y m2 => pu (indexD m2 x y) m2 else none
theorem de_index {k : Nat} {fo fe : EF} (gd : Gd k X) (ho : DE X o fo) (he : DE X e fe) (hbase : attributeBase o "index" X.env (eval o X.env) = eval o X.env := by rfl)
    (hfew : ((backTo pos (starEach [e] X.env)).all (fun x => !x.1) && (backToKw pos (keywordEach [] X.env)).all (fun x => x.1.isSome)
      && decide (([e] : List Expr).length + ([] : List Keyword).length + (if ([] : List Keyword).isEmpty then 0 else 1) < 30)) = true := by rfl)
    (hline : (apos.endLine == pos.line) = true := by rfl) (hs : starEach [e] X.env = (false, eval e X.env) :: starEach [] X.env := by rfl) (hplain : (backTo pos (starEach [] X.env)).any (·.1) = false := by rfl) :
    DE X (.Call (.Attribute o "index" apos) [e] [] pos) (eIdx fo fe) := by
  obtain ⟨to, po, ro⟩ := ho.ex; obtain ⟨te, pe, re⟩ := he.ex
  refine ⟨_, pe_bm PySem.F.plainAttrs_list PySem.F.slot_list_index PySem.F.type_list_index (mt_indexD gd.u64) po (pa_cons pe pa_nil hs) hbase hfew hline hs hplain, fun T σ H ρ m d m' hm hs hf Q k => ?_⟩
  obtain ⟨x, m1, e1, hf⟩ := bd_some hf
  obtain ⟨h0, hf⟩ := ite_some hf
  obtain ⟨y, m2, e2, hf⟩ := bd_some hf
  obtain ⟨e3, em⟩ := pu_some hf
  subst em
  refine ro T σ H ρ m x m1 hm hs e1 _ fun v T1 H1 l1 hm1 r1 => ?_
  obtain ⟨ds, hds⟩ := Option.isSome_iff_exists.mp h0
  obtain ⟨a, vs, rfl, hq, rl⟩ := lstR_rep hm1 r1 hds
  refine ⟨.inl ⟨rfl, vs, hq⟩, ?_⟩
  refine re T1 σ H1 ρ m1 y _ hm1 (hs.le l1) e2 _ fun u T2 H2 l2 hm2 r2 => ?_
  unfold indexD at e3
  split at e3
  · next ps q hx hy =>
    obtain ⟨j, h1, rfl⟩ := Option.map_eq_some_iff.mp e3
    obtain ⟨k0, z, h2, h3, h4, h5⟩ := findP_some h1
    have ej : j = k0 := by omega
    subst ej
    obtain ⟨g1, g2⟩ := pdM_rep hm2 hx (r1.le l2)
    obtain ⟨g3, g4⟩ := pdM_rep hm2 hy r2
    exact ⟨a, u, q, ps, j, z, rfl, rfl, g1, g3, g2, g4, h3, h4, h5, k _ T2 H2 (l1.trans l2) hm2 (.int _)⟩
  · cases e3
/-! a call of a def that a local holds -/
def eCallG (i : Nat) (tb : List (Str × (List D → Option D))) (a : AF) : EF := fun ρ m => match ρ.getD i none with
  | some (.glo x) => match tb.lookup x with
    | some F => bd (a ρ m) fun xs m1 => pu (callP F m1 xs) m1
    | none => none
  | _ => none
inductive Tab (X : Cx) (k : Nat) : List (Str × (List D → Option D)) → Prop
  | nil : Tab X k []
  | cons {x n F tb} : PFn X.prog X.w X.K X.mg X.base k x n F → X.mg x = some (.ref (He.ga X.K x)) → Tab X k tb → Tab X k ((x, F) :: tb)
theorem Tab.get {k : Nat} {tb : List (Str × (List D → Option D))} {F : List D → Option D} (h : Tab X k tb) (e : tb.lookup x = some F) : ∃ n, PFn X.prog X.w X.K X.mg X.base k x n F ∧ X.mg x = some (.ref (He.ga X.K x)) := by
  induction h with
  | nil => cases e
  | @cons y n G tb p q t ih =>
    rw [List.lookup_cons] at e
    split at e
    · next hb =>
      cases e
      have := eq_of_beq hb
      subst this
      exact ⟨n, p, q⟩
    · exact ih e
theorem de_callG {i k : Nat} {tb : List (Str × (List D → Option D))} {f : AF} (ht : Tab X k tb) (gd : Gd k X) (hN : X.N[i]? = some x) (hv : Vis X.env.scope x) (ha : DA X (e :: es) f)
    (hdb : (x == ("__debug__" : Str)) = false := by decide) (hcd : (x == ("__classdict__" : Str)) = false := by decide)
    (he : starEach (e :: es) X.env = (false, eval e X.env) :: starEach es X.env := by rfl) (hpl : (backTo pos (starEach es X.env)).any (·.1) = false := by rfl) : DE X (.Call (.Name x p) (e :: es) [] pos) (eCallG i tb f) := by
  obtain ⟨t, pa, ra⟩ := ha.ex
  refine ⟨fun σ H Q => ∃ f r, σ[i]? = some (some (.ref f)) ∧ CallR X (.ref f) r ∧ PySem.W.keepIn X.K (.ref f) = true ∧ t σ H fun vs H1 => r vs H1 Q, ⟨fun pins s σ H Q I h => ?_⟩, fun T σ H ρ m d m' hm hs hf Q k => ?_⟩
  · obtain ⟨f, r, hs, hc, hk, ht⟩ := h
    refine wpAny_Call_Name_kw (thn ((pe_var (pos := p) hN hv hdb hcd).run pins s σ H (fun v H1 => v = .ref f ∧ H1 = H) I ⟨.ref f, hs, rfl, rfl⟩) fun u s1 ⟨v, H1, I1, r1, q1⟩ => ?_)
    obtain ⟨rfl, rfl⟩ := q1
    cases r1
    refine PySem.W.callWith_K (h₀ := X.base) I.ok.mod.kin hk (thn (pa.run pos pins s1 σ _ _ I1 ht) fun us s2 ⟨vs, H2, I2, r, q⟩ => ⟨I2.kIn, ?_⟩) he hpl
    exact hc pins s2 σ H2 vs us Q I2 r q
  · unfold eCallG at hf
    split at hf
    · next y hy =>
      split at hf
      · next F hF =>
        obtain ⟨n, pf, hmg⟩ := ht.get hF
        obtain ⟨fa, fd, ps, G, hmf, kp, b⟩ := pf.ex
        have ef : fa = He.ga X.K y := by
          rw [hmg] at hmf
          cases hmf
          rfl
        obtain ⟨v, ev, rv⟩ := hs.at_ i (.glo y) (by
          rw [List.getD_eq_getElem?_getD] at hy
          cases h : ρ[i]? with
          | none => rw [h] at hy; cases hy
          | some o => rw [h] at hy; cases hy; rfl)
        cases rv
        refine ⟨fa, _, by rw [ef]; exact ev, app_nil (r := fun _ _ _ => True) (G.call gd b .nil), kp, ?_⟩
        exact rf_call (rf_callP pf.len) ra T σ H ρ m d m' hm hs hf Q k
      · cases hf
    · cases hf
/-! xs + ys as a list that changes -/
def eCatN (a b : EF) : EF := fun ρ m => bd (a ρ m) fun x m1 => bd (b ρ m1) fun y m2 => match lstOf m2 x, lstOf m2 y with
  | some xs, some ys => if xs.length + ys.length ≤ sizeLine then some (.ref m2.length, m2 ++ [.lst (xs ++ ys)]) else none
  | _, _ => none
theorem de_catN {a b : Expr} {fa fb : EF} (ha : DE X a fa) (hb : DE X b fb) : DE X (.BinOp a .Add b pos) (eCatN fa fb) := by
  obtain ⟨ta, pa, ra⟩ := ha.ex; obtain ⟨tb, pb, rb⟩ := hb.ex
  refine ⟨_, pe_op op_cat pa pb, fun T σ H ρ m d m' hm hs hf Q k => ?_⟩
  obtain ⟨x, m1, e1, hf⟩ := bd_some hf
  obtain ⟨y, m2, e2, hf⟩ := bd_some hf
  refine ra T σ H ρ m x m1 hm hs e1 _ fun v T1 H1 l1 hm1 r1 => ?_
  refine rb T1 σ H1 ρ m1 y m2 hm1 (hs.le l1) e2 _ fun u T2 H2 l2 hm2 r2 => ?_
  split at hf
  · next xs ys h1 h2 =>
    obtain ⟨hz, hf⟩ := ite_some hf
    cases hf
    obtain ⟨p, vs, rfl, hx, q1⟩ := lst_rep hm2 (r1.le l2) h1
    obtain ⟨q, ws, rfl, hy, q2⟩ := lst_rep hm2 r2 h2
    exact ⟨p, q, vs, ws, rfl, rfl, hx, hy, by rw [← q1.length, ← q2.length]; exact hz, fun z hz => (k.le (l1.trans l2)).newL hm2 (q1.append q2) z hz⟩
  · cases hf
end
end L4

/-! xs[i] += n; a class whose last argument is () if it isn't given -/
namespace L4
open PySem PySem.Spec PyProof.Rows L2
section
variable {X : Cx} {g : G} {T T' : Tk} {H : Hp} {m : M} {Q : VK} {pos p apos : Pos} {e o : Expr} {es : List Expr} {k n : Nat} {x c nm : Str}
def rGetL : V → V → Hp → VK → Prop := fun x y H Q => ∃ a xs, ∃ (i : Nat) (v : V), x = .ref a ∧ y = .int (i : Int) ∧ H a = some (.lst xs) ∧ xs[i]? = some v ∧ Q v H
theorem get_L : PGet X rGetL := by
  intro pins s σ H x y v u Q I rx ry h
  obtain ⟨a, xs, i, w, rfl, rfl, hH, hi, q⟩ := h
  cases rx
  obtain ⟨t, rfl⟩ := ry
  obtain ⟨its, r, pl, hz⟩ := I.list (SqL.of hH)
  obtain ⟨z, ez, rz⟩ := r.get hi
  have hl := r.length
  have hn := line63
  have hlt : i < xs.length := (List.getElem?_eq_some_iff.mp hi).1
  exact wpAny_getItem_list pl.isList (by omega) (by omega) (by simpa using ez) ⟨w, H, I, rz, q⟩
def sAugL (o i v : EF) : SF := fun ρ m => bd (o ρ m) fun x m1 => bd (i ρ m1) fun y m2 => match x, y with
  | .ref n, .int k => match (m2[n]?).bind lstO with
    | some ds => if 0 ≤ k then match ds[k.toNat]? with
      | some (.int a) => bd (v ρ m2) fun z m3 => match z, (m3[n]?).bind lstO with
        | .int b, some es => if k.toNat < es.length then some (.nx ρ, m3.set n (.lst (es.set k.toNat (.int (a + b))))) else none
        | _, _ => none
      | _ => none
      else none
    | none => none
  | _, _ => none
theorem at_lstO {n : Nat} {a : Addr} {ds : List D} (hm : RepH g T H m) (ea : T.μ[n]? = some a) (h : (m[n]?).bind lstO = some ds) : m[n]? = some (.lst ds) ∧ ∃ vs, H a = some (.lst vs) ∧ RepL g T H ds vs := by
  obtain ⟨ob, h1, h2⟩ := Option.bind_eq_some_iff.mp h
  cases ob with
  | lst ds' => cases h2; exact ⟨h1, at_lst hm ea h1⟩
  | _ => cases h2
theorem ds_augL {i v : Expr} {fo fi fv : EF} {tpos : Pos} (ho : DE X o fo) (hi : DE X i fi) (hv : DE X v fv)
    (ha : ∀ ov iv new, augStore i ov iv new = (do holding [new, ov, iv] (setItem ov iv new); release [new, ov, iv] []; pure .next) := by intros; rfl) : DS X (.AugAssign (.Subscript o i tpos) .Add v pos) (sAugL fo fi fv) := by
  obtain ⟨to, po, ro⟩ := ho.ex; obtain ⟨ti, pi, ri⟩ := hi.ex; obtain ⟨tv, pv, rv⟩ := hv.ex
  refine ⟨_, ps_augS po pi get_L pv ip_add set_list ha, fun T σ H ρ m r m' hm hs hf D k => ?_⟩
  obtain ⟨x, m1, e1, hf⟩ := bd_some hf
  obtain ⟨y, m2, e2, hf⟩ := bd_some hf
  refine ro T σ H ρ m x m1 hm hs e1 _ fun xo T1 H1 l1 hm1 r1 => ?_
  refine ri T1 σ H1 ρ m1 y m2 hm1 (hs.le l1) e2 _ fun yo T2 H2 l2 hm2 r2 => ?_
  cases x with
  | ref n' => cases y with
   | int k' =>
    replace hf : (match (m2[n']?).bind lstO with
      | some ds => if 0 ≤ k' then match ds[k'.toNat]? with
        | some (.int a) => bd (fv ρ m2) fun z m3 => match z, (m3[n']?).bind lstO with
          | .int b, some es => if k'.toNat < es.length then some (Fl.nx ρ, m3.set n' (.lst (es.set k'.toNat (.int (a + b))))) else none
          | _, _ => none
        | _ => none
        else none
      | none => none) = some (r, m') := hf
    split at hf
    · next ds hds =>
      obtain ⟨h0, hf⟩ := ite_some hf
      split at hf
      · next a hda =>
        obtain ⟨z, m3, e3, hf⟩ := bd_some hf
        have r1 := r1.le l2
        cases r1 with
        | @ref _ ad ea =>
          cases r2 with
          | int _ =>
            obtain ⟨_, vs, hv1, rl⟩ := at_lstO hm2 ea hds
            obtain ⟨w, ew, qw⟩ := rl.get hda
            cases qw
            have ek : ((k'.toNat : Nat) : Int) = k' := Int.toNat_of_nonneg h0
            refine ⟨ad, vs, k'.toNat, _, rfl, by rw [ek], hv1, ew, ?_⟩
            refine rv T2 σ H2 ρ m2 z m3 hm2 ((hs.le l1).le l2) e3 _ fun zo T3 H3 l3 hm3 r3 => ?_
            split at hf
            · next b es hes =>
              obtain ⟨hlt, hf⟩ := ite_some hf
              cases hf
              cases r3
              obtain ⟨hmn, ws, hw, rl3⟩ := at_lstO hm3 (l3.get ea) hes
              refine ⟨a, b, rfl, rfl, ad, ws, k', k'.toNat, rfl, rfl, hw, ?_, ?_⟩
              · rw [← rl3.length]
                unfold L2.ixN
                rw [if_pos h0, if_pos (by omega)]
              · have q := hm3.put (n := n') (a := ad) (u := .lst (ws.set k'.toNat (.int (a + b)))) (o := .lst (es.set k'.toNat (.int (a + b)))) (l3.get ea) fun l => .lst upd_same ((rl3.setAt (.int _)).le l)
                exact k _ T3 _ (l1.trans (l2.trans (l3.trans q.1))) q.2 ((((hs.le l1).le l2).le l3).le q.1)
            · cases hf
      · cases hf
    · cases hf
   | _ => cases hf
  | _ => cases hf
/-! C(..) with the default -/
theorem FnG.makeD {C f a : Addr} {fd : FuncData} {ps : List Str} {sp : Sp} {ds : List Value} (Mk : Mk X.K C f) (F : FnG X.prog X.w X.K X.mg X.base CX0 k f fd ps sp) (gd : Gd (k + 1) X) (hb : Binds X.K fd ps ds) (hd : Vals [.ref a] ds) :
    CallR X (.ref C) fun vs H Q => ∀ x dx, H x = none → H dx = none → dx ≠ x → sp (.ref x :: (vs ++ [.ref a])) (upd (upd H dx (.own x)) x (.ins C dx [])) (fun v H2 => v = .non ∧ Q (.ref x) H2) E0 := by
  intro pins s σ H vs us Q I r h
  have hq := h (s.heap.objs.size + 1) s.heap.objs.size (I.hok.fresh (Nat.le_succ _)) (I.hok.fresh (Nat.le_refl _)) (Nat.ne_of_lt (Nat.lt_succ_self _))
  have I2 := Inv.made (C := C) I
  have r2 : Vals (V.ref (s.heap.objs.size + 1) :: (vs ++ [.ref a])) (Value.ref (s.heap.objs.size + 1) :: (us ++ ds)) := .cons rfl (r.append hd)
  have hl : (Value.ref (s.heap.objs.size + 1) :: us ++ ds).length = ps.length := by
    rw [List.cons_append, ← r2.length]
    exact F.len _ _ _ _ hq
  have hg : (X.A.under (.builtin "type.__call__" ⟨.ref C :: us, []⟩)).guards = some [] := by
    have := gd.g
    have e : (Code.builtin "type.__call__" ⟨.ref C :: us, []⟩).guards = [] := by simp [Code.guards, Code.isGuard, guardIds]
    simp [Around.under, e, pushGuards, this]
  have b := hb _ (Value.ref (s.heap.objs.size + 1) :: us) I2.kIn hl
  rw [List.cons_append] at b
  refine wpAny_call (make_map (f := f) I.kIn Mk.makes Mk.init (beq_iff_eq.mp Mk.fn) (codeAny_mono (F.run _ X.stack _ _ _ _ _ _ E0 hg (gd.r.make C us []) (I2.env0.make C us []) b r2 hq) fun res s' hres => ?_))
  match res, hres with
  | .error _, z => exact z.elim
  | .ok (.ret u), z =>
    obtain ⟨v, H', I3, rv, ev, q3⟩ := I2.after z
    cases ev
    exact ⟨rv, V.ref (s.heap.objs.size + 1), H', I3, rfl, q3⟩
theorem de_newPD {F : List D → M → Option (D × M)} {f : AF} (hF : MNd X.prog X.w X.K X.mg X.base k c n F) (gd : Gd (k + 1) X) (hg : Gl X c) (ha : DA X (e :: es) f) (hdb : (c == ("__debug__" : Str)) = false := by decide)
    (he : starEach (e :: es) X.env = (false, eval e X.env) :: starEach es X.env := by rfl) (hpl : (backTo pos (starEach es X.env)).any (·.1) = false := by rfl) : DE X (.Call (.Name c p) (e :: es) [] pos) (eCall (dflt (pureC (newP c F))) f) := by
  obtain ⟨fa, fd, ps, a, ds, G, M, r, b, sq⟩ := hF.df
  obtain ⟨t, pa, ra⟩ := ha.ex
  exact ⟨_, pe_callR (G.makeD M gd b r) hg hF.fn.mgC M.kp pa hdb he hpl, rf_call (rf_dflt (g := gx X) sq (rf_newP hF.fn.len)) ra⟩
end
end L4

/-! texts: times a number, small and great letters, the place of a text in another -/
namespace L4
open PySem PySem.Spec PyProof.Rows L2
section
variable {X : Cx} {g : G} {T T' : Tk} {H : Hp} {m : M} {Q : VK} {pos p apos : Pos} {e o : Expr} {es : List Expr} {k n : Nat} {x c nm : Str}
def repS (a : Str) (n : Nat) : Str := ⟨⟨(List.replicate n a.cps.toList).flatten⟩⟩
theorem repS_eq (a : Str) (n : Nat) : (⟨(List.replicate n a.cps).foldl (· ++ ·) #[]⟩ : Str) = repS a n := by
  have h : ∀ (n : Nat) (acc : Array Nat), ((List.replicate n a.cps).foldl (· ++ ·) acc).toList = acc.toList ++ (List.replicate n a.cps.toList).flatten := by
    intro n
    induction n with
    | zero => intro acc; simp
    | succ n ih => intro acc; simp [List.replicate_succ, ih]
  have h1 := h n #[]
  unfold repS
  congr 1
  apply Array.toList_inj.mp
  simpa using h1
def rStrMul : R2 := fun x y H Q => ∃ (a : Str) (k : Nat), x = .str a ∧ y = .int (k : Int) ∧ 2 ≤ k ∧ k ≤ 1000 ∧ 1 ≤ a.length ∧ a.length ≤ 1000 ∧ Q (.str (repS a k)) H
def rStrOne : R2 := fun x y H Q => ∃ (a : Str), x = .str a ∧ y = .int 1 ∧ Q (.str a) H
theorem op_strOne : OpR X (binaryOp .Mult) rStrOne := by
  intro pins s σ H x y v u Q I rx ry h
  obtain ⟨a, rfl, rfl, q⟩ := h
  obtain ⟨t, rfl⟩ := rx
  obtain ⟨t', rfl⟩ := ry
  refine PySem.P.mul_str (by decide) (fun _ h => by simp at h) (fun _ h => by simp at h) ?_
  rw [if_neg (by decide), if_pos (by simp)]
  exact ⟨.str a, H, I, ⟨_, rfl⟩, q⟩
theorem op_strMul : OpR X (binaryOp .Mult) rStrMul := by
  intro pins s σ H x y v u Q I rx ry h
  obtain ⟨a, k, rfl, rfl, h2, hk, h1, hl, q⟩ := h
  obtain ⟨t, rfl⟩ := rx
  obtain ⟨t', rfl⟩ := ry
  have hmul : a.length * k ≤ 1000000 := by
    calc a.length * k ≤ 1000 * 1000 := Nat.mul_le_mul hl hk
      _ = 1000000 := by decide
  have hz : (repS a k).length ≤ sizeLine := by
    have : (repS a k).length = k * a.length := by
      show ((List.replicate k a.cps.toList).flatten.toArray).size = _
      simp [Str.length]
    rw [this, sizeLine_eq, Nat.mul_comm]; omega
  refine PySem.P.mul_str (by
    have e1 : ¬ ((k : Int) < -(2 ^ 63 : Int)) := by omega
    have e2 : ¬ ((k : Int) ≥ 2 ^ 63) := by omega
    rw [decide_eq_false e1, decide_eq_false e2]; rfl) (fun _ _ => ?_) (fun _ _ => ?_) ?_
  · intro z
    have : (1000 : Int) ≤ (2 ^ 63 - 1) / (k : Int) := by
      have hk0 : (0 : Int) < k := by omega
      rw [Int.le_ediv_iff_mul_le hk0]
      have : (1000 : Int) * k ≤ 1000 * 1000 := by omega
      omega
    omega
  · rw [Int.toNat_natCast]
    unfold Builtin.Str.tooLong
    rw [decide_eq_false_iff_not, sizeLine_eq]
    omega
  · rw [if_neg (by omega), if_neg (by simp; omega), Int.toNat_natCast, repS_eq]
    exact ⟨hz, .str (repS a k), H, I.tok _, ⟨_, rfl⟩, q⟩
def mulE (m : M) (x y : D) : Option D := match x, y with
  | .str a, .int k => if k = 1 then some (.str a) else if 2 ≤ k ∧ k ≤ 1000 ∧ 1 ≤ a.length ∧ a.length ≤ 1000 then some (.str (repS a k.toNat)) else none
  | x, y => mulD m x y
theorem op_mulE : OpD X (binaryOp .Mult) mulE := by
  obtain ⟨r, h, q⟩ := (op_mul' (X := X)).ex
  refine ⟨_, orR op_strOne (orR op_strMul h), fun T H m x y v u d hm rx ry hf Q k => ?_⟩
  unfold mulE at hf
  split at hf
  · next a j =>
    cases rx
    cases ry
    split at hf
    · next h1 => cases hf; subst h1; exact .inl ⟨a, rfl, rfl, k.now hm (.str _)⟩
    · obtain ⟨⟨h2, h3, h4, h5⟩, hf⟩ := ite_some hf
      cases hf
      have ej : ((j.toNat : Nat) : Int) = j := Int.toNat_of_nonneg (by omega)
      exact .inr (.inl ⟨a, j.toNat, rfl, by rw [ej], by omega, by omega, h4, h5, k.now hm (.str _)⟩)
  · exact .inr (.inr (q T H m _ _ v u d hm rx ry hf Q k))
/-! one sign, small or great -/
def lowC (c : Nat) : Nat := if 65 ≤ c ∧ c ≤ 90 then c + 32 else c
def uppC (c : Nat) : Nat := if 97 ≤ c ∧ c ≤ 122 then c - 32 else c
theorem low_all : ∀ c : Fin 128, Txt.lower ⟨#[c.val]⟩ = ⟨#[lowC c.val]⟩ := by decide +kernel
theorem upp_all : ∀ c : Fin 128, Txt.upper ⟨#[c.val]⟩ = ⟨#[uppC c.val]⟩ := by decide +kernel
def eCase (f : Nat → Nat) (a : EF) : EF := fun ρ m => bd (a ρ m) fun x m1 => match x with
  | .str z => match z.cps.toList with
    | [c] => if c < 128 then some (.str ⟨#[f c]⟩, m1) else none
    | _ => none
  | _ => none
theorem de_lower {fo : EF} (ho : DE X o fo) (hbase : attributeBase o "lower" X.env (eval o X.env) = eval o X.env := by rfl) (hline : (apos.endLine == pos.line) = true := by rfl) : DE X (.Call (.Attribute o "lower" apos) [] [] pos) (eCase lowC fo) := by
  obtain ⟨to, po, ro⟩ := ho.ex
  refine ⟨_, pe_lower po hbase hline, fun T σ H ρ m d m' hm hs hf Q k => ?_⟩
  obtain ⟨y, m1, e1, hf⟩ := bd_some hf
  refine ro T σ H ρ m y m1 hm hs e1 _ fun v T1 H1 l1 hm1 r1 => ?_
  cases r1 with
  | str z =>
    refine ⟨⟨z, rfl⟩, z, rfl, rfl, ?_⟩
    replace hf : (match z.cps.toList with
      | [c] => if c < 128 then some (D.str ⟨#[lowC c]⟩, m1) else none
      | _ => none) = some (d, m') := hf
    split at hf
    · next c hc =>
      obtain ⟨hlt, hf⟩ := ite_some hf
      cases hf
      have ez := sign_of hc
      subst ez
      refine ⟨by show (1 : Nat) ≤ 5592405; decide, ?_⟩
      rw [low_all ⟨c, hlt⟩]
      exact k _ T1 H1 l1 hm1 (.str _)
    · cases hf
  | _ => cases hf
theorem de_upper {fo : EF} (ho : DE X o fo) (hbase : attributeBase o "upper" X.env (eval o X.env) = eval o X.env := by rfl) (hline : (apos.endLine == pos.line) = true := by rfl) : DE X (.Call (.Attribute o "upper" apos) [] [] pos) (eCase uppC fo) := by
  obtain ⟨to, po, ro⟩ := ho.ex
  refine ⟨_, pe_upper po hbase hline, fun T σ H ρ m d m' hm hs hf Q k => ?_⟩
  obtain ⟨y, m1, e1, hf⟩ := bd_some hf
  refine ro T σ H ρ m y m1 hm hs e1 _ fun v T1 H1 l1 hm1 r1 => ?_
  cases r1 with
  | str z =>
    refine ⟨⟨z, rfl⟩, z, rfl, rfl, ?_⟩
    replace hf : (match z.cps.toList with
      | [c] => if c < 128 then some (D.str ⟨#[uppC c]⟩, m1) else none
      | _ => none) = some (d, m') := hf
    split at hf
    · next c hc =>
      obtain ⟨hlt, hf⟩ := ite_some hf
      cases hf
      have ez := sign_of hc
      subst ez
      refine ⟨by show (1 : Nat) ≤ 5592405; decide, ?_⟩
      rw [upp_all ⟨c, hlt⟩]
      exact k _ T1 H1 l1 hm1 (.str _)
    · cases hf
  | _ => cases hf
/-! s.index(t) -/
def sidxD (_ : M) (x y : D) : Option D := match x, y with
  | .str a, .str b => match Builtin.Str.occurrences a b 0 a.length 1 with
    | i :: _ => some (.int (i : Nat))
    | [] => none
  | _, _ => none
theorem de_sindex {fo fe : EF} (ho : DE X o fo) (he : DE X e fe) (hs : starEach [e] X.env = [(false, eval e X.env)] := by rfl) (hbase : attributeBase o "index" X.env (eval o X.env) = eval o X.env := by rfl) (hline : (apos.endLine == pos.line) = true := by rfl) :
    DE X (.Call (.Attribute o "index" apos) [e] [] pos) (eM1 sidxD fo fe) := by
  obtain ⟨to, po, ro⟩ := ho.ex; obtain ⟨te, pe, re⟩ := he.ex
  refine ⟨_, pe_m1 F.slot_str_index F.type_str_index mt_sindex po pe hs hbase hline, rf_m1 (fun T H m z y u d hm ry hf Q k => ?_) ro re⟩
  cases ry with
  | str b =>
    replace hf : (match Builtin.Str.occurrences z b 0 z.length 1 with
      | i :: _ => some (D.int (i : Nat))
      | [] => none) = some d := hf
    split at hf
    · next j r hj => cases hf; exact ⟨z, b, j, r, rfl, rfl, hj, k.now hm (.int _)⟩
    · cases hf
  | _ => cases hf
end
end L4

/-! {x: c for x in it}: the items are nested tuples, the value is written -/
namespace L4
open PySem PySem.Spec PyProof.Rows L2
abbrev NQ := List (NestedKey × Addr)
/-- the entries behind some items -/
inductive Ent (R : Value → Prop) : NQ → List (NestedKey × Addr × Value) → Prop
  | nil : Ent R [] []
  | snoc {l xs q u} : Ent R l xs → R u → Ent R (l ++ [q]) (storedH xs q.1 q.2 u)
theorem Ent.len {R : Value → Prop} {l : NQ} {xs : List (NestedKey × Addr × Value)} (h : Ent R l xs) : xs.length ≤ l.length := by
  induction h with
  | nil => exact Nat.le_refl _
  | @snoc l xs q u _ _ ih => have := storedH_length xs q.1 q.2 u; simp; omega
theorem Ent.keys {R : Value → Prop} {l : NQ} {xs : List (NestedKey × Addr × Value)} (h : Ent R l xs) : ∀ y ∈ xs, (y.1, y.2.1) ∈ l := by
  induction h with
  | nil => intro y hy; cases hy
  | @snoc l xs q u _ _ ih =>
    intro y hy
    rcases mem_storedH_key hy with ⟨z, hz, e1, e2⟩ | ⟨e1, e2⟩
    · rw [e1, e2]; exact List.mem_append_left _ (ih z hz)
    · rw [e1, e2]; exact List.mem_append_right _ (List.mem_singleton.mpr rfl)
section
variable {prog : Program} {w : World} {A : Around} {E : Value → Shared → Prop}
theorem dcgoes_keys {env : Env} {scope : Scope} {cl : List (Str × Addr)} {x : Str} {px pk : Pos} {vx : Expr} {Q : Value → Shared → Prop} {s1 s2 : Shared} {I : Addr} {fp : List Addr} {n : Nat} {Y : Nat → Value → Heap → Prop} {St : Nat → Heap → Prop} {R : Value → Prop} {nks : NQ}
    (hkind : scope.kind = .function) (hx : scope.names.lookup x = some .local) (hdb : (x == ("__debug__" : Str)) = false) (hu : (nestedKind prog w).room A)
    (W : Goes prog w A (.Name x px) I fp [I] n Y St) (hst : St 0 s2.heap) (only : ∃ h tk, s2 = { s1 with heap := h, toks := tk }) (k12 : ∀ b o, s1.heap.get? b = some o → s2.heap.get? b = some o)
    (h12 : s1.heap.objs.size ≤ s2.heap.objs.size) (hI : s1.heap.get? I = none) (hIs : I < s2.heap.objs.size) (hfp : ∀ b ∈ fp, b < s2.heap.objs.size) (hn : n = nks.length) (hY : ∀ i v h, Y i v h → ∃ q, nks[i]? = some q ∧ v = .ref q.2) (his : ∀ q ∈ nks, (nestedKind prog w).is s1.heap q.1 q.2) (hz : nks.length ≤ sizeLine)
    (hv : ∀ (cenv : Env) (s : Shared) (Q : Value → Shared → Prop) (E : Value → Shared → Prop), (∀ u tk, R u → Q u { s with toks := tk }) → wpAny (model prog w) A (eval vx cenv) Q E s)
    (fin : ∀ (D : Addr) (h' : Heap) (tk : Nat) (xs : List (NestedKey × Addr × Value)), (∀ b o, s1.heap.get? b = some o → h'.get? b = some o) → s1.heap.objs.size ≤ D → Ent R nks xs → h'.DictOfH (nestedKind prog w) D xs → Q (.ref D) { s1 with heap := h', toks := tk }) :
    DcGoes prog w A E env scope cl (.Name x px) [] (.Name x pk) vx none Q (.ref I) s2 := by
  refine ⟨I, fp, [I], n, Y, St, rfl, W, hst, fun D C s3 B hD => ?_⟩
  have kx : ∀ {cenv : Env}, cenv = compEnvC scope cl C env → cenv.kindOf x = some .local := fun {cenv} e => by
    subst e
    exact lookup_relabel_local hx
  have gone : ∀ b, s2.heap.objs.size ≤ b → s1.heap.get? b = none := fun b hb => by
    cases e : s1.heap.get? b with
    | none => rfl
    | some o => exact absurd (Heap.lt_size (k12 b o e)) (Nat.not_lt.mpr hb)
  have gD := gone D B.newD
  have gC := gone C B.newC
  have nID : D ≠ I := fun e => by subst e; exact absurd hIs (Nat.not_lt.mpr B.newD)
  have nIC : C ≠ I := fun e => by subst e; exact absurd hIs (Nat.not_lt.mpr B.newC)
  have isAt : ∀ {h' : Heap} {l : NQ} {xs : List (NestedKey × Addr × Value)}, (∀ q ∈ l, q ∈ nks) → (∀ b o, s1.heap.get? b = some o → h'.get? b = some o) → Ent R l xs → ∀ y ∈ xs, (nestedKind prog w).is h' y.1 y.2.1 := fun {h' l xs} hl k en y hy =>
    nestedKind_stays.stays (fun b o _ _ e _ => k b o e) (his _ (hl _ (en.keys y hy)))
  let Gi : Nat → Shared → Prop := fun i s' => (∃ h tk, s' = { s1 with heap := h, toks := tk }) ∧ (∀ b o, s1.heap.get? b = some o → s'.heap.get? b = some o) ∧ (∃ xs, Ent R (nks.take i) xs ∧ s'.heap.DictOfH (nestedKind prog w) D xs) ∧ ∃ m, s'.heap.Ns C m
  refine ⟨Gi, ?_, ?_, ?_, ?_⟩
  · obtain ⟨h2, t2, rfl⟩ := only
    obtain ⟨h3, t3, rfl⟩ := B.only
    exact ⟨⟨h3, t3, rfl⟩, fun b o e => B.old b o (k12 b o e), ⟨[], by rw [List.take_zero]; exact .nil, ⟨_, #[], 0, hD, ⟨rfl, rfl, rfl⟩, rfl, rfl, fun y hy => (nomatch hy), by simp⟩⟩, _, B.names⟩
  · rintro i s' h' tk ⟨⟨h0, t0, rfl⟩, g2, ⟨xs, g3, g4⟩, m, g5⟩ hk _
    have k' : ∀ b o, s1.heap.get? b = some o → h'.get? b = some o := fun b o e => hk b o (fun z => by
      rw [List.mem_singleton.mp z, hI] at e
      cases e) (g2 b o e)
    refine ⟨⟨h', tk, rfl⟩, k', ⟨xs, g3, g4.at' (fun o e => hk D o (by simpa using nID) e) (isAt (fun q hq => List.mem_of_mem_take hq) k' g3)⟩, m, g5.at fun o e => hk C o (by simpa using nIC) e⟩
  · rintro i v s' hi hy hst' ⟨⟨h0, t0, rfl⟩, g2, ⟨xs, g3, g4⟩, m, g5⟩
    obtain ⟨q, hq, rfl⟩ := hY i v _ hy
    refine wpAny_assign_Name (wpAny_storeName_local (kx rfl) g5 (fun h5 n5 sb5 => ?_) ?_)
    · have k5 : ∀ b o, s1.heap.get? b = some o → h5.get? b = some o := fun b o e => sb5.extBut b o (fun z => by rw [z, show (compEnvC scope cl C env).locals = C from rfl] at e; rw [gC] at e; cases e) (g2 b o e)
      refine wpAny_pure ?_
      rw [if_pos rfl]
      refine wpAny_Name (wpAny_loadName_local (show (compEnvC scope cl C env).scope.kind = .function from hkind) (kx rfl) n5 (if_pos rfl) ?_) hdb
      refine hv _ _ _ _ fun u tk hR => ?_
      have d5 : h5.DictOfH (nestedKind prog w) D xs := g4.at' (fun o e => sb5.extBut D o B.ne e) (isAt (fun q hq => List.mem_of_mem_take hq) k5 g3)
      have hkey : (nestedKind prog w).is h5 q.1 q.2 := nestedKind_stays.stays (fun b o _ _ e _ => k5 b o e) (his q (List.mem_of_getElem? hq))
      have hlen : xs.length ≤ sizeLine := Nat.le_trans g3.len (Nat.le_trans (List.length_take_le' _ _) hz)
      refine wpAny_dictSet_heap (s := { s1 with heap := h5, toks := tk }) (hsz := hlen) hu hkey d5 fun h6 d6 sb6 => ?_
      have k6 : ∀ b o, s1.heap.get? b = some o → h6.get? b = some o := fun b o e => sb6.extBut b o (fun z => by rw [z, gD] at e; cases e) (k5 b o e)
      refine ⟨⟨⟨h6, _, rfl⟩, k6, ⟨_, ?_, d6⟩, _, n5.sameBut sb6 (Ne.symm B.ne)⟩, ?_⟩
      · have e6 : nks.take (i + 1) = nks.take i ++ [q] := by
          rw [List.take_add_one, hq]
          rfl
        rw [e6]
        exact .snoc g3 hR
      · refine W.frame _ _ _ hst' fun b hb o e => ?_
        have hlt := hfp b hb
        have e5 := sb5.extBut b o (fun z => by rw [z] at hlt; exact absurd hlt (Nat.not_lt.mpr B.newC)) e
        exact sb6.extBut b o (fun z => by rw [z] at hlt; exact absurd hlt (Nat.not_lt.mpr B.newD)) e5
    · show ((compEnvC scope cl C env).scope.kind == .class || ((compEnvC scope cl C env).scope.kind == .module && (compEnvC scope cl C env).locals != (compEnvC scope cl C env).globals)) = false
      rw [show (compEnvC scope cl C env).scope.kind = ScopeKind.function from hkind]
      rfl
  · rintro s' ⟨⟨h0, t0, rfl⟩, g2, ⟨xs, g3, g4⟩, m, g5⟩
    refine ⟨m, g5, fun h' sb => ?_⟩
    have k' : ∀ b o, s1.heap.get? b = some o → h'.get? b = some o := fun b o e => sb.extBut b o (fun z => by rw [z, show (compEnvC scope cl C env).locals = C from rfl] at e; rw [gC] at e; cases e) (g2 b o e)
    rw [hn, List.take_length] at g3
    exact fin D h' t0 xs k' (Nat.le_trans h12 B.newD) g3 (g4.at' (fun o e => sb.extBut D o B.ne e) (isAt (fun q hq => hq) k' g3))
end
section
variable {X : Cx} {g : G} {T T' : Tk} {H : Hp} {m : M} {Q : VK} {pos p apos : Pos} {e o : Expr} {es : List Expr} {k n : Nat} {x c nm : Str}
def foldN (c : V) (nks : NQ) : NV := nks.foldl (fun acc q => nPut acc q.1 q.2 c) []
theorem ent_np {R : Value → Prop} {c : V} (hR : ∀ u, R u → RelV c u) {l : NQ} {xs : List (NestedKey × Addr × Value)} (h : Ent R l xs) : Paired NP (foldN c l) xs := by
  induction h with
  | nil => exact .nil
  | @snoc l xs q u _ hu ih =>
    unfold foldN
    rw [List.foldl_append]
    exact np_put (hR u hu) ih
theorem foldN_len {c : V} (l : NQ) : (foldN c l).length ≤ l.length := by
  have h : ∀ (l : NQ) (acc : NV), (l.foldl (fun acc q => nPut acc q.1 q.2 c) acc).length ≤ acc.length + l.length := by
    intro l
    induction l with
    | nil => intro acc; simp
    | cons q l ih => intro acc; have h1 := ih (nPut acc q.1 q.2 c); have h2 := nPut_len (k := q.1) (b := q.2) (v := c) (kvs := acc); simp at h1 ⊢; omega
  have := h l []
  simpa [foldN] using this
def tDcK (X : Cx) (te : TE) (c : V) : TE := fun σ H Q => te σ H fun v H1 => ∃ a xs nks, v = .ref a ∧ Col X H1 a xs ∧ xs = nks.map (fun q => V.ref q.2) ∧ (∀ q ∈ nks, NkAt X H1 q.2 q.1) ∧ nks ≠ [] ∧ nks.length ≤ sizeLine ∧ ∀ p, H1 p = none → Q (.ref p) (upd H1 p (dnO (gx X) p (foldN c nks)))
theorem vals_refs : ∀ {nks : NQ} {us : List Value}, Vals (nks.map fun q => V.ref q.2) us → us = nks.map fun q => Value.ref q.2
  | [], _, .nil => rfl
  | q :: nks, _, .cons r rr => by
    rw [List.map_cons, ← vals_refs rr]
    cases r
    rfl
theorem pe_dcK {k : Nat} {te : TE} {px pk : Pos} {vx : Expr} {c : V} {scope : Scope} (gd : Gd k X) (hc : X.calm = true) (he : PE X e te)
    (hv : ∀ (cenv : Env) (s : Shared) (Q : Value → Shared → Prop) (E : Value → Shared → Prop), (∀ u tk, RelV c u → Q u { s with toks := tk }) → wpAny (model X.prog X.w) X.A (eval vx cenv) Q E s)
    (hx : scope.names.lookup x = some .local := by rfl) (hclos : closureFor scope X.env = pure [] := by rfl) (hcell : ∀ y ∈ scope.names, y.2 ≠ .cell := by decide) (hkind : scope.kind = .function := by rfl) (hnames : ∀ y ∈ scope.names, y.2 = .local → scope.names.lookup y.1 = some .local := by decide)
    (hdb : (x == ("__debug__" : Str)) = false := by decide) (hs : ∀ z, foldedSetIterable e X.env z = pure z := by intro _; rfl) : PE X (.DictComp (.Name x pk) vx [⟨.Name x px, e, [], 0⟩] scope pos) (tDcK X te c) := by
  refine ⟨fun pins s σ H Q I h => ?_⟩
  have hroom : (nestedKind X.prog X.w).room X.A := by
    have := gd.r.un
    show X.A.units + 8 < cLine
    omega
  refine DictComp_goes hclos hcell hkind hnames (thn (he.run pins s σ H _ I h) fun v s1 ⟨y, H1, I1, r1, hq⟩ => ?_) hs
  obtain ⟨a, xs, nks, rfl, col, rfl, hnk, hne, hz, q⟩ := hq
  cases r1
  have his : ∀ q ∈ nks, (nestedKind X.prog X.w).is s1.heap q.1 q.2 := fun q hq => hnk q hq pins σ s1 I1
  have fin : ∀ (D : Addr) (h' : Heap) (tk : Nat) (xs : List (NestedKey × Addr × Value)), (∀ b o, s1.heap.get? b = some o → h'.get? b = some o) → s1.heap.objs.size ≤ D → Ent (fun u => RelV c u) nks xs → h'.DictOfH (nestedKind X.prog X.w) D xs → EP X pins σ Q (.ref D) { s1 with heap := h', toks := tk } := fun D h' tk xs k hD en dd => by
    obtain ⟨ob, es, ep, f1, f2, f3, f4, _, f6⟩ := dd
    have hm : (D == sysModules) = false := beq_eq_false_iff_ne.mpr (Nat.ne_of_gt (Nat.lt_of_lt_of_le I1.big hD))
    exact ⟨.ref D, _, I1.laid (a := D) (o := dnO (gx X) D (foldN c nks)) (h' := h') (t' := tk) k hD (dn_ok (Nat.le_trans (foldN_len nks) hz) hm (ent_np (fun u hu => hu) en) f1 f2 f3 f4 f6), rfl, q D (I1.hok.fresh hD)⟩
  cases col with
  | lst hl =>
    obtain ⟨its, rv, pl, _⟩ := I1.list hl
    have ei := vals_refs rv
    subst ei
    have hlt : a < s1.heap.objs.size := by obtain ⟨ob, h1, _⟩ := pl.isList; exact Heap.lt_size h1
    refine wpAny_pyIter_list pl.isList ?_
    refine dcgoes_keys (s1 := s1) (R := fun u => RelV c u) (nks := nks) hkind hx hdb hroom (Goes.list (I.ok.hd hc) s1.heap.objs.size a (Nat.ne_of_lt hlt) _) ⟨⟨_, Heap.get?_push_size _ rfl, rfl, rfl⟩, pl.isList.push _⟩ ⟨_, _, rfl⟩ (fun b o z => Heap.get?_push_of_some _ z) (by rw [Heap.size_push]; exact Nat.le_succ _) ?_ (by rw [Heap.size_push]; exact Nat.lt_succ_self _) (fun b hb => ?_) (by simp) (fun i v h hy => ?_) his hz hv fin
    · cases z : s1.heap.get? s1.heap.objs.size with
      | none => rfl
      | some o => exact absurd (Heap.lt_size z) (Nat.lt_irrefl _)
    · have hb' : b = s1.heap.objs.size ∨ b = a := by simpa using hb
      rw [Heap.size_push]
      rcases hb' with z | z
      · rw [z]; exact Nat.lt_succ_self _
      · rw [z]; exact Nat.lt_succ_of_lt hlt
    · rw [List.getElem?_toArray, List.getElem?_map] at hy
      obtain ⟨q, h1, h2⟩ := Option.map_eq_some_iff.mp hy
      exact ⟨q, h1, h2.symm⟩
  | dF kvs hr ex =>
    cases nks with
    | nil => exact absurd rfl hne
    | cons q0 nks =>
      cases kvs with
      | nil => cases ex
      | cons kv kvs =>
        have this : V.ref q0.2 = kV kv.1 := (List.cons.inj ex).1
        cases hk : kv.1 <;> rw [hk] at this <;> cases this
  | dN kvs hr hk ex =>
    obtain ⟨_, lo, ys, pr, hm⟩ := dn_rd0 I1 hr hk
    obtain ⟨ob, es, ep, h1, h2, h3, h4, _, _⟩ := hm
    have ek : es.toList.map (·.key) = nks.map fun q => Value.ref q.2 := by
      have e1 : es.toList.map (·.key) = ys.map fun q => Value.ref q.2.1 := by
        rw [h4, List.map_map]; rfl
      have e2 := nkeys_rel pr
      rw [← ex] at e2
      rw [e1]
      exact vals_refs e2
    have raw : s1.heap.DictRaw a es ep := ⟨ob, h1, h2, h3⟩
    have hlt : a < s1.heap.objs.size := Heap.lt_size h1
    have hsz : es.size = nks.length := by
      have := congrArg List.length ek
      simpa using this
    refine wpAny_pyIter_dict_raw lo raw ?_
    refine dcgoes_keys (s1 := s1) (R := fun u => RelV c u) (nks := nks) hkind hx hdb hroom (Goes.ofWalks (Walks.rawKeys (I.ok.hd hc) s1.heap.objs.size a (Nat.ne_of_lt hlt) es ep) (fun i v s Q E st q => by
      obtain ⟨o, ho, hc, hd⟩ := st.1
      exact letGo_of_cls ho hc hd (by decide) q)) ⟨⟨_, Heap.get?_push_size _ rfl, rfl, rfl⟩, raw.push _⟩ ⟨_, _, rfl⟩ (fun b o z => Heap.get?_push_of_some _ z) (by rw [Heap.size_push]; exact Nat.le_succ _) ?_ (by rw [Heap.size_push]; exact Nat.lt_succ_self _) (fun b hb => ?_) hsz (fun i v h hy => ?_) his hz hv fin
    · cases z : s1.heap.get? s1.heap.objs.size with
      | none => rfl
      | some o => exact absurd (Heap.lt_size z) (Nat.lt_irrefl _)
    · have hb' : b = s1.heap.objs.size ∨ b = a := by simpa using hb
      rw [Heap.size_push]
      rcases hb' with z | z
      · rw [z]; exact Nat.lt_succ_self _
      · rw [z]; exact Nat.lt_succ_of_lt hlt
    · obtain ⟨hi, rfl⟩ := hy
      have h5 : (es.toList.map (·.key))[i]? = some es[i].key := by
        rw [List.getElem?_map, Array.getElem?_toList, Array.getElem?_eq_getElem hi]
        rfl
      rw [ek, List.getElem?_map] at h5
      obtain ⟨q, g1, g2⟩ := Option.map_eq_some_iff.mp h5
      exact ⟨q, g1, g2.symm⟩
def eDcK (nw : Bool) (a : EF) (c : D) : EF := fun ρ m => bd (a ρ m) fun x m1 => match colD m1 x with
  | some ks => if (!ks.isEmpty && (ks.all fun k => (nkT k).isSome)) && decide (ks.length ≤ sizeLine) then some (bif nw then (.ref m1.length, m1 ++ [.dic (mergeD (ks.map fun k => (k, c)) ([], [])).1 (mergeD (ks.map fun k => (k, c)) ([], [])).2]) else (.dic (mergeD (ks.map fun k => (k, c)) ([], [])).1 (mergeD (ks.map fun k => (k, c)) ([], [])).2, m1)) else none
  | none => none
theorem refs_of : ∀ {ks : List D} {xs : List V}, (ks.all fun k => (nkT k).isSome) = true → RepL g T H ks xs → ∃ nks : NQ, xs = nks.map (fun q => V.ref q.2) ∧ ks.map nkT = nks.map (fun q => some q.1) ∧ RepL g T H ks (nks.map fun q => V.ref q.2)
  | [], _, _, .nil => ⟨[], rfl, rfl, .nil⟩
  | k :: ks, _, h, .cons r rr => by
    obtain ⟨h1, h2⟩ := and2 h
    obtain ⟨κ, hκ⟩ := Option.isSome_iff_exists.mp h1
    obtain ⟨b, rfl⟩ := nk_ref hκ r
    obtain ⟨nks, rfl, e, q⟩ := refs_of h2 rr
    exact ⟨(κ, b) :: nks, rfl, by simp [hκ, e], .cons r q⟩
theorem nk_each {ks : List D} {nks : NQ} (e : ks.map nkT = nks.map (fun q => some q.1)) (r : RepL (gx X) T H ks (nks.map fun q => V.ref q.2)) : ∀ q ∈ nks, NkAt X H q.2 q.1 := by
  induction nks generalizing ks with
  | nil => intro q hq; cases hq
  | cons q0 nks ih =>
    cases ks with
    | nil => cases e
    | cons k ks =>
      cases r with
      | cons r1 r2 =>
        intro q hq
        rcases List.mem_cons.mp hq with rfl | hq
        · exact nkAt (List.cons.inj e).1 r1
        · exact ih (List.cons.inj e).2 r2 q hq
theorem fold_rep {cd : D} {cv : V} (rc : Rep g T H cd cv) : ∀ {ks : List D} {nks : NQ} {acc : NV} {aks avs : List D}, ks.map nkT = nks.map (fun q => some q.1) → RepL g T H ks (nks.map fun q => V.ref q.2) →
    aks.map nkT = acc.map (fun p => some p.1) → RepL g T H aks (acc.map fun p => .ref p.2.1) → RepL g T H avs (acc.map fun p => p.2.2) →
    (mergeD (ks.map fun k => (k, cd)) (aks, avs)).1.map nkT = (nks.foldl (fun acc q => nPut acc q.1 q.2 cv) acc).map (fun p => some p.1) ∧ RepL g T H (mergeD (ks.map fun k => (k, cd)) (aks, avs)).1 ((nks.foldl (fun acc q => nPut acc q.1 q.2 cv) acc).map fun p => .ref p.2.1) ∧ RepL g T H (mergeD (ks.map fun k => (k, cd)) (aks, avs)).2 ((nks.foldl (fun acc q => nPut acc q.1 q.2 cv) acc).map fun p => p.2.2)
  | [], [], _, _, _, _, _, h1, h2, h3 => ⟨h1, h2, h3⟩
  | [], _ :: _, _, _, _, e, _, _, _, _ => by cases e
  | _ :: _, [], _, _, _, e, _, _, _, _ => by cases e
  | k :: ks, q :: nks, acc, aks, avs, e, r, h1, h2, h3 => by
    cases r with
    | cons r1 r2 =>
      obtain ⟨g1, g2, g3⟩ := nest_put (List.cons.inj e).1 r1 rc h1 h2 h3
      exact fold_rep rc (ks := ks) (nks := nks) (acc := nPut acc q.1 q.2 cv) (List.cons.inj e).2 r2 g1 g2 g3
theorem foldN_ne {c : V} {nks : NQ} (h : nks ≠ []) : foldN c nks ≠ [] := by
  have put : ∀ (acc : NV) (k : NestedKey) (b : Addr), nPut acc k b c ≠ [] := fun acc k b z => by
    unfold nPut at z
    split at z
    · next hh =>
      have : acc = [] := List.map_eq_nil_iff.mp z
      subst this
      cases hh
    · cases acc <;> cases z
  have go : ∀ (l : NQ) (acc : NV), acc ≠ [] → l.foldl (fun acc q => nPut acc q.1 q.2 c) acc ≠ [] := by
    intro l
    induction l with
    | nil => intro acc h; exact h
    | cons q l ih => intro acc _; exact ih _ (put acc q.1 q.2)
  cases nks with
  | nil => exact absurd rfl h
  | cons q nks => exact go nks _ (put [] q.1 q.2)
theorem de_dcK {nw : Bool} {k : Nat} {fe : EF} {px pk : Pos} {vx : Expr} {cv : V} {cd : D} {scope : Scope} (gd : Gd k X) (hc : X.calm = true) (he : DE X e fe) (hrep : ∀ T H, Rep (gx X) T H cd cv)
    (hv : ∀ (cenv : Env) (s : Shared) (Q : Value → Shared → Prop) (E : Value → Shared → Prop), (∀ u tk, RelV cv u → Q u { s with toks := tk }) → wpAny (model X.prog X.w) X.A (eval vx cenv) Q E s)
    (hx : scope.names.lookup x = some .local := by rfl) (hclos : closureFor scope X.env = pure [] := by rfl) (hcell : ∀ y ∈ scope.names, y.2 ≠ .cell := by decide) (hkind : scope.kind = .function := by rfl) (hnames : ∀ y ∈ scope.names, y.2 = .local → scope.names.lookup y.1 = some .local := by decide)
    (hdb : (x == ("__debug__" : Str)) = false := by decide) (hs : ∀ z, foldedSetIterable e X.env z = pure z := by intro _; rfl) : DE X (.DictComp (.Name x pk) vx [⟨.Name x px, e, [], 0⟩] scope pos) (eDcK nw fe cd) := by
  obtain ⟨te, pe, re⟩ := he.ex
  refine ⟨_, pe_dcK gd hc pe hv hx hclos hcell hkind hnames hdb hs, fun T σ H ρ m d m' hm hss hf Q k => ?_⟩
  obtain ⟨y, m1, e1, hf⟩ := bd_some hf
  refine re T σ H ρ m y m1 hm hss e1 _ fun v T1 H1 l1 hm1 r1 => ?_
  split at hf
  · next ks hks =>
    obtain ⟨hg, hf⟩ := ite_some hf
    have hf := Option.some.inj hf
    obtain ⟨hg, hz⟩ := and2 hg
    obtain ⟨h0, hall⟩ := and2 hg
    have hz : ks.length ≤ sizeLine := of_decide_eq_true hz
    obtain ⟨a, xs, rfl, col, rl⟩ := col_rep hm1 r1 hks
    obtain ⟨nks, rfl, ek, rk⟩ := refs_of hall rl
    have hl : ks.length = nks.length := by
      have := congrArg List.length ek
      simpa using this
    have hne : nks ≠ [] := fun z => by
      subst z
      have : ks = [] := List.eq_nil_of_length_eq_zero hl
      subst this
      cases h0
    refine ⟨a, _, nks, rfl, col, rfl, nk_each ek rk, hne, by omega, fun q hq => ?_⟩
    have l2 := hm1.fresh (p := q) (u := dnO (gx X) q (foldN cv nks)) hq
    obtain ⟨g1, g2, g3⟩ := fold_rep (hrep T1 H1) (acc := []) (aks := []) (avs := []) ek rk rfl .nil .nil
    cases nw with
    | false =>
      cases hf
      exact k _ T1 _ (l1.trans l2.1) l2.2 (.dicN (hm1.nope hq) (.inl upd_same) ⟨g1, foldN_ne hne⟩ (g2.le l2.1) (g3.le l2.1))
    | true =>
      cases hf
      obtain ⟨l3, hm3⟩ := hm1.push (p := q) (u := dnO (gx X) q (foldN cv nks)) (o := .dic _ _) hq fun l => .dicN upd_same ⟨g1, foldN_ne hne⟩ (g2.le l) (g3.le l)
      exact k _ _ _ (l1.trans l3) hm3 (push_ref hm1.len)
  · cases hf
theorem con_int {prog : Program} {w : World} {A : Around} {i : Int} {j : Nat} {pos : Pos} : ∀ (cenv : Env) (s : Shared) (Q : Value → Shared → Prop) (E : Value → Shared → Prop), (∀ u tk, RelV (.int i) u → Q u { s with toks := tk }) → wpAny (model prog w) A (eval (.Constant (.int i) j pos) cenv) Q E s :=
  fun _ _ _ _ h => wpAny_Constant_int (h _ _ ⟨_, rfl⟩)
theorem con_bl {prog : Program} {w : World} {A : Around} {b : Bool} {j : Nat} {pos : Pos} : ∀ (cenv : Env) (s : Shared) (Q : Value → Shared → Prop) (E : Value → Shared → Prop), (∀ u tk, RelV (.bl b) u → Q u { s with toks := tk }) → wpAny (model prog w) A (eval (.Constant (.bool b) j pos) cenv) Q E s :=
  fun _ s _ _ h => Constant_bool (h _ s.toks rfl)
end
end L4

/-! list(d): the keys of a dict, in their order -/
namespace L4
open PySem PySem.Spec PyProof.Rows L2
section
variable {X : Cx} {g : G} {T T' : Tk} {H : Hp} {m : M} {Q : VK} {pos p apos : Pos} {e o : Expr} {es : List Expr} {k n : Nat} {x c nm : Str}
def rLisW (X : Cx) : List V → Hp → VK → Prop := fun vs H Q => ∃ a xs, vs = [.ref a] ∧ (Col X H a xs ∨ SqT X.K H a xs) ∧ xs.length ≤ sizeLine ∧ ∀ l, H l = none → Q (.ref l) (upd H l (.lst xs))
/-- the call on a dict's entries as they lie -/
theorem raw_list {A : Around} {s : Shared} {a : Addr} {es : Array DictEntry} {ep : Nat} {prog : Program} {w : World} (lo : (a == sysModules) = false) (hh : A.handled = none) (hr : s.heap.DictRaw a es ep) (hz : es.size ≤ sizeLine) {Q' : Value → Shared → Prop} {E' : Value → Shared → Prop}
    (k : ∀ (h' : Heap) (tk : Nat) (acc : Array Value) (c : Nat), acc.toList = es.toList.map (·.key) → (∀ b o, s.heap.get? b = some o → h'.get? b = some o) → h'.get? s.heap.objs.size = some { cls := .type "list", dict := none, data := .seq acc c, slots := #[] } → Q' (.ref s.heap.objs.size) { s with heap := h', toks := tk }) :
    wpAny (model prog w) A (call (.type "list") [.ref a]) Q' E' s := by
  refine PySem.W.kdl_call (KdlSrc.rawDict (es := es) (ep := ep) lo) hh hr hz fun h' tk acc c keep at_ it => k h' tk acc c ?_ keep at_
  apply List.ext_getElem?
  intro i
  rw [Array.getElem?_toList, List.getElem?_map, Array.getElem?_toList]
  rcases Nat.lt_or_ge i acc.size with hi | hi
  · obtain ⟨h2, h3⟩ := it.2 i _ (Array.getElem?_eq_getElem hi)
    rw [Array.getElem?_eq_getElem hi, Array.getElem?_eq_getElem h2, h3]
    rfl
  · rw [Array.getElem?_eq_none hi, Array.getElem?_eq_none (by have := it.1; omega)]
    rfl
/-- what col_ok says of a dict's entries -/
theorem col_raw {pins : List (Addr × Obj)} {σ : L2.St} {s : Shared} {a : Addr} {xs : List V} (I : Inv X pins σ H s) (c : Col X H a xs) : SqL X.K H a xs ∨ ((a == sysModules) = false ∧ ∃ es ep, s.heap.DictRaw a es ep ∧ Vals xs (es.toList.map (·.key))) := by
  cases c with
  | lst h => exact .inl h
  | dF kvs h ex =>
    subst ex
    obtain ⟨_, lo, vs, rel, dd⟩ := dk_rd I.hok h
    obtain ⟨es, ep, hr, h2, h3⟩ := dd.raw
    have hl : es.toList.length = vs.length := by rw [Array.length_toList]; exact h2
    refine .inr ⟨lo, es, ep, hr, ?_⟩
    have ek : kvs.map (fun p => kV p.1) = vs.map fun p => kV p.1 := by
      have := congrArg (List.map kV) rel.keys
      simpa [List.map_map, Function.comp_def] using this
    rw [ek]
    refine keys_at (by rw [List.length_map]; exact hl) fun j v e => ?_
    rw [List.getElem?_map] at e
    obtain ⟨en, e1, rfl⟩ := Option.map_eq_some_iff.mp e
    obtain ⟨hj', e2⟩ := List.getElem?_eq_some_iff.mp e1
    have hj : j < es.size := by simpa using hj'
    have hv : j < vs.length := by omega
    have een : en = es[j] := by simpa using e2.symm
    obtain ⟨h4, _⟩ := h3 j hj vs[j].1 vs[j].2 (List.getElem?_eq_getElem hv)
    exact ⟨vs[j].1, vs[j].2, List.getElem?_eq_getElem hv, by rw [een]; exact h4⟩
  | dN kvs h hk ex =>
    subst ex
    obtain ⟨_, lo, ys, pr, ob, es, ep, h1, h2, h3, h4, _, _⟩ := dn_rd0 I h hk
    refine .inr ⟨lo, es, ep, ⟨ob, h1, h2, h3⟩, ?_⟩
    have e : es.toList.map (·.key) = ys.map fun q => Value.ref q.2.1 := by
      rw [h4, List.map_map]
      rfl
    rw [e]
    exact nkeys_rel pr
theorem cr_lisW (hc : X.calm = true) : CallR X (.type "list") (rLisW X) := by
  intro pins s σ H vs us Q I r h
  obtain ⟨a, xs, ev, col, hz, q⟩ := h
  have old : (SqL X.K H a xs ∨ SqT X.K H a xs) → _ := fun hx => call_list_of pins s σ H vs us Q I r ⟨a, xs, ev, hx, q⟩
  rcases col with col | hx
  · rcases col_raw I col with hx | ⟨lo, es, ep, hr, rv⟩
    · exact old (.inl hx)
    · subst ev
      obtain ⟨u, eu, rx⟩ := vals1 r
      subst eu
      cases rx
      have hn : es.size ≤ sizeLine := by
        have e2 := rv.length
        simp only [List.length_map, Array.length_toList] at e2
        omega
      refine raw_list lo (I.ok.hd hc) hr hn fun h' tk acc c ea keep at_ => ?_
      refine ⟨.ref s.heap.objs.size, _, I.laid (a := s.heap.objs.size) (o := .lst xs) (h' := h') (t' := tk) keep (Nat.le_refl _) ⟨hz, acc.toList, c, ?_, ?_⟩, rfl, q _ (I.hok.fresh (Nat.le_refl _))⟩
      · rw [ea]; exact rv
      · exact at_
  · exact old (.inr hx)
/-- list(x): the items of a list or tuple, the keys of a dict -/
def lisW (m : M) : D → Option (List D)
  | .tup ds => some ds
  | x => colD m x
def eLisW (nw : Bool) (a : EF) : EF := fun ρ m => bd (a ρ m) fun x m1 => match lisW m1 x with
  | some ys => if ys.length ≤ sizeLine then some (bif nw then (.ref m1.length, m1 ++ [.lst ys]) else (.lst ys, m1)) else none
  | none => none
theorem lisW_rep {d : D} {v : V} {ks : List D} (hm : RepH (gx X) T H m) (r : Rep (gx X) T H d v) (h : lisW m d = some ks) : ∃ a xs, v = .ref a ∧ (Col X H a xs ∨ SqT X.K H a xs) ∧ RepL (gx X) T H ks xs := by
  unfold lisW at h
  split at h
  · cases h
    obtain ⟨a, ws, rfl, hx, rl⟩ := tup_rep r
    exact ⟨a, ws, rfl, .inr hx, rl⟩
  · obtain ⟨a, xs, e, col, rl⟩ := col_rep hm r h
    exact ⟨a, xs, e, .inl col, rl⟩
theorem de_lisW {nw : Bool} {f : EF} (hc : X.calm = true) (hg : Gl X "list") (hm : X.mg "list" = none) (ha : DE X e f) (he : starEach [e] X.env = (false, eval e X.env) :: starEach [] X.env := by rfl) : DE X (.Call (.Name "list" p) [e] [] pos) (eLisW nw f) := by
  obtain ⟨t, pa, ra⟩ := ha.ex
  refine ⟨_, pe_callTy (cr_lisW hc) hg hm (by decide +kernel) (pa_cons pa pa_nil he) (by decide) (by decide) he rfl, fun T σ H ρ m d m' hm hs hf Q k => ?_⟩
  obtain ⟨x, m1, e1, hf⟩ := bd_some hf
  refine ra T σ H ρ m x m1 hm hs e1 _ fun v T1 H1 l1 hm1 r1 => ?_
  split at hf
  · next ys hy =>
    obtain ⟨hz, hf⟩ := ite_some hf
    obtain ⟨a, xs, rfl, col, rl⟩ := lisW_rep hm1 r1 hy
    refine ⟨a, xs, rfl, col, by rw [← rl.length]; exact hz, fun q hq => ?_⟩
    cases nw with
    | false => cases hf; exact KV.lst (k.le l1) hm1 rl q hq
    | true => cases hf; exact KV.newL (k.le l1) hm1 rl q hq
  · cases hf
end
end L4

/-! e.replace('a', 'b') where e itself has written a text: then a token is out -/
namespace L4
open PySem PySem.Spec PyProof.Rows L2
section
variable {X : Cx} {g : G} {T T' : Tk} {H : Hp} {m : M} {Q : VK} {pos p apos : Pos} {a b e o : Expr} {ta tb to : TE} {y z : Str} {j k : Nat}
/-- e computes t, and behind it a token is out -/
def PEP (X : Cx) (e : Expr) (t : TE) : Prop := ∀ (pins : List (Addr × Obj)) (s : Shared) (σ : L2.St) (H : Hp) (Q : VK), Inv X pins σ H s → t σ H Q → wpAny (model X.prog X.w) X.A (eval e X.env) (fun v s1 => 1 ≤ s1.toks ∧ EP X pins σ Q v s1) X.xe s
theorem pep_str : PEP X (.Constant (.str y) j pos) (tC (.str y)) := fun pins s σ H Q I h => Calls.Constant_str ⟨Nat.le_add_left 1 s.toks, .str y, H, I.tok _, ⟨_, rfl⟩, h⟩
theorem pep_left {op : Operator} {r : R2} (ho : OpR X (binaryOp op) r) (ha : PEP X a ta) (hb : PE X b tb) : PEP X (.BinOp a op b pos) (tOp r ta tb) := fun pins s σ H Q I h =>
  wpAny_BinOp (thn (ha pins s σ H _ I h) fun v s1 q1 => by
    obtain ⟨k1, x, H1, I1, r1, q1⟩ := q1
    refine wpAny_mono (wpAny_toks_of k1 (hb.run pins s1 σ H1 _ I1 q1)) (fun u s2 q2 => ?_) fun _ _ z => z.2
    obtain ⟨k2, y, H2, I2, r2, q2⟩ := q2
    exact wpAny_mono (wpAny_toks_of k2 (ho pins s2 σ H2 x y v u Q I2 r1 r2 q2)) (fun _ _ z => z) fun _ _ z => z.2)
theorem pep_right {op : Operator} {r : R2} (ho : OpR X (binaryOp op) r) (ha : PE X a ta) (hb : PEP X b tb) : PEP X (.BinOp a op b pos) (tOp r ta tb) := fun pins s σ H Q I h =>
  wpAny_BinOp (thn (ha.run pins s σ H _ I h) fun v s1 q1 => by
    obtain ⟨x, H1, I1, r1, q1⟩ := q1
    refine thn (hb pins s1 σ H1 _ I1 q1) fun u s2 q2 => ?_
    obtain ⟨k2, y, H2, I2, r2, q2⟩ := q2
    exact wpAny_mono (wpAny_toks_of k2 (ho pins s2 σ H2 x y v u Q I2 r1 r2 q2)) (fun _ _ z => z) fun _ _ z => z.2)
theorem pe_replP {p1 p2 : Pos} (ho : PEP X o to) (hyz : (y == z) = false)
    (hargs : starEach [.Constant (.str y) j p1, .Constant (.str z) k p2] X.env = [(false, eval (.Constant (.str y) j p1) X.env), (false, eval (.Constant (.str z) k p2) X.env)])
    (hat : attributeBase o "replace" X.env (eval o X.env) = eval o X.env) (hrow : (apos.endLine == pos.line) = true) :
    PE X (.Call (.Attribute o "replace" apos) [.Constant (.str y) j p1, .Constant (.str z) k p2] [] pos) (CwR.tReplC to y z) := by
  refine ⟨fun pins s σ H Q I h => PySem.Call_method2 hat hargs hrow (thn (ho pins s σ H _ I h) fun v s1 q => ?_)⟩
  obtain ⟨k1, v', H1, I1, r1, x, rfl, hz, q⟩ := q
  obtain ⟨t1, rfl⟩ := r1
  refine ⟨"str", _, F.plainAttrs_str, F.slot_str_replace, F.type_str_replace, typeIs_str _ _ _, (fun _ h => nomatch h), ?_⟩
  refine Calls.callWith_builtin rfl (Calls.evalArgs_plain (Calls.spliced_cons (Calls.Constant_str (Calls.spliced_cons (Calls.Constant_str (Calls.spliced_nil ?_))))))
  have n1 : s1.toks ≠ 0 := by omega
  have n2 : s1.toks + 1 ≠ 0 := by omega
  have n3 : s1.toks ≠ s1.toks + 1 := by omega
  exact SC.replace n1 n2 n3 hyz hz fun t k => ⟨.str (Txt.replace x y z), H1, I1.tok k, ⟨t, rfl⟩, q⟩
/-- on plain data -/
structure DEP (X : Cx) (e : Expr) (f : EF) : Prop where
  ex : ∃ t, PEP X e t ∧ RfE (gx X) t f
theorem dep_str : DEP X (.Constant (.str y) j pos) (eC (.str y)) := ⟨_, pep_str, rf_c fun _ _ => .str y⟩
theorem dep_left {fa fb : EF} {op : Operator} {f} (ho : OpD X (binaryOp op) f) (ha : DEP X a fa) (hb : DE X b fb) : DEP X (.BinOp a op b pos) (eOp f fa fb) := by
  obtain ⟨r, h, q⟩ := ho.ex; obtain ⟨ta, pa, ra⟩ := ha.ex; obtain ⟨tb, pb, rb⟩ := hb.ex
  exact ⟨_, pep_left h pa pb, rf_op q ra rb⟩
theorem dep_right {fa fb : EF} {op : Operator} {f} (ho : OpD X (binaryOp op) f) (ha : DE X a fa) (hb : DEP X b fb) : DEP X (.BinOp a op b pos) (eOp f fa fb) := by
  obtain ⟨r, h, q⟩ := ho.ex; obtain ⟨ta, pa, ra⟩ := ha.ex; obtain ⟨tb, pb, rb⟩ := hb.ex
  exact ⟨_, pep_right h pa pb, rf_op q ra rb⟩
def eRepl (y z : Str) (f : EF) : EF := fun ρ m => bd (f ρ m) fun x m1 => match x with
  | .str a => if a.length + (a.length + 1) * z.length ≤ 16777216 then some (.str (Txt.replace a y z), m1) else none
  | _ => none
theorem de_repl {p1 p2 : Pos} {f : EF} (ho : DEP X o f) (hyz : (y == z) = false := by decide)
    (hargs : starEach [.Constant (.str y) j p1, .Constant (.str z) k p2] X.env = [(false, eval (.Constant (.str y) j p1) X.env), (false, eval (.Constant (.str z) k p2) X.env)] := by rfl)
    (hat : attributeBase o "replace" X.env (eval o X.env) = eval o X.env := by rfl) (hrow : (apos.endLine == pos.line) = true := by rfl) :
    DE X (.Call (.Attribute o "replace" apos) [.Constant (.str y) j p1, .Constant (.str z) k p2] [] pos) (eRepl y z f) := by
  obtain ⟨t, pt, rt⟩ := ho.ex
  refine ⟨_, pe_replP pt hyz hargs hat hrow, fun T σ H ρ m d m' hm hs hf Q k => ?_⟩
  obtain ⟨x, m1, e1, hf⟩ := bd_some hf
  refine rt T σ H ρ m x m1 hm hs e1 _ fun v T1 H1 l1 hm1 r1 => ?_
  split at hf
  · obtain ⟨hz, hf⟩ := ite_some hf
    cases hf
    cases r1
    exact ⟨_, rfl, hz, (k.le l1).now hm1 (.str _)⟩
  · cases hf
end
end L4

/-! str(x) of an object with an own __str__ -/
namespace L4
open PySem PySem.Spec PyProof.Rows L2
section
variable {X : Cx} {g : G} {T T' : Tk} {H : Hp} {m : M} {Q : VK} {k n : Nat} {c : Str} {F : List D → Option D}
theorem call_strG (hF : PMt X.prog X.w X.K X.mg X.base k c "__str__" n F) (gd : Gd (k + 2) X) : CallR X (.type "str") (L3.rStrO (He.ga X.K c) (spP (gx X) n F)) := by
  intro pins s σ H xs us Q I r h
  obtain ⟨a, dx, fs, rfl, ha, hsp⟩ := h
  obtain ⟨f, fd, ps, G, me, bi⟩ := hF.ex
  obtain ⟨u, rfl, rx⟩ := vals1 r
  cases rx
  obtain ⟨mA, J, _⟩ := ins_get I.hok ha
  obtain ⟨od, J, _⟩ := J.look
  have hr1 : Room k X.A.in1.in1 := (Room.in1 (k := k + 1) gd.r).in1
  refine PySem.W.kso_call hr1.units0 I.kIn J me.at_ me.fn ?_
  have e0 : Env0 X.prog X.w X.K X.mg X.base X.A.in1.in1 X.stack s H := I.env0.in1.in1
  have hl := G.len _ _ _ _ hsp
  refine wpAny_call (codeAny_mono (G.run X.A.in1.in1 X.stack s H ⟨[.ref a], []⟩ [.ref a] [.ref a] _ E0 gd.g hr1 e0 (by
    have := bi s [.ref a] I.kIn (by simpa using hl)
    simpa using this) (.cons rfl .nil) hsp) fun r s' hq => ?_)
  match r, hq with
  | .error _, z => exact z.elim
  | .ok (.ret w), z =>
    obtain ⟨v, H', I', rz, y, rfl, q⟩ := I.after z
    obtain ⟨t, rfl⟩ := rz
    exact ⟨.str y, H', I', ⟨t, rfl⟩, q⟩
  | .ok .next, z => exact z.elim
  | .ok .brk, z => exact z.elim
  | .ok .cont, z => exact z.elim
def strOD (c : Str) (F : List D → Option D) (m : M) (xs : List D) : Option D := match xs with
  | [x] => match insOf m x with
    | some (c', _, _) => if c' = c then match callP F m [x] with
      | some (.str y) => some (.str y)
      | _ => none
      else none
    | none => none
  | _ => none
theorem call_strO' (hF : PMt X.prog X.w X.K X.mg X.base k c "__str__" n F) (gd : Gd (k + 2) X) : CallD X (.type "str") (strOD c F) := ⟨_, call_strG hF gd, fun T H m xs vs d hm r hf Q kq => by
  unfold strOD at hf
  split at hf
  · next x =>
    obtain ⟨v, rfl, q⟩ := r.one
    split at hf
    · next c' ns ws hi =>
      obtain ⟨ec, hf2⟩ := ite_some hf
      clear hf
      subst ec
      obtain ⟨a, dx, fs, rfl, ea, _, _⟩ := ins_rep hm q hi
      cases hy : callP F m [x] with
      | none => rw [hy] at hf2; cases hf2
      | some z =>
        rw [hy] at hf2
        cases z with
        | str y =>
          cases hf2
          refine ⟨a, dx, fs, rfl, ea, rf_callP hF.len T H m [x] [.ref a] (.str y) hm r hy _ fun v T1 H1 l1 hm1 r1 => ?_⟩
          cases r1
          exact ⟨y, rfl, kq (.str y) T1 H1 l1 hm1 (.str y)⟩
        | _ => cases hf2
    · cases hf
  · cases hf⟩
end
end L4

/-! o.m(..): a class method called through an object of the class -/
namespace L4
open PySem PySem.Spec PyProof.Rows L2
/-- the head's facts of it -/
def ciB (x m : Str) (K : PySem.W.Frag) : Bool := match PySem.W.findIn K (.ref (He.ga K x)) m with
  | some (some (.ref p)) => PySem.W.plainGet K (He.ga K x) Str.empty && (PySem.W.isClsIn K (He.ga K x) && (decide (PySem.W.typeIn K (.ref p) = some (.type "classmethod")) && (He.eqO (PySem.W.specialIn K (.ref p) "__get__") (some (some (.builtin "classmethod.__get__"))) &&
      (decide (PySem.W.takesIn K (.ref p) = some false) && (!PySem.W.copiedNames.contains m && (decide ((PySem.W.recIn K p "classmethod").bind List.head? = some (.ref (He5.wf K (He.ga K x) "classmethod" m))) && PySem.W.fnIn K (He5.wf K (He.ga K x) "classmethod" m)))))))
  | _ => false
structure Cid (K : PySem.W.Frag) (C : Addr) (m q : Str) (st : Stmt) : Prop where
  ex : ∃ p g fd, Fun K m q st g fd ∧ ClX.CInst K C m p g
theorem cid_of {K : PySem.W.Frag} {x m q : Str} {st : Stmt} {ex : PySem.W.Frag → Bool} {fn : List He5.DefA} (f : ciB x m K = true) (s : L3.SaysB ex fn K) (i : Nat) (e : fn[i]? = some (L3.cdef x m q st) := by rfl) : Cid K (He.ga K x) m q st := by
  unfold ciB at f
  split at f
  · next p hp =>
    obtain ⟨h1, f⟩ := He.ba f
    obtain ⟨h2, f⟩ := He.ba f
    obtain ⟨h3, f⟩ := He.ba f
    obtain ⟨h4, f⟩ := He.ba f
    obtain ⟨h5, f⟩ := He.ba f
    obtain ⟨h6, f⟩ := He.ba f
    obtain ⟨h7, h8⟩ := He.ba f
    obtain ⟨fd, F⟩ := s.def_ i e
    have h7 := of_decide_eq_true h7
    obtain ⟨l, e1, e2⟩ := Option.bind_eq_some_iff.mp h7
    refine ⟨p, _, fd, He5.fun_of F, h1, h2, hp, of_decide_eq_true h3, He.eqO_ok h4, of_decide_eq_true h5, by simpa using h6, ?_, h8⟩
    match l, e1, e2 with
    | v :: rest, e1, e2 =>
      have e3 : v = .ref (He5.wf K (He.ga K x) "classmethod" m) := by simpa using e2
      subst e3
      exact ⟨rest, e1⟩
  · cases f
structure PCi (P : Program) (w : World) (K : PySem.W.Frag) (mg : Str → Option Value) (base : Heap) (k : Nat) (c m : Str) (n : Nat) (F : List D → Option D) : Prop where
  len : ∀ ds d, F ds = some d → ds.length = n + 1
  ex : ∃ p f fd ps, FnG P w K mg base CX0 k f fd ps (spP ⟨P, w, K⟩ (n + 1) F) ∧ ClX.CInst K (He.ga K c) m p f ∧ Binds K fd ps []
section
variable {P : Program} {w : World} {K : PySem.W.Frag} {mg : Str → Option Value} {base : Heap} {k : Nat} {q m c p0 : Str} {ps N : List Str} {st : Stmt} {b : SF}
theorem pci_md (D : Cid K (He.ga K c) m q st) (S : FnScope N (p0 :: ps) (defScope st))
    (hb : ∀ (kV doc pm : Value) (an : Option Addr) (cdv ct : Value) (us : List Value), us.length = (p0 :: ps).length → bindArgs (PySem.W.fnOf m q (defArgs st) (defBody st) (defScope st) .none kV doc pm an cdv ct) ⟨us, []⟩ = pure ((p0 :: ps).zip us))
    (hbody : ∀ (f : Addr) (cdv : Value) (A : Around) (outer : List Env) (s : Shared) (H : Hp) (E : XK), Gd k (cxOf CX0 P w K mg base N q (defScope st) f cdv A outer s H E).nox →
      DSs (cxOf CX0 P w K mg base N q (defScope st) f cdv A outer s H E).nox (defBody st) b) : PCi P w K mg base (k + 1) c m ps.length (runP (ps.length + 1) N.length b) := by
  obtain ⟨p, g, fd, F, ci⟩ := D.ex
  exact ⟨fun ds d h => runP_len h, p, g, fd, p0 :: ps, fnG_all F S (fun vs H Q E h => h.1) (fun r => spP_run r) (hbody g), ci, F.binds hb⟩
end
section
variable {X : Cx} {T T' : Tk} {H : Hp} {m : M} {Q : VK} {pos p apos : Pos} {e o : Expr} {es : List Expr} {k n : Nat} {x c nm : Str}
def eMthC (c nm : Str) (F : List D → Option D) (o : EF) (a : AF) : EF := fun ρ m => bd (o ρ m) fun x m1 => match insOf m1 x with
  | some (c', ns, _) => if c' = c ∧ ns.contains nm = false then bd (a ρ m1) fun xs m2 => pu (callP (fun ds => F (.glo c :: ds)) m2 xs) m2 else none
  | none => none
theorem de_pci {pl : Sem Bool} {F : List D → Option D} {fo : EF} {f : AF} (hF : PCi X.prog X.w X.K X.mg X.base k c nm n F) (gd : Gd k X) (ho : DE X o fo) (ha : DA X (e :: es) f)
    (hst : starEach (e :: es) X.env = (false, eval e X.env) :: starEach es X.env := by rfl) (hpl : (backTo pos (starEach es X.env)).any (·.1) = false := by rfl)
    (ht : eval (.Call (.Attribute o nm apos) (e :: es) [] pos) X.env = (do
      let ov ← eval o X.env
      standAt apos.atName
      let (f, first) ← holding [ov] (getMethod ov nm pl)
      callWith pos f first (backTo pos (starEach (e :: es) X.env)) (backToKw pos (keywordEach [] X.env))) := by rfl) : DE X (.Call (.Attribute o nm apos) (e :: es) [] pos) (eMthC c nm F fo f) := by
  obtain ⟨q, fa, fd, ps, G, ci, b⟩ := hF.ex
  obtain ⟨t, pa, ra⟩ := ha.ex; obtain ⟨to, po, ro⟩ := ho.ex
  refine ⟨ClX.tIMethD (He.ga X.K c) nm (spP (gx X) (n + 1) F) E0 to t, ⟨fun pins s σ H Q I h => ?_⟩, fun T σ H ρ m d m' hm hs hf Q kq => ?_⟩
  · refine PySem.W.methodCall_KW (pl := pl) (thn (po.run pins s σ H _ I h) fun u s1 q1 => ?_) ht
    obtain ⟨v, H1, I1, rv, a, dx, fs, rfl, ea, hno, q1⟩ := q1
    cases rv
    obtain ⟨mA, J, rr, _, _, _⟩ := ins_get I1.hok ea
    obtain ⟨od, J, hl⟩ := J.look
    have hn : mA nm = none := RelO.none_of (by rw [← hno]; exact rr nm)
    refine ClX.getmethim_ok I1 J ((hl nm).trans (congrArg some hn)) ci fun s2 I2 => ?_
    refine ClX.callwith_cm I2 (ClX.base_none I1 (Nat.le_refl _)) ci.fi (thn (pa.run pos _ s2 σ H1 _ I2 q1) fun us s3 q2 => ?_) hst hpl
    obtain ⟨vs, H2, I3, rv, q2⟩ := q2
    refine ⟨⟨ClX.pin_at I3, I3.kIn⟩, ?_⟩
    exact thn (wpAny_call (PySem.W.method_call (ClX.pin_at I3) (G.code (vs := .ref (He.ga X.K c) :: vs) (us := .ref (He.ga X.K c) :: us) gd b I3 (.cons rfl rv) q2))) fun _ _ y => ClX.unpinE y
  · obtain ⟨x, m1, e1, hf⟩ := bd_some hf
    refine ro T σ H ρ m x m1 hm hs e1 _ fun v T1 H1 l1 hm1 r1 => ?_
    split at hf
    · next c' ns vs hi =>
      obtain ⟨⟨ec, hcn⟩, hf2⟩ := ite_some hf
      clear hf
      subst ec
      obtain ⟨xs, m2, e2, hf⟩ := bd_some hf2
      obtain ⟨e3, rfl⟩ := pu_some hf
      obtain ⟨a, dx, fs, rfl, ea, en, _⟩ := ins_rep hm1 r1 hi
      refine ⟨a, dx, fs, rfl, ea, lookup_none (by rw [en]; exact hcn), ra T1 σ H1 ρ m1 xs _ hm1 (hs.le l1) e2 _ fun ws T2 H2 l2 hm2 r2 => ?_⟩
      obtain ⟨hl, ν, ds, d', h1, h2, h3, h4⟩ := rf_callP (g := gx X) (n := n) (F := fun ds => F (.glo c' :: ds)) (fun ds d h => by have := hF.len _ _ h; simpa using this) T2 H2 _ xs ws d hm2 r2 e3 Q (kq.le (l1.trans l2))
      exact ⟨by simp [hl], ν, .glo c' :: ds, d', h1, .cons (.glo c') h2, h3, h4⟩
    · cases hf
end
end L4

/-! count of flat things; dicts walked by their entries; max of a dict's values -/
namespace L4
open PySem PySem.Spec PyProof.Rows L2
section
variable {X : Cx} {g : G} {T T' : Tk} {H : Hp} {m : M} {Q : VK} {pos p apos cpos : Pos} {e o : Expr} {es : List Expr} {k n : Nat} {x c nm : Str}
/-! count -/
theorem countP_eqU {y : V} : ∀ {xs : List V} {us : List Value}, Vals xs us → xs.all flatV = true → us.countP (eqU y) = xs.countP fun z => eqV z y
  | _, _, .nil, _ => rfl
  | z :: xs, u :: us, .cons r t, f => by
    rw [List.all_cons, Bool.and_eq_true] at f
    rw [List.countP_cons, List.countP_cons, eqU_of r f.1, countP_eqU t f.2]
def rCntF (K : PySem.W.Frag) : V → List V → Hp → VK → Prop := fun x xs H Q => ∃ (a : Addr) (ys : List V) (y : V), x = .ref a ∧ xs = [y] ∧ SqL K H a ys ∧ flatV y = true ∧ ys.all flatV = true ∧ Q (.int ((ys.countP fun z => eqV z y : Nat) : Int)) H
theorem mt_cntF : MtR X "list.count" (rCntF X.K) := by
  intro pins s σ H x xs v us Q I rx rxs h
  obtain ⟨a, ys, y, rfl, rfl, hs, fy, fys, q⟩ := h
  obtain ⟨u, rfl, ru⟩ := rxs.one
  cases rx
  obtain ⟨its, rv, ⟨⟨cls, dd, data, sl⟩, n, ho, hc, _, hd⟩, _⟩ := I.list hs
  cases hc
  cases hd
  refine call_meets PySem.F.slot_list_count ⟨_, ho, rfl⟩ PySem.F.entry_list_count (PySem.F.args_list_count_2 _ _)
    (SeqAt.list_countAt a its.toArray n dd sl u (eqU y)) ⟨ho, fun z hz => mem_eqAt ru fy rv fys z (by simpa using hz), ?_⟩
  have ec := countP_eqU (y := y) rv fys
  exact ⟨.int ((ys.countP fun z => eqV z y : Nat) : Int), H, I.tok _, ⟨s.toks, by rw [List.toList_toArray, ec]⟩, q⟩
def flD : D → Option V
  | .non => some .non
  | .bl b => some (.bl b)
  | .int i => some (.int i)
  | .str x => some (.str x)
  | _ => none
def flL : List D → Option (List V)
  | [] => some []
  | d :: ds => match flD d, flL ds with
    | some v, some vs => some (v :: vs)
    | _, _ => none
theorem flD_rep {d : D} {v u : V} (h : flD d = some u) (r : Rep g T H d v) : v = u ∧ flatV u = true := by
  cases r <;> cases h <;> exact ⟨rfl, rfl⟩
theorem flL_rep : ∀ {ds : List D} {vs us : List V}, flL ds = some us → RepL g T H ds vs → vs = us ∧ us.all flatV = true
  | [], _, _, h, .nil => by cases h; exact ⟨rfl, rfl⟩
  | d :: ds, _, _, h, .cons r rr => by
    unfold flL at h
    split at h
    · next v vs h1 h2 =>
      cases h
      obtain ⟨rfl, f1⟩ := flD_rep h1 r
      obtain ⟨rfl, f2⟩ := flL_rep h2 rr
      exact ⟨rfl, by rw [List.all_cons, f1, f2]; rfl⟩
    · cases h
def cntD (m : M) (x y : D) : Option D := match (lstR m x).bind flL, flD y with
  | some ys, some v => some (.int ((ys.countP fun z => eqV z v : Nat) : Int))
  | _, _ => none
def eCnt (a b : EF) : EF := fun ρ m => bd (a ρ m) fun x m1 => if (lstR m1 x).isSome then bd (b ρ m1) fun y m2 => pu (cntD m2 x y) m2 else none
theorem de_count {fo fe : EF} (ho : DE X o fo) (he : DE X e fe) (hbase : attributeBase o "count" X.env (eval o X.env) = eval o X.env := by rfl)
    (hfew : ((backTo pos (starEach [e] X.env)).all (fun x => !x.1) && (backToKw pos (keywordEach [] X.env)).all (fun x => x.1.isSome)
      && decide (([e] : List Expr).length + ([] : List Keyword).length + (if ([] : List Keyword).isEmpty then 0 else 1) < 30)) = true := by rfl)
    (hline : (apos.endLine == pos.line) = true := by rfl) (hs : starEach [e] X.env = (false, eval e X.env) :: starEach [] X.env := by rfl) (hplain : (backTo pos (starEach [] X.env)).any (·.1) = false := by rfl) :
    DE X (.Call (.Attribute o "count" apos) [e] [] pos) (eCnt fo fe) := by
  obtain ⟨to, po, ro⟩ := ho.ex; obtain ⟨te, pe, re⟩ := he.ex
  refine ⟨_, pe_bm PySem.F.plainAttrs_list PySem.F.slot_list_count PySem.F.type_list_count mt_cntF po (pa_cons pe pa_nil hs) hbase hfew hline hs hplain, fun T σ H ρ m d m' hm hs hf Q k => ?_⟩
  obtain ⟨y, m1, e1, hf⟩ := bd_some hf
  obtain ⟨h0, hf⟩ := ite_some hf
  obtain ⟨z, m2, e2, hf⟩ := bd_some hf
  obtain ⟨e3, rfl⟩ := pu_some hf
  refine ro T σ H ρ m y m1 hm hs e1 _ fun v T1 H1 l1 hm1 r1 => ?_
  obtain ⟨ds, hds⟩ := Option.isSome_iff_exists.mp h0
  obtain ⟨a, vs, rfl, hq, _⟩ := lstR_rep hm1 r1 hds
  refine ⟨.inl ⟨rfl, vs, hq⟩, re T1 σ H1 ρ m1 z _ hm1 (hs.le l1) e2 _ fun u T2 H2 l2 hm2 r2 => ?_⟩
  unfold cntD at e3
  split at e3
  · next ys w h1 h2 =>
    cases e3
    obtain ⟨ds2, h3, h4⟩ := Option.bind_eq_some_iff.mp h1
    obtain ⟨a2, vs2, ea, hq2, rl2⟩ := lstR_rep hm2 (r1.le l2) h3
    cases ea
    obtain ⟨rfl, f1⟩ := flL_rep h4 rl2
    obtain ⟨rfl, f2⟩ := flD_rep h2 r2
    exact ⟨a, vs2, u, rfl, rfl, hq2, f2, f1, k _ T2 H2 (l1.trans l2) hm2 (.int _)⟩
  · cases e3
end
/-! a dict's entries -/
def Ents (g : G) (a : Addr) (u : HO) (ks vs : List V) : Prop :=
  (∃ kvs : List (L2.Key × V), u = .dK kvs ∧ ks = kvs.map (fun p => kV p.1) ∧ vs = kvs.map Prod.snd) ∨
  ∃ kvs : NV, u = dnO g a kvs ∧ ks = kvs.map (fun p => .ref p.2.1) ∧ vs = kvs.map fun p => p.2.2
theorem nvals_rel : ∀ {kvs : NV} {xs : List (NestedKey × Addr × Value)}, Paired NP kvs xs → Vals (kvs.map fun p => p.2.2) (xs.map fun q => q.2.2)
  | _, _, .nil => .nil
  | _, _, .cons h t => .cons h.2.2 (nvals_rel t)
theorem kvals_rel : ∀ {kvs : List (L2.Key × V)} {xs : List (L2.Key × Value)}, L2.KV kvs xs → Vals (kvs.map Prod.snd) (xs.map Prod.snd)
  | _, _, .nil => .nil
  | _, _, .cons h t => .cons h.2 (kvals_rel t)
theorem vals_get {xs : List V} {us : List Value} (hl : xs.length = us.length) (h : ∀ (i : Nat) v u, xs[i]? = some v → us[i]? = some u → RelV v u) : Vals xs us := by
  induction xs generalizing us with
  | nil => cases us with
    | nil => exact .nil
    | cons _ _ => cases hl
  | cons v vs ih => cases us with
    | nil => cases hl
    | cons u us => exact .cons (h 0 v u rfl rfl) (ih (by simpa using hl) fun i a b p q => h (i + 1) a b (by simpa using p) (by simpa using q))
theorem ents_raw {g : G} {H : Hp} {h : Heap} {a : Addr} {u : HO} {ks vs : List V} (e : Ents g a u ks vs) (ok : ObjOk g.P g.w H h a u) :
    (a == sysModules) = false ∧ ks.length ≤ sizeLine ∧ ks.length = vs.length ∧ ∃ es ep, h.DictRaw a es ep ∧ Vals ks (es.toList.map (·.key)) ∧ Vals vs (es.toList.map (·.val)) := by
  rcases e with ⟨kvs, rfl, rfl, rfl⟩ | ⟨kvs, rfl, rfl, rfl⟩
  · obtain ⟨z, lo, xs, rel, dd⟩ := ok
    obtain ⟨es, ep, hr, h2, h3⟩ := Heap.DictOf.raw dd
    have hl : kvs.length = xs.length := Paired.length rel
    refine ⟨lo, by rw [List.length_map]; exact z, by rw [List.length_map, List.length_map], es, ep, hr, ?_, ?_⟩
    · refine vals_get (by have z1 : es.toList.length = es.size := Array.length_toList; simp only [List.length_map]; omega) fun i v w h4 h5 => ?_
      rw [List.getElem?_map] at h4 h5
      obtain ⟨⟨k0, v0⟩, h6, rfl⟩ := Option.map_eq_some_iff.mp h4
      obtain ⟨en, h7, rfl⟩ := Option.map_eq_some_iff.mp h5
      obtain ⟨y, h8, _⟩ := kv_get rel h6
      obtain ⟨hi, e2⟩ := List.getElem?_eq_some_iff.mp h7
      obtain ⟨h9, _⟩ := h3 i (by simpa using hi) k0 y h8
      have een : en = es[i]'(by simpa using hi) := by simpa using e2.symm
      rw [een]
      exact relV_key (show keyIs k0 _ = true from h9)
    · refine vals_get (by have z1 : es.toList.length = es.size := Array.length_toList; simp only [List.length_map]; omega) fun i v w h4 h5 => ?_
      rw [List.getElem?_map] at h4 h5
      obtain ⟨⟨k0, v0⟩, h6, rfl⟩ := Option.map_eq_some_iff.mp h4
      obtain ⟨en, h7, rfl⟩ := Option.map_eq_some_iff.mp h5
      obtain ⟨y, h8, ry⟩ := kv_get rel h6
      obtain ⟨hi, e2⟩ := List.getElem?_eq_some_iff.mp h7
      obtain ⟨_, h9⟩ := h3 i (by simpa using hi) k0 y h8
      have een : en = es[i]'(by simpa using hi) := by simpa using e2.symm
      rw [een, h9]
      exact ry
  · obtain ⟨⟨z, lo, xs, pr, ob, es, ep, h1, h2, h3, h4, _⟩, _⟩ := ok
    have ek : es.toList.map (·.key) = xs.map fun q => Value.ref q.2.1 := by rw [h4, List.map_map]; rfl
    have ev : es.toList.map (·.val) = xs.map fun q => q.2.2 := by rw [h4, List.map_map]; rfl
    refine ⟨lo, by rw [List.length_map]; exact z, by rw [List.length_map, List.length_map], es, ep, ⟨ob, h1, h2, h3⟩, ?_, ?_⟩
    · rw [ek]; exact nkeys_rel pr
    · rw [ev]; exact nvals_rel pr
/-- the entries of a locked dict, each as a new pair -/
def Itw (d : Addr) (ob : Obj) (u : HO) (ks vs : List V) : It :=
  ⟨fun i H => H d = some (.frz ob u) ∧ i < ks.length, fun i H z H' => ∃ t k v, ks[i]? = some k ∧ vs[i]? = some v ∧ z = .ref t ∧ H t = none ∧ H' = upd H t (.tup [k, v]), fun i H => H d = some (.frz ob u) ∧ ks.length = i⟩
theorem frz_raw {X : Cx} {pins : List (Addr × Obj)} {σ : L2.St} {H : Hp} {s : Shared} {d : Addr} {ob : Obj} {u : HO} {ks vs : List V} (I : Inv X pins σ H s) (e : Ents (gx X) d u ks vs) (h : H d = some (.frz ob u)) :
    (d == sysModules) = false ∧ ks.length = vs.length ∧ s.heap.get? d = some ob ∧ ob.ExactDict ∧ ∃ es ep, ob.data = .dict es ep ∧ s.heap.DictRaw d es ep ∧ es.size = ks.length ∧ Vals ks (es.toList.map (·.key)) ∧ Vals vs (es.toList.map (·.val)) := by
  obtain ⟨hd, ok⟩ := I.hok d _ h
  obtain ⟨lo, _, hl, es, ep, ⟨o2, h1, h2, h3⟩, rk, rv⟩ := ents_raw e ok
  have eo : o2 = ob := Option.some.inj (h1.symm.trans hd)
  subst eo
  have := rk.length
  rw [List.length_map, Array.length_toList] at this
  exact ⟨lo, hl, hd, h2, es, ep, h3, ⟨o2, h1, h2, h3⟩, this.symm, rk, rv⟩
theorem vals_idx {xs : List V} {us : List Value} {i : Nat} {v : V} (r : Vals xs us) (h : xs[i]? = some v) : ∃ u, us[i]? = some u ∧ RelV v u := r.get h
theorem turn_ents {P : Program} {w : World} {K : PySem.W.Frag} {elts : List Expr} {kk : Nat} {tpos : Pos} {d it : Addr} {ob : Obj} {u : HO} {ks vs : List V} {es : Array DictEntry} {ep : Nat} (e : Ents ⟨P, w, K⟩ d u ks vs) (hod : ob.data = .dict es ep) (hne : d ≠ it) :
    Turn P w K (.Tuple elts kk tpos) (Itw d ob u ks vs) [it] it (fun i h => ∃ ok ov, IsItemIter h it d i es.size ep ok ov) where
  mem := List.mem_singleton.mpr rfl
  obj := fun i h ⟨_, _, st⟩ b hb => by
    rw [List.mem_singleton.mp hb]
    exact ⟨_, st, fun v q => nomatch q⟩
  keep := fun i h h' ⟨ok, ov, st⟩ k => ⟨ok, ov, k it (List.mem_singleton.mpr rfl) _ st⟩
  item := by
    intro X hP hw hK hc i pins s σ H E I hf st ⟨hd, hi⟩
    subst hP hw hK
    obtain ⟨_, hl, _, _, es', ep', hd', raw, hz, rk, rv⟩ := frz_raw I e hd
    obtain ⟨rfl, rfl⟩ := dict_ep hod hd'
    have W := WalksT.rawItems (prog := X.prog) (w := X.w) (A := X.A) (I.ok.hd hc) it d hne es' ep'
    refine W.item i s _ E (by omega) ⟨st, raw⟩ fun t vals h' tk ⟨hi', ev⟩ hT isT mid hk => ?_
    subst ev
    refine ⟨_, rfl, W.go elts kk tpos i t { s with heap := h', toks := tk } _ E mid fun h'' st'' hk2 => ?_⟩
    obtain ⟨v, hv⟩ : ∃ v, vs[i]? = some v := ⟨vs[i]'(by omega), List.getElem?_eq_getElem (by omega)⟩
    have hk0 : ks[i]? = some ks[i] := List.getElem?_eq_getElem hi
    obtain ⟨uk, h1, r1⟩ := vals_idx rk hk0
    obtain ⟨uv, h2, r2⟩ := vals_idx rv hv
    rw [List.getElem?_map, Array.getElem?_toList, Array.getElem?_eq_getElem hi'] at h1 h2
    cases h1
    cases h2
    have tw := W.apart i t h' mid
    have new : ObjOk X.prog X.w (upd H t (.tup [ks[i], v])) h'' t (.tup [ks[i], v]) := by
      obtain ⟨ot, g1, g2⟩ := isT
      exact ⟨by show 2 ≤ sizeLine; decide, [_, _], .cons r1 (.cons r2 .nil), ot, hk2 t ot tw g1, g2⟩
    have I1 : Inv X pins σ (upd H t (.tup [ks[i], v])) { s with heap := h'', toks := tk } :=
      I.turnedNew (ch := [it]) (fun b o hb q => hk2 b o hb (hk b o hb q)) hf hT new
    refine ⟨.ref t, _, I1, rfl, ⟨t, _, v, hk0, hv, rfl, I.hok.fresh hT, rfl⟩, st''.1, fun b hb => ?_⟩
    rw [upd_ne (fun z => tw (by rw [← z]; exact hb))]
    exact (hf b hb).1
  done := by
    intro X hP hw hK hc i pins s σ H E I hf st ⟨hd, hi⟩
    subst hP hw hK
    obtain ⟨_, hl, _, _, es', ep', hd', raw, hz, rk, rv⟩ := frz_raw I e hd
    obtain ⟨rfl, rfl⟩ := dict_ep hod hd'
    have W := WalksT.rawItems (prog := X.prog) (w := X.w) (A := X.A) (I.ok.hd hc) it d hne es' ep'
    obtain ⟨f0, f1, f2, f3, f4, f5⟩ := hf it (List.mem_singleton.mpr rfl)
    have ei : i = es'.size := by omega
    subst ei
    exact W.done s _ E ⟨st, raw⟩ fun h' tk hk => ⟨rfl, I.turned (t' := tk) (fun b o hb q => hk b o (by simpa using hb) q) f0 f1 f3 f4 f5⟩
  self := fun A i s Q E ⟨_, _, st⟩ h => PySem.W.kcp_self st h
section
variable {X : Cx} {g : G} {T T' : Tk} {H H' : Hp} {m : M} {Q : VK} {pos p apos cpos tpos : Pos} {e o : Expr} {es : List Expr} {k n : Nat} {x c nm : Str}
def iEnts (X : Cx) (td : TE) : TI := fun σ H R => td σ H fun y H1 => ∃ d ob u ks vs, y = .ref d ∧ H1 d = some (.frz ob u) ∧ Ents (gx X) d u ks vs ∧ R (Itw d ob u ks vs) H1
theorem pi_ents {td : TE} {elts : List Expr} {kk : Nat} (he : PE X e td) (hbase : attributeBase e "items" X.env (eval e X.env) = eval e X.env := by rfl) (hline : (apos.endLine == cpos.line) = true := by rfl) :
    PI X (.Tuple elts kk tpos) (.Call (.Attribute e "items" apos) [] [] cpos) (iEnts X td) := by
  refine ⟨fun pins s σ H R I h => ?_⟩
  refine wpAny_Call_method (T := "dict") (id := "dict.items") hbase rfl hline F.plainAttrs_dict F.slot_dict_items F.type_dict_items (thn (he.run pins s σ H _ I h) fun v s1 ⟨y, H1, I1, ry, d, ob, u, ks, vs, ey, hd, en, q⟩ => ?_)
  subst ey
  cases ry
  obtain ⟨lo, hl, hg, hx, es, ep, hdt, raw, hz, rk, rv⟩ := frz_raw I1 en hd
  have hty : s1.TypeIs (.ref d) "dict" := raw.typeIs
  refine ⟨hty, fun a ea => by cases ea; exact ⟨ob, hg, hx.2.1⟩, ?_⟩
  have I2 : Inv X pins σ H1 { s1 with heap := s1.heap.push { cls := .type "dict_items", data := .fields #[.ref d] } } := I1.kept (t' := s1.toks) fun b o z => Heap.get?_push_of_some _ z
  have hlt : d < s1.heap.objs.size := Heap.lt_size hg
  refine method_meetsIn F.slot_dict_items F.entry_dict_items rfl (PySem.evalArgs_none ⟨rfl, hty, F.args_dict_items_1 _, _, meets_dict_items_raw d lo, ⟨es, ep, raw⟩, ?_⟩)
  refine wpAny_pyIter_items_raw (es := es) (ep := ep) ⟨_, Heap.get?_push_size _ rfl, rfl, rfl⟩ (raw.push _) ?_
  refine pi_one (tk := s1.toks) I2 _ (turn_ents en hdt ?_) ⟨.none, .none, Heap.get?_push_size _ rfl⟩ q
  rw [Heap.size_push]
  exact Nat.ne_of_lt (Nat.lt_succ_of_lt hlt)
/-! a dict locked: what it holds stands -/
def Dl : HO → Prop
  | .dK _ => True
  | .ext _ => True
  | _ => False
structure Lk (H H' : Hp) (d : Addr) (u : HO) : Prop where
  off : ∀ b, b ≠ d → H' b = H b
  dl : Dl u
  a : Rd H d u
  b : Rd H' d u
theorem Lk.ne {d b : Addr} {u v : HO} (l : Lk H H' d u) (h : H b = some v) (hv : ¬ Dl v) (hf : ∀ ob w, v = .frz ob w → ¬ Dl w) : b ≠ d := by
  rintro rfl
  rcases l.a with z | ⟨ob, z⟩
  · rw [h] at z; cases z; exact hv l.dl
  · rw [h] at z; cases z; exact hf _ _ rfl l.dl
theorem Lk.rd {d b : Addr} {u v : HO} (l : Lk H H' d u) (h : Rd H b v) (hv : Dl v) : Rd H' b v := by
  by_cases e : b = d
  · subst e
    have eu : u = v := by
      rcases h with h | ⟨ob, h⟩ <;> rcases l.a with z | ⟨oc, z⟩ <;> rw [h] at z <;> cases z
      · rfl
      · exact absurd hv (fun z => z)
      · exact absurd l.dl (fun z => z)
      · rfl
    rw [← eu]; exact l.b
  · rcases h with h | ⟨ob, h⟩
    · exact .inl ((l.off b e).trans h)
    · exact .inr ⟨ob, (l.off b e).trans h⟩
theorem Lk.st {d b : Addr} {u v : HO} (l : Lk H H' d u) (h : H b = some v) (hv : ¬ Dl v) (hf : ∀ ob w, v = .frz ob w → ¬ Dl w) : H' b = some v := (l.off b (l.ne h hv hf)).trans h
theorem FL.lk {d : Addr} {u : HO} (l : Lk H H' d u) {a : Addr} {vs : List V} (h : FL T H a vs) : FL T H' a vs := ⟨h.1, l.st h.2 (fun z => z) fun _ _ z => nomatch z⟩
theorem FS.lk {K : PySem.W.Frag} {d : Addr} {u : HO} (l : Lk H H' d u) {a : Addr} {vs : List V} (h : FS K T H a vs) : FS K T H' a vs := by
  rcases h with ⟨n, ob, h⟩ | h
  · exact .inl ⟨n, ob, l.st h (fun z => z) fun _ _ z => by cases z; exact fun z => z⟩
  · exact .inr h
theorem FT.lk {K : PySem.W.Frag} {d : Addr} {u : HO} (l : Lk H H' d u) {a : Addr} {vs : List V} (h : FT K T H a vs) : FT K T H' a vs := by
  rcases h with ⟨n, h⟩ | h
  · exact .inl ⟨n, l.st h (fun z => z) fun _ _ z => nomatch z⟩
  · exact .inr h
mutual
theorem Rep.lk {d : Addr} {u : HO} (l : Lk H H' d u) : ∀ {y : D} {v : V}, Rep g T H y v → Rep g T H' y v
  | _, _, .non => .non
  | _, _, .bl b => .bl b
  | _, _, .int i => .int i
  | _, _, .str x => .str x
  | _, _, .tup f r => .tup (f.lk l) (RepL.lk l r)
  | _, _, .lst f r => .lst (f.lk l) (RepL.lk l r)
  | _, _, .scr f r => .scr (f.lk l) (RepL.lk l r)
  | _, _, .dicF n h r q => .dicF n (l.rd h trivial) (RepL.lk l r) (RepL.lk l q)
  | _, _, .dicN n h e r q => .dicN n (l.rd h trivial) e (RepL.lk l r) (RepL.lk l q)
  | _, _, .obj n h e r => .obj n (l.st h (fun z => z) fun _ _ z => nomatch z) e (RepL.lk l r)
  | _, _, .ref h => .ref h
  | _, _, .glo x => .glo x
  | _, _, .ty n => .ty n
theorem RepL.lk {d : Addr} {u : HO} (l : Lk H H' d u) : ∀ {ys : List D} {vs : List V}, RepL g T H ys vs → RepL g T H' ys vs
  | _, _, .nil => .nil
  | _, _, .cons r s => .cons (Rep.lk l r) (RepL.lk l s)
end
theorem RepO.lk {d a : Addr} {u : HO} {ob : O} (l : Lk H H' d u) (hne : a ≠ d) (r : RepO g T H a ob) : RepO g T H' a ob := by
  cases r with
  | lst h r => exact .lst ((l.off a hne).trans h) (r.lk l)
  | dicF h r q => exact .dicF ((l.off a hne).trans h) (r.lk l) (q.lk l)
  | dicN h k r q => exact .dicN ((l.off a hne).trans h) k (r.lk l) (q.lk l)
  | ins h k r => exact .ins ((l.off a hne).trans h) k (r.lk l)
theorem RepH.lk {d : Addr} {u : HO} (l : Lk H H' d u) (hd : d ∉ T.ν) (r : RepH g T H m) : RepH g T H' m :=
  ⟨r.len, r.nd, fun a ha => by rw [l.off a (fun z => hd (by rw [← z]; exact ha))]; exact r.has a ha,
    fun n a ob h1 h2 => (r.at_ n a ob h1 h2).lk l fun z => hd (T.sub d (by rw [← z]; exact List.mem_of_getElem? h1))⟩
theorem RepS.lk {d : Addr} {u : HO} {σ : L2.St} {ρ : Ss} (l : Lk H H' d u) (r : RepS g T H σ ρ) : RepS g T H' σ ρ := ⟨r.len, fun i y h => by obtain ⟨v, e, q⟩ := r.at_ i y h; exact ⟨v, e, q.lk l⟩⟩
/-- a dict is let go again -/
structure Let (H : Hp) (T : Tk) (d : Addr) (ob : Obj) (u : HO) : Prop where
  h : H d = some u
  dl : Dl u
  out : d ∉ T.ν
section
variable {d : Addr} {ob : Obj} {u : HO} {T1 : Tk} {H1 : Hp}
theorem Let.lk (l : Let H T d ob u) : Lk H (upd H d (.frz ob u)) d u := ⟨fun b hb => upd_ne hb, l.dl, .inl l.h, .inr ⟨ob, upd_same⟩⟩
theorem Let.at_ (l : Let H T d ob u) (q : Le T (upd H d (.frz ob u)) T1 H1) : H1 d = some (.frz ob u) := q.keep d _ upd_same (Tk.out l.out)
theorem Let.out1 (l : Let H T d ob u) (q : Le T (upd H d (.frz ob u)) T1 H1) : d ∉ T1.ν := q.out (upd_same (o := HO.frz ob u)) l.out
theorem Let.lk1 (l : Let H T d ob u) (q : Le T (upd H d (.frz ob u)) T1 H1) : Lk H1 (upd H1 d u) d u := ⟨fun b hb => upd_ne hb, l.dl, .inr ⟨ob, l.at_ q⟩, .inl upd_same⟩
theorem Let.le (l : Let H T d ob u) (q : Le T (upd H d (.frz ob u)) T1 H1) : Le T H T1 (upd H1 d u) := by
  have gone : ∀ a, upd H d (.frz ob u) a = none → H a = none := fun a z => by
    by_cases e : a = d
    · subst e; rw [upd_same] at z; cases z
    · rw [upd_ne e] at z; exact z
  refine ⟨q.pre, fun a v h n => ?_, fun a h n => gone a (q.new a h n), fun a h n => gone a (q.newμ a h n), q.up⟩
  by_cases e : a = d
  · subst e
    rw [upd_same]
    exact l.h.symm.trans h
  · rw [upd_ne e]
    exact q.keep a v (by rw [upd_ne e]; exact h) n
def unl (D : Ends) (d : Addr) (ob : Obj) (u : HO) : Ends := ⟨fun σ' H' => H' d = some (.frz ob u) ∧ D.nx σ' (upd H' d u), fun v H' => H' d = some (.frz ob u) ∧ D.rt v (upd H' d u), fun σ' H' => H' d = some (.frz ob u) ∧ D.bk σ' (upd H' d u), fun σ' H' => H' d = some (.frz ob u) ∧ D.ct σ' (upd H' d u)⟩
theorem Let.kf (l : Let H T d ob u) {r : Fl} {D : Ends} (k : KF g T H m r D) : KF g T (upd H d (.frz ob u)) m r (unl D d ob u) := by
  cases r with
  | nx ρ => exact fun σ1 T1 H1 q hm hs => ⟨l.at_ q, k σ1 T1 _ (l.le q) (hm.lk (l.lk1 q) (l.out1 q)) (hs.lk (l.lk1 q))⟩
  | rt y => exact fun v T1 H1 q hm r => ⟨l.at_ q, k v T1 _ (l.le q) (hm.lk (l.lk1 q) (l.out1 q)) (r.lk (l.lk1 q))⟩
  | bk ρ => exact fun σ1 T1 H1 q hm hs => ⟨l.at_ q, k σ1 T1 _ (l.le q) (hm.lk (l.lk1 q) (l.out1 q)) (hs.lk (l.lk1 q))⟩
  | ct ρ => exact fun σ1 T1 H1 q hm hs => ⟨l.at_ q, k σ1 T1 _ (l.le q) (hm.lk (l.lk1 q) (l.out1 q)) (hs.lk (l.lk1 q))⟩
end
/-- the turns of a loop over items that stand -/
theorem for_go {tg' : TG} {tb : TS} {fg : GF} {fb : SF} (rg : RfG g tg' fg) (rb : RfS g tb fb) {J : It} {ds : List D} {σ : L2.St} {ρ : Ss} {r : Fl} {m' : M} {D : Ends} (ok : ItOk g T H J ds) (hm : RepH g T H m) (hs : RepS g T H σ ρ)
    (hf : forGo fg fb ds ρ m = some (r, m')) (k : KF g T H m' r D) : ∃ W : Nat → Nat → L2.St → Hp → Prop, (∃ n, W 0 n σ H) ∧ ∀ i n σ1 H1, W i n σ1 H1 →
      (J.stop i H1 ∧ D.nx σ1 H1) ∨ (J.go i H1 ∧ ∃ N : L2.St → Hp → Prop, (∀ σ' H', N σ' H' → ∃ n', n' < n ∧ W (i + 1) n' σ' H') ∧ ∀ z H', J.yld i H1 z H' → tg' z σ1 H' fun σ2 H2 => tb { D with nx := N, ct := N, bk := D.nx } σ2 H2) := by
  refine ⟨fun i n σ1 H1 => ∃ T1 ρ1 m1 rest, ds.drop i = rest ∧ rest.length = n ∧ i + n = ds.length ∧ Le T H T1 H1 ∧ RepH g T1 H1 m1 ∧ RepS g T1 H1 σ1 ρ1 ∧ forGo fg fb rest ρ1 m1 = some (r, m'), ⟨ds.length, T, ρ, m, ds, rfl, rfl, by omega, .refl, hm, hs, hf⟩, ?_⟩
  rintro i n σ1 H1 ⟨T1, ρ1, m1, rest, hd, hn, hin, l1, hm1, hs1, hf1⟩
  obtain ⟨okG, okS⟩ := ok T1 H1 l1 m1 hm1 i
  cases rest with
  | nil =>
    cases hn
    cases hf1
    exact .inl ⟨okS (by simp at hin; omega), k σ1 T1 H1 l1 hm1 hs1⟩
  | cons y ys =>
    have hy : ds[i]? = some y := by
      have := congrArg List.head? hd
      simpa [List.head?_drop] using this
    have hd' : ds.drop (i + 1) = ys := by
      have := congrArg List.tail hd
      simpa [List.tail_drop] using this
    obtain ⟨go, yl⟩ := okG y hy
    refine .inr ⟨go, _, fun _ _ z => z, fun z H2 hyl => ?_⟩
    obtain ⟨T2, l2, hm2, r2⟩ := yl z H2 hyl
    obtain ⟨ρ3, m3, e3, hf3⟩ := bd_some hf1
    refine rg T2 σ1 H2 ρ1 m1 y z ρ3 m3 hm2 (hs1.le l2) r2 e3 _ fun σ3 T3 H3 l3 hm3 hs3 => ?_
    obtain ⟨fl, m4, e4, hf4⟩ := bd_some hf3
    refine rb T3 σ3 H3 ρ3 m3 fl m4 hm3 hs3 e4 _ ?_
    have l13 := l1.trans (l2.trans l3)
    have nxt : ∀ ρ4, forGo fg fb ys ρ4 m4 = some (r, m') → ∀ σ4 T4 H4, Le T3 H3 T4 H4 → RepH g T4 H4 m4 → RepS g T4 H4 σ4 ρ4 → ∃ n', n' < n ∧ ∃ T1 ρ1 m1 rest, ds.drop (i + 1) = rest ∧ rest.length = n' ∧ i + 1 + n' = ds.length ∧ Le T H T1 H4 ∧ RepH g T1 H4 m1 ∧ RepS g T1 H4 σ4 ρ1 ∧ forGo fg fb rest ρ1 m1 = some (r, m') := fun ρ4 h σ4 T4 H4 l4 hm4 hs4 =>
      ⟨ys.length, by rw [← hn]; exact Nat.lt_succ_self _, T4, ρ4, m4, ys, hd', rfl, by simp at hn; omega, l13.trans l4, hm4, hs4, h⟩
    cases fl with
    | nx ρ4 => exact nxt ρ4 hf4
    | ct ρ4 => exact nxt ρ4 hf4
    | bk ρ4 => cases hf4; exact KS.le l13 k
    | rt y => cases hf4; exact KV.le l13 k
theorem ps_or {st : Stmt} {t u : TS} (h1 : PS X st t) (h2 : PS X st u) : PS X st (fun D σ H => t D σ H ∨ u D σ H) := ⟨fun pins s σ H D I h => h.elim (h1.run pins s σ H D I) (h2.run pins s σ H D I)⟩
def prsD : List D → List D → Option (List D)
  | [], [] => some []
  | k :: ks, v :: vs => (prsD ks vs).map (.tup [k, v] :: ·)
  | _, _ => none
theorem prsD_at : ∀ {ks vs ps : List D}, prsD ks vs = some ps → ks.length = ps.length ∧ ∀ (i : Nat) d, ps[i]? = some d → ∃ k v, ks[i]? = some k ∧ vs[i]? = some v ∧ d = .tup [k, v]
  | [], [], _, h => by cases h; exact ⟨rfl, fun i d h => by simp at h⟩
  | [], _ :: _, _, h => by cases h
  | _ :: _, [], _, h => by cases h
  | k :: ks, v :: vs, _, h => by
    obtain ⟨ps, h1, rfl⟩ := Option.map_eq_some_iff.mp h
    obtain ⟨h2, h3⟩ := prsD_at h1
    refine ⟨by simp [h2], fun i d hd => ?_⟩
    cases i with
    | zero => cases hd; exact ⟨k, v, rfl, rfl, rfl⟩
    | succ i => exact h3 i d hd
theorem itok_ents {d : Addr} {ob : Obj} {u : HO} {ks vs : List V} {kd vd ps : List D} (hd : d ∉ T.μ) (h : H d = some (.frz ob u)) (hp : prsD kd vd = some ps) (rk : RepL g T H kd ks) (rv : RepL g T H vd vs) : ItOk g T H (Itw d ob u ks vs) ps := by
  intro T1 H1 l m1 hm1 i
  obtain ⟨h1, h2⟩ := prsD_at hp
  have st := l.keep d _ h hd
  have hl := rk.length
  refine ⟨fun y hy => ?_, fun hi => ⟨st, by omega⟩⟩
  obtain ⟨k, v, h3, h4, rfl⟩ := h2 i y hy
  obtain ⟨k', h5, r5⟩ := rk.get h3
  obtain ⟨v', h6, r6⟩ := rv.get h4
  refine ⟨⟨st, (List.getElem?_eq_some_iff.mp h5).1⟩, ?_⟩
  rintro z H2 ⟨t, k2, v2, h7, h8, rfl, hn, rfl⟩
  rw [h5] at h7
  rw [h6] at h8
  cases h7
  cases h8
  obtain ⟨l3, hm3⟩ := hm1.fresh (p := t) (u := .tup [k', v']) hn
  exact ⟨T1, l3, hm3, .tup (.inl ⟨hm1.nope hn, upd_same⟩) (.cons (r5.le (l.trans l3)) (.cons (r6.le (l.trans l3)) .nil))⟩
/-- what a dict that isn't tracked is in the heap -/
theorem dic_ents {ks vs : List D} {v : V} (r : Rep (gx X) T H (.dic ks vs) v) : ∃ a u kx vx, v = .ref a ∧ a ∉ T.ν ∧ Rd H a u ∧ Dl u ∧ Mut (some u) ∧ Ents (gx X) a u kx vx ∧ RepL (gx X) T H ks kx ∧ RepL (gx X) T H vs vx := by
  cases r with
  | @dicF a kvs _ _ n h r q => exact ⟨a, _, _, _, rfl, n, h, trivial, trivial, .inl ⟨kvs, rfl, rfl, rfl⟩, r, q⟩
  | @dicN a kvs _ _ n h e r q => exact ⟨a, _, _, _, rfl, n, h, trivial, trivial, .inr ⟨kvs, rfl, rfl, rfl⟩, r, q⟩
def sForE (i : Nat) (fg : GF) (fb : SF) : SF := fun ρ m => match ρ.getD i none with
  | some (.dic ks vs) => match prsD ks vs with
    | some ps => forGo fg fb ps ρ m
    | none => none
  | _ => none
theorem ds_forItems {i : Nat} {body : List Stmt} {elts : List Expr} {kk : Nat} {fg : GF} {fb : SF} (hp : PassesOwn (model X.prog X.w) X.A X.env X.xe) (hc : X.calm = true) (hN : X.N[i]? = some x) (hv : Vis X.env.scope x) (hg : DG X (.Tuple elts kk tpos) fg) (hb : DSs X body fb)
    (hd : (x == ("__debug__" : Str)) = false := by decide) (hcd : (x == ("__classdict__" : Str)) = false := by decide)
    (hbase : attributeBase (.Name x p) "items" X.env (eval (.Name x p) X.env) = eval (.Name x p) X.env := by rfl) (hline : (apos.endLine == cpos.line) = true := by rfl)
    (hs : ∀ z, foldedSetIterable (.Call (.Attribute (.Name x p) "items" apos) [] [] cpos) X.env z = pure z := by intro _; rfl) :
    DS X (.For (.Tuple elts kk tpos) (.Call (.Attribute (.Name x p) "items" apos) [] [] cpos) body [] pos) (sForE i fg fb) := by
  obtain ⟨tg', pg, rg⟩ := hg.ex; obtain ⟨tb, pb, rb⟩ := hb.ex
  have base := ps_for (pos := pos) hp hc (pi_ents (apos := apos) (cpos := cpos) (pe_var (pos := p) hN hv hd hcd) hbase hline) pg pb hs
  refine ⟨_, ps_or base (ps_lock base), fun T σ H ρ m r m' hm hsl hf D k => ?_⟩
  unfold sForE at hf
  split at hf
  · next ks vs hq =>
    split at hf
    · next ps hps =>
      obtain ⟨v, e1, rv⟩ := hsl.at_ i _ (by
        rw [List.getD_eq_getElem?_getD] at hq
        cases h : ρ[i]? with
        | none => rw [h] at hq; cases hq
        | some o => rw [h] at hq; cases hq; rfl)
      obtain ⟨a, u, kx, vx, rfl, na, hr, dl, mu, en, rk, rw_⟩ := dic_ents rv
      rcases hr with hr | ⟨ob, hr⟩
      · refine .inr ⟨a, u, hr, mu, fun ob => ?_⟩
        have L : Let H T a ob u := ⟨hr, dl, na⟩
        refine ⟨.ref a, e1, a, ob, u, kx, vx, rfl, upd_same, en, ?_⟩
        exact for_go rg rb (itok_ents (Tk.out na) upd_same hps (rk.lk L.lk) (rw_.lk L.lk)) (hm.lk L.lk na) (hsl.lk L.lk) hf (L.kf k)
      · exact .inl ⟨.ref a, e1, a, ob, u, kx, vx, rfl, hr, en, for_go rg rb (itok_ents (Tk.out na) hr hps rk rw_) hm hsl hf k⟩
    · cases hf
  · cases hf
end
end L4

/-! max(d.values()) -/
namespace L4
open PySem PySem.Spec PyProof.Rows L2
section
variable {X : Cx} {g : G} {T T' : Tk} {H H' : Hp} {m : M} {Q : VK} {pos p apos cpos tpos : Pos} {e o : Expr} {es : List Expr} {k n : Nat} {x c nm : Str}
def valsO (p d : Addr) : HO := .ext fun h => h.IsValuesView p d
theorem valsO_ok {P : Program} {w : World} {H : Hp} {h : Heap} {p d : Addr} {ob : Obj} (e : h.get? p = some ob) (hc : ob.cls = .type "dict_values") (hd : ob.data = .fields #[.ref d]) : ObjOk P w H h p (valsO p d) :=
  ⟨⟨ob, e, hc, hd⟩, ⟨ob, e⟩, fun _ _ ⟨o1, e1, c1, d1⟩ k => ⟨o1, k _ e1, c1, d1⟩⟩
def tVals (X : Cx) (te : TE) : TE := fun σ H Q => te σ H fun v H1 => ∃ a u ks vs, v = .ref a ∧ Rd H1 a u ∧ Ents (gx X) a u ks vs ∧ ∀ p, H1 p = none → Q (.ref p) (upd H1 p (valsO p a))
theorem pe_vals {te : TE} (he : PE X e te) (hbase : attributeBase e "values" X.env (eval e X.env) = eval e X.env := by rfl) (hline : (apos.endLine == cpos.line) = true := by rfl) : PE X (.Call (.Attribute e "values" apos) [] [] cpos) (tVals X te) := by
  refine ⟨fun pins s σ H Q I h => ?_⟩
  refine wpAny_Call_method (T := "dict") (id := "dict.values") hbase rfl hline F.plainAttrs_dict F.slot_dict_values F.type_dict_values (thn (he.run pins s σ H _ I h) fun v s1 ⟨y, H1, I1, ry, a, u, ks, vs, ey, hr, en, q⟩ => ?_)
  subst ey
  cases ry
  obtain ⟨lo, _, _, es, ep, raw, _, _⟩ := ents_raw en (hr.ok I1.hok)
  have hty : s1.TypeIs (.ref a) "dict" := raw.typeIs
  refine ⟨hty, fun b eb => by cases eb; obtain ⟨ob, h1, h2, _⟩ := raw; exact ⟨ob, h1, h2.2.1⟩, ?_⟩
  refine method_meetsIn F.slot_dict_values F.entry_dict_values rfl (PySem.evalArgs_none ⟨rfl, hty, F.args_dict_values_1 _, _, meets_dict_values_raw a lo, ⟨es, ep, raw⟩, ?_⟩)
  exact ⟨.ref s1.heap.objs.size, _, I1.laid (t' := s1.toks) (fun b ob z => Heap.get?_push_of_some _ z) (Nat.le_refl _) (valsO_ok (Heap.get?_push_size _ rfl) rfl rfl), rfl, q _ (I1.hok.fresh (Nat.le_refl _))⟩
def rMaxV (X : Cx) : List V → Hp → VK → Prop := fun vs H Q => ∃ (p a : Addr) (u : HO) (ks : List V) (ns : List Int), vs = [.ref p] ∧ H p = some (valsO p a) ∧ Rd H a u ∧ Ents (gx X) a u ks (ns.map V.int) ∧ 0 < ns.length ∧ ∀ m, m ∈ ns → (∀ y, y ∈ ns → y ≤ m) → Q (.int m) H
theorem cr_maxV (hc : X.calm = true) : CallR X (.builtin "max") (rMaxV X) := by
  intro pins s σ H vs us Q I r h
  obtain ⟨p, a, u, ks, ns, rfl, hp, hr, en, hne, q⟩ := h
  rw [Vals.ref1 r]
  obtain ⟨view, _⟩ := I.hok p _ hp
  obtain ⟨lo, _, _, es, ep, raw, _, rv⟩ := ents_raw en (hr.ok I.hok)
  have hlt : a < s.heap.objs.size := by obtain ⟨ob, h1, _⟩ := raw; exact Heap.lt_size h1
  have hn : es.size = ns.length := by
    have z1 : es.toList.length = es.size := Array.length_toList
    have z2 := rv.length
    simp only [List.length_map] at z2
    omega
  let val : Nat → Int := fun i => ns.getD i 0
  have at_ : ∀ i v, (∃ hi : i < es.size, v = es[i].val) → ∃ t : Tok, v = .int (val i) t := by
    rintro i v ⟨hi, rfl⟩
    have h1 : (ns.map V.int)[i]? = some (.int (val i)) := by
      rw [List.getElem?_map, List.getElem?_eq_getElem (by omega)]
      simp [val, List.getD_eq_getElem?_getD, List.getElem?_eq_getElem (show i < ns.length by omega)]
    obtain ⟨w, h2, t, h3⟩ := vals_idx rv h1
    rw [List.getElem?_map, Array.getElem?_toList, Array.getElem?_eq_getElem hi] at h2
    cases h2
    exact ⟨t, h3⟩
  refine call_max_walk (wpAny_pyIter_values_raw (es := es) (ep := ep) view raw ?_)
  refine ⟨s.heap.objs.size, [s.heap.objs.size, a], [s.heap.objs.size], es.size, _, _, _, rfl, Walks.rawValues (A := X.A.in1) (I.ok.hd hc) s.heap.objs.size a (Nat.ne_of_lt hlt) es ep, ⟨⟨_, Heap.get?_push_size _ rfl, rfl, rfl⟩, raw.push _⟩, fun b hb => ?_, by omega, CmpOf.ints_gt val at_, fun v h' tk hv hk => ?_⟩
  · have hb' : b = s.heap.objs.size ∨ b = a := by simpa using hb
    rw [Heap.size_push]
    rcases hb' with z | z
    · rw [z]; exact Nat.lt_succ_self _
    · rw [z]; exact Nat.lt_succ_of_lt hlt
  · obtain ⟨t, rfl⟩ := at_ _ _ hv
    obtain ⟨h1, h2⟩ := argBest_gt val (es.size - 1)
    refine ⟨.int _, H, I.kept (t' := tk) (fun b ob z => hk b ob (fun y => ?_) (Heap.get?_push_of_some _ z)), ⟨t, rfl⟩, q _ ?_ fun y hy => ?_⟩
    · rw [List.mem_singleton.mp y] at z
      exact absurd (Heap.lt_size z) (Nat.lt_irrefl _)
    · obtain ⟨hi, _⟩ := hv
      show ns.getD _ 0 ∈ ns
      rw [List.getD_eq_getElem?_getD, List.getElem?_eq_getElem (by omega)]
      exact List.getElem_mem _
    · obtain ⟨j, hj, rfl⟩ := List.getElem_of_mem hy
      have := h2 j (by omega)
      simpa [val, List.getD_eq_getElem?_getD, List.getElem?_eq_getElem hj] using this
/-- the values of a dict -/
def valsM (m : M) : D → Option (List D)
  | .dic _ vs => some vs
  | .ref n => match m[n]? with
    | some (.dic _ vs) => some vs
    | _ => none
  | _ => none
theorem dic_any {y : D} {vs : List D} {v : V} (hm : RepH (gx X) T H m) (r : Rep (gx X) T H y v) (h : valsM m y = some vs) : ∃ a u kx vx, v = .ref a ∧ Rd H a u ∧ Ents (gx X) a u kx vx ∧ RepL (gx X) T H vs vx := by
  cases r with
  | @dicF a kvs _ _ n h1 r q => cases h; exact ⟨a, _, _, _, rfl, h1, .inl ⟨kvs, rfl, rfl, rfl⟩, q⟩
  | @dicN a kvs _ _ n h1 e r q => cases h; exact ⟨a, _, _, _, rfl, h1, .inr ⟨kvs, rfl, rfl, rfl⟩, q⟩
  | @ref n a ea =>
    have h : (match m[n]? with | some (.dic _ vs) => some vs | _ => none) = some vs := h
    split at h
    · next ks vs' hn =>
      cases h
      cases hm.at_ _ _ _ ea hn with
      | @dicF kvs _ _ h1 r q => exact ⟨a, _, _, _, rfl, .inl h1, .inl ⟨kvs, rfl, rfl, rfl⟩, q⟩
      | @dicN kvs _ _ h1 e r q => exact ⟨a, _, _, _, rfl, .inl h1, .inr ⟨kvs, rfl, rfl, rfl⟩, q⟩
    · cases h
  | _ => cases h
def eMaxV (a : EF) : EF := fun ρ m => bd (a ρ m) fun x m1 => match (valsM m1 x).bind intsD with
  | some (b :: l) => some (.int (maxI b l), m1)
  | _ => none
theorem de_maxV {f : EF} (hc : X.calm = true) (hg : Gl X "max") (hm : X.mg "max" = none) (he : DE X e f) (hbase : attributeBase e "values" X.env (eval e X.env) = eval e X.env := by rfl) (hline : (apos.endLine == cpos.line) = true := by rfl)
    (hs : starEach [.Call (.Attribute e "values" apos) [] [] cpos] X.env = (false, eval (.Call (.Attribute e "values" apos) [] [] cpos) X.env) :: starEach [] X.env := by rfl) : DE X (.Call (.Name "max" p) [.Call (.Attribute e "values" apos) [] [] cpos] [] pos) (eMaxV f) := by
  obtain ⟨t, pe, re⟩ := he.ex
  refine ⟨_, pe_callB (cr_maxV hc) hg hm (by decide +kernel) (pa_cons (pe_vals pe hbase hline) pa_nil hs), fun T σ H ρ m d m' hm hs hf Q k => ?_⟩
  obtain ⟨y, m1, e1, hf⟩ := bd_some hf
  refine re T σ H ρ m y m1 hm hs e1 _ fun v T1 H1 l1 hm1 r1 => ?_
  split at hf
  · next b l hb =>
    cases hf
    obtain ⟨vs, h1, h2⟩ := Option.bind_eq_some_iff.mp hb
    obtain ⟨a, u, kx, vx, rfl, hr, en, rl⟩ := dic_any hm1 r1 h1
    rw [ints_rep h2 rl] at en
    refine ⟨a, u, kx, _, rfl, hr, en, fun q hq => ?_⟩
    obtain ⟨l2, hm2⟩ := hm1.fresh (p := q) (u := valsO q a) hq
    have hr2 : Rd (upd H1 q (valsO q a)) a u := by
      rcases hr with z | ⟨ob, z⟩
      · exact .inl (by rw [upd_ne (ne_of_none z hq)]; exact z)
      · exact .inr ⟨ob, by rw [upd_ne (ne_of_none z hq)]; exact z⟩
    refine ⟨q, a, u, kx, b :: l, rfl, upd_same, hr2, en, Nat.succ_pos _, fun mx g1 g2 => ?_⟩
    rw [max_uniq rfl g1 g2]
    exact k _ T1 _ (l1.trans l2) hm2 (.int _)
  · cases hf
end
end L4

/-! len of a dict; dicts lent to a def that gives back what is no dict -/
namespace L4
open PySem PySem.Spec PyProof.Rows L2
section
variable {X : Cx} {g : G} {T T' : Tk} {H H' : Hp} {m : M} {Q : VK} {pos p apos cpos tpos : Pos} {e o : Expr} {es : List Expr} {k n : Nat} {x c nm : Str}
def rLenE (X : Cx) : List V → Hp → VK → Prop := fun vs H Q => ∃ (a : Addr) (u : HO) (kx vx : List V), vs = [.ref a] ∧ Rd H a u ∧ Ents (gx X) a u kx vx ∧ Q (.int ((vx.length : Nat) : Int)) H
theorem cr_lenE : CallR X (.builtin "len") (rLenE X) := by
  intro pins s σ H vs us Q I r h
  obtain ⟨a, u, kx, vx, rfl, hr, en, q⟩ := h
  rw [Vals.ref1 r]
  obtain ⟨lo, hz, hl, es, ep, raw, _, rv⟩ := ents_raw en (hr.ok I.hok)
  have z1 : es.toList.length = es.size := Array.length_toList
  have z2 := rv.length
  have z3 := sizeLine_eq
  simp only [List.length_map] at z2
  have hn : ((es.size : Nat) : Int) = ((vx.length : Nat) : Int) := by omega
  refine call_len_slot raw.typeIs F.slot_dict_len (n := es.size) (fun Q' q' => call_len_raw lo raw q') (by omega) (by omega) ?_
  exact ⟨.int ((vx.length : Nat) : Int), H, I.kept (t' := s.toks + 1 + 1) fun b ob z => z, ⟨s.toks + 1, by rw [hn]⟩, q⟩
def lenW (m : M) (xs : List D) : Option D := match xs with
  | [x] => match valsM m x with
    | some vs => some (.int ((vs.length : Nat) : Int))
    | none => lenD m xs
  | _ => lenD m xs
theorem crOr {f : Value} {r1 r2 : List V → Hp → VK → Prop} (h1 : CallR X f r1) (h2 : CallR X f r2) : CallR X f (fun vs H Q => r1 vs H Q ∨ r2 vs H Q) :=
  fun pins s σ H vs us Q I r h => h.elim (h1 pins s σ H vs us Q I r) (h2 pins s σ H vs us Q I r)
theorem call_lenW : CallD X (.builtin "len") lenW := by
  obtain ⟨r, c, q⟩ := (call_len' (X := X)).ex
  refine ⟨_, crOr cr_lenE c, fun T H m xs vs d hm rl hf Q k => ?_⟩
  unfold lenW at hf
  split at hf
  · split at hf
    · next vs' hv =>
      cases hf
      obtain ⟨v, rfl, rv⟩ := rl.one
      obtain ⟨a, u, kx, vx, rfl, hr, en, rl2⟩ := dic_any hm rv hv
      exact .inl ⟨a, u, kx, vx, rfl, hr, en, by rw [← rl2.length]; exact k.now hm (.int _)⟩
    · exact .inr (q T H m _ vs d hm rl hf Q k)
  · exact .inr (q T H m _ vs d hm rl hf Q k)
/-! dicts lent -/
mutual
def noDic : D → Bool
  | .tup ds => noDicL ds
  | .lst ds => noDicL ds
  | .scr ds => noDicL ds
  | .dic _ _ => false
  | .obj _ _ vs => noDicL vs
  | .ref _ => false
  | .non => true
  | .bl _ => true
  | .int _ => true
  | .str _ => true
  | .glo _ => true
  | .ty _ => true
def noDicL : List D → Bool
  | [] => true
  | d :: ds => noDic d && noDicL ds
end
def lend (m : M) : List D → Option (List D)
  | [] => some []
  | d :: ds => if pureD d then (lend m ds).map (d :: ·) else match d with
    | .ref n => match m[n]? with
      | some (.dic ks vs) => if pureL ks && pureL vs then (lend m ds).map (.dic ks vs :: ·) else none
      | _ => none
    | _ => none
def callL (F : List D → Option D) (m : M) (ds : List D) : Option D := match lend m ds with
  | some es => match F es with
    | some d => if noDic d then some d else none
    | none => none
  | none => none
/-- what is not lent, but held back -/
def Held (T : Tk) (H H' : Hp) (ν : List Addr) : Prop := (∀ a ∈ ν, a ∈ T.ν) ∧ ∀ a ∈ T.ν, a ∉ ν → ∃ u, H a = some u ∧ H' a = some u ∧ Dl u
theorem Held.out {ν : List Addr} (h : Held T H H' ν) {a : Addr} {v : HO} (n : a ∉ ν) (e : H' a = some v) (hv : ¬ Dl v) : a ∉ T.ν := fun z => by
  obtain ⟨u, _, h2, h3⟩ := h.2 a z n
  rw [e] at h2
  cases h2
  exact hv h3
mutual
theorem Rep.unlent {ν : List Addr} (h : Held T H H' ν) : ∀ (d : D) {v : V}, noDic d = true → Rep g (T0 ν) H' d v → Rep g T H' d v
  | .non, _, _, r => by cases r; exact .non
  | .bl _, _, _, r => by cases r; exact .bl _
  | .int _, _, _, r => by cases r; exact .int _
  | .str _, _, _, r => by cases r; exact .str _
  | .glo _, _, _, r => by cases r; exact .glo _
  | .ty _, _, _, r => by cases r; exact .ty _
  | .ref _, _, q, _ => by rw [noDic] at q; cases q
  | .dic _ _, _, q, _ => by rw [noDic] at q; cases q
  | .tup ds, _, q, r => by
    rw [noDic] at q
    cases r with
    | tup f r =>
      refine .tup ?_ (RepL.unlent h ds q r)
      rcases f with ⟨n, f⟩ | f
      · exact .inl ⟨h.out n f fun z => z, f⟩
      · exact .inr f
  | .lst ds, _, q, r => by
    rw [noDic] at q
    cases r with
    | lst f r => exact .lst ⟨h.out f.1 f.2 fun z => z, f.2⟩ (RepL.unlent h ds q r)
  | .scr ds, _, q, r => by
    rw [noDic] at q
    cases r with
    | scr f r =>
      refine .scr ?_ (RepL.unlent h ds q r)
      rcases f with ⟨n, ob, f⟩ | f
      · exact .inl ⟨h.out n f fun z => z, ob, f⟩
      · exact .inr f
  | .obj c ns vs, _, q, r => by
    rw [noDic] at q
    cases r with
    | obj n f e r => exact .obj (h.out n f fun z => z) f e (RepL.unlent h vs q r)
theorem RepL.unlent {ν : List Addr} (h : Held T H H' ν) : ∀ (ds : List D) {vs : List V}, noDicL ds = true → RepL g (T0 ν) H' ds vs → RepL g T H' ds vs
  | [], _, _, r => by cases r; exact .nil
  | d :: ds, _, q, r => by
    rw [noDicL] at q
    cases r with
    | cons r s => exact .cons (Rep.unlent h d (and2 q).1 r) (RepL.unlent h ds (and2 q).2 s)
end
theorem lend_ok {ν : List Addr} (hm : RepH g T H m) (hν : ∀ a ∈ ν, a ∈ T.ν) (hd : ∀ a u, H a = some u → Dl u → a ∉ ν) : ∀ {ds es : List D} {vs : List V}, lend m ds = some es → RepL g T H ds vs → RepL g (T0 ν) H es vs
  | [], _, _, h, .nil => by cases h; exact .nil
  | d :: ds, _, _, h, .cons r rr => by
    unfold lend at h
    split at h
    · next hp =>
      obtain ⟨es, h1, rfl⟩ := Option.map_eq_some_iff.mp h
      exact .cons (Rep.pure hν _ hp r) (lend_ok hm hν hd h1 rr)
    · split at h
      · next n =>
        split at h
        · next ks vs hn =>
          obtain ⟨hp, h⟩ := ite_some h
          obtain ⟨es, h1, rfl⟩ := Option.map_eq_some_iff.mp h
          cases r with
          | @ref _ a ea =>
            refine .cons ?_ (lend_ok hm hν hd h1 rr)
            cases hm.at_ _ _ _ ea hn with
            | dicF h2 r q => exact .dicF (hd a _ h2 trivial) (.inl h2) (RepL.pure hν _ (and2 hp).1 r) (RepL.pure hν _ (and2 hp).2 q)
            | dicN h2 e r q => exact .dicN (hd a _ h2 trivial) (.inl h2) e (RepL.pure hν _ (and2 hp).1 r) (RepL.pure hν _ (and2 hp).2 q)
        · cases h
      · cases h
open Classical in
theorem rf_callL {g : G} {n : Nat} {F : List D → Option D} (hn : ∀ ds d, F ds = some d → ds.length = n) : RfC g (fun vs H Q => spP g n F vs H Q E0) (callL F) := by
  intro T H m xs vs d hm r hf Q k
  unfold callL at hf
  split at hf
  · next es h1 =>
    split at hf
    · next d' h2 =>
      obtain ⟨hd, hf⟩ := ite_some hf
      cases hf
      let ν := T.ν.filter fun a => decide (∀ u, H a = some u → ¬ Dl u)
      have hν : ∀ a ∈ ν, a ∈ T.ν := fun a h => (List.mem_filter.mp h).1
      have hdl : ∀ a u, H a = some u → Dl u → a ∉ ν := fun a u h1 h2 h3 => by
        have := (List.mem_filter.mp h3).2
        exact (of_decide_eq_true this) u h1 h2
      have re := lend_ok hm hν hdl h1 r
      refine ⟨by rw [← re.length]; exact hn _ _ h2, ν, es, d, fun a h => hm.has a (hν a h), re, h2, fun v H' up rv => ?_⟩
      obtain ⟨l, hm'⟩ := hm.grow up
      refine k v T H' l hm' (Rep.unlent (H := H) ⟨hν, fun a ha hna => ?_⟩ _ hd rv)
      apply Classical.byContradiction
      intro hno
      apply hna
      refine List.mem_filter.mpr ⟨ha, decide_eq_true fun u hu hdu => hno ⟨u, hu, up a u hu, hdu⟩⟩
    · cases hf
  · cases hf
theorem de_pfnL {F : List D → Option D} {f : AF} (hF : PFn X.prog X.w X.K X.mg X.base k x n F) (gd : Gd k X) (hg : Gl X x) (ha : DA X (e :: es) f) (hdb : (x == ("__debug__" : Str)) = false := by decide)
    (he : starEach (e :: es) X.env = (false, eval e X.env) :: starEach es X.env := by rfl) (hpl : (backTo pos (starEach es X.env)).any (·.1) = false := by rfl) : DE X (.Call (.Name x p) (e :: es) [] pos) (eCall (callL F) f) := by
  obtain ⟨fa, fd, ps, G, hm, kp, b⟩ := hF.ex
  obtain ⟨t, pa, ra⟩ := ha.ex
  exact ⟨_, pe_callR (app_nil (r := fun _ _ _ => True) (G.call gd b .nil)) hg hm kp pa hdb he hpl, rf_call (rf_callL hF.len) ra⟩
end
end L4

/-! for x in d, d a dict that a name holds -/
namespace L4
open PySem PySem.Spec PyProof.Rows L2
def Itx (d : Addr) (ob : Obj) (u : HO) (ks : List V) : It :=
  ⟨fun i H => H d = some (.frz ob u) ∧ i < ks.length, fun i H z H' => H' = H ∧ ks[i]? = some z, fun i H => H d = some (.frz ob u) ∧ ks.length = i⟩
theorem turn_keysE {P : Program} {w : World} {K : PySem.W.Frag} {tg : Expr} {d it : Addr} {ob : Obj} {u : HO} {ks vs : List V} {es : Array DictEntry} {ep : Nat} (e : Ents ⟨P, w, K⟩ d u ks vs) (hod : ob.data = .dict es ep) (hne : d ≠ it) :
    Turn P w K tg (Itx d ob u ks) [it] it (fun i h => h.IsKeyIter it d i es.size ep) where
  mem := List.mem_singleton.mpr rfl
  obj := fun i h ⟨oi, st, _, dt⟩ b hb => by
    rw [List.mem_singleton.mp hb]
    exact ⟨oi, st, fun v q => by rw [dt] at q; cases q⟩
  keep := fun i h h' st k => st.at fun oi q => k it (List.mem_singleton.mpr rfl) oi q
  item := by
    intro X hP hw hK hc i pins s σ H E I hf st ⟨hd, hi⟩
    subst hP hw hK
    obtain ⟨_, hl, _, _, es', ep', hd', raw, hz, rk, rv⟩ := frz_raw I e hd
    obtain ⟨rfl, rfl⟩ := dict_ep hod hd'
    have W := Walks.rawKeys (prog := X.prog) (w := X.w) (A := X.A) (I.ok.hd hc) it d hne es' ep'
    obtain ⟨f0, f1, f2, f3, f4, f5⟩ := hf it (List.mem_singleton.mpr rfl)
    refine W.item i s _ E (by omega) ⟨st, raw⟩ fun v h' tk ⟨hi', ev⟩ st' hk => ?_
    subst ev
    have hk0 : ks[i]? = some ks[i] := List.getElem?_eq_getElem hi
    obtain ⟨uk, h1, r1⟩ := vals_idx rk hk0
    rw [List.getElem?_map, Array.getElem?_toList, Array.getElem?_eq_getElem hi'] at h1
    cases h1
    obtain ⟨oi, g1, g2, g3⟩ := id st'.1
    exact ⟨_, rfl, go_of (s := { s with heap := h', toks := tk }) g1 g2 g3 (by decide) ⟨_, H, I.turned (t' := tk) (fun b o hb q => hk b o (by simpa using hb) q) f0 f1 f3 f4 f5, r1, ⟨rfl, hk0⟩, st'.1, fun b hb => (hf b hb).1⟩⟩
  done := by
    intro X hP hw hK hc i pins s σ H E I hf st ⟨hd, hi⟩
    subst hP hw hK
    obtain ⟨_, hl, _, _, es', ep', hd', raw, hz, rk, rv⟩ := frz_raw I e hd
    obtain ⟨rfl, rfl⟩ := dict_ep hod hd'
    have W := Walks.rawKeys (prog := X.prog) (w := X.w) (A := X.A) (I.ok.hd hc) it d hne es' ep'
    obtain ⟨f0, f1, f2, f3, f4, f5⟩ := hf it (List.mem_singleton.mpr rfl)
    have ei : i = es'.size := by omega
    subst ei
    exact W.done s _ E ⟨st, raw⟩ fun h' tk hk => ⟨rfl, I.turned (t' := tk) (fun b o hb q => hk b o (by simpa using hb) q) f0 f1 f3 f4 f5⟩
  self := fun A i s Q E st h => wpAny_pyIter_keyiter st h
section
variable {X : Cx} {g : G} {T T' : Tk} {H H' : Hp} {m : M} {Q : VK} {pos p apos cpos tpos : Pos} {e o tg : Expr} {es : List Expr} {k n : Nat} {x c nm : Str}
def iKeysE (X : Cx) (td : TE) : TI := fun σ H R => td σ H fun y H1 => ∃ d ob u ks vs, y = .ref d ∧ H1 d = some (.frz ob u) ∧ Ents (gx X) d u ks vs ∧ R (Itx d ob u ks) H1
theorem pi_keysE {td : TE} (he : PE X e td) : PI X tg e (iKeysE X td) := by
  refine ⟨fun pins s σ H R I h => ?_⟩
  refine thn (he.run pins s σ H _ I h) fun v s1 ⟨y, H1, I1, ry, d, ob, u, ks, vs, ey, hd, en, q⟩ => ?_
  subst ey
  cases ry
  obtain ⟨lo, hl, hg, hx, es, ep, hdt, raw, hz, rk, rv⟩ := frz_raw I1 en hd
  have hlt : d < s1.heap.objs.size := Heap.lt_size hg
  exact wpAny_pyIter_dict_raw (es := es) (ep := ep) lo raw (pi_one (tk := s1.toks) I1 _ (turn_keysE en hdt (Nat.ne_of_lt hlt)) ⟨_, Heap.get?_push_size _ rfl, rfl, rfl⟩ q)
theorem itok_keys {d : Addr} {ob : Obj} {u : HO} {ks : List V} {kd : List D} (hd : d ∉ T.μ) (h : H d = some (.frz ob u)) (rk : RepL g T H kd ks) : ItOk g T H (Itx d ob u ks) kd := by
  intro T1 H1 l m1 hm1 i
  have st := l.keep d _ h hd
  have hl := rk.length
  refine ⟨fun y hy => ?_, fun hi => ⟨st, by omega⟩⟩
  obtain ⟨k', h5, r5⟩ := rk.get hy
  refine ⟨⟨st, (List.getElem?_eq_some_iff.mp h5).1⟩, ?_⟩
  rintro z H2 ⟨rfl, h7⟩
  rw [h5] at h7
  cases h7
  exact ⟨T1, .refl, hm1, r5.le l⟩
def sForN (fuel i : Nat) (fg : GF) (fb : SF) : SF := fun ρ m => match ρ.getD i none with
  | some (.dic ks _) => forGo fg fb ks ρ m
  | _ => sForA fuel (eVar i) fg fb ρ m
theorem ds_forN {i : Nat} {body : List Stmt} {fg : GF} {fb : SF} (fuel : Nat) (hp : PassesOwn (model X.prog X.w) X.A X.env X.xe) (hc : X.calm = true) (hN : X.N[i]? = some x) (hv : Vis X.env.scope x) (hg : DG X tg fg) (hb : DSs X body fb)
    (hd : (x == ("__debug__" : Str)) = false := by decide) (hcd : (x == ("__classdict__" : Str)) = false := by decide)
    (hs : ∀ z, foldedSetIterable (.Name x p) X.env z = pure z := by intro _; rfl) : DS X (.For tg (.Name x p) body [] pos) (sForN fuel i fg fb) := by
  obtain ⟨tA, pA, rA⟩ := (ds_forA (pos := pos) fuel hp hc (de_var (pos := p) hN hv hd hcd) hg hb hs).ex
  obtain ⟨tg', pg, rg⟩ := hg.ex; obtain ⟨tb, pb, rb⟩ := hb.ex
  have base := ps_for (pos := pos) hp hc (pi_keysE (tg := tg) (pe_var (pos := p) hN hv hd hcd)) pg pb hs
  refine ⟨_, ps_or (ps_or base (ps_lock base)) pA, fun T σ H ρ m r m' hm hsl hf D k => ?_⟩
  unfold sForN at hf
  split at hf
  · next ks vs hq =>
    left
    obtain ⟨v, e1, rv⟩ := hsl.at_ i _ (by
      rw [List.getD_eq_getElem?_getD] at hq
      cases h : ρ[i]? with
      | none => rw [h] at hq; cases hq
      | some o => rw [h] at hq; cases hq; rfl)
    obtain ⟨a, u, kx, vx, rfl, na, hr, dl, mu, en, rk, rw_⟩ := dic_ents rv
    rcases hr with hr | ⟨ob, hr⟩
    · refine .inr ⟨a, u, hr, mu, fun ob => ?_⟩
      have L : Let H T a ob u := ⟨hr, dl, na⟩
      exact ⟨.ref a, e1, a, ob, u, kx, vx, rfl, upd_same, en, for_go rg rb (itok_keys (Tk.out na) upd_same (rk.lk L.lk)) (hm.lk L.lk na) (hsl.lk L.lk) hf (L.kf k)⟩
    · exact .inl ⟨.ref a, e1, a, ob, u, kx, vx, rfl, hr, en, for_go rg rb (itok_keys (Tk.out na) hr rk) hm hsl hf k⟩
  · exact .inr (rA T σ H ρ m r m' hm hsl hf D k)
end
end L4

/-! calls by names alone: f(k = v, ..) -/
namespace L4
open PySem PySem.Spec PyProof.Rows L2
def pick {α : Type} (js : List Nat) (xs : List α) : List α := js.filterMap fun j => xs[j]?
theorem vals_pick {vs : List V} {us : List Value} (r : Vals vs us) : ∀ js : List Nat, Vals (pick js vs) (pick js us)
  | [] => .nil
  | j :: js => by
    have ih := vals_pick r js
    unfold pick at ih ⊢
    rw [List.filterMap_cons, List.filterMap_cons]
    cases h : vs[j]? with
    | some v =>
      obtain ⟨u, hu, q⟩ := r.get h
      rw [hu]
      exact .cons q ih
    | none =>
      have : us[j]? = none := by
        rw [List.getElem?_eq_none_iff] at h ⊢
        rw [← r.length]; exact h
      rw [this]
      exact ih
section
variable {g : G} {T : Tk} {H : Hp}
theorem RepL.pick {ds : List D} {vs : List V} (r : RepL g T H ds vs) : ∀ js : List Nat, RepL g T H (L4.pick js ds) (L4.pick js vs)
  | [] => .nil
  | j :: js => by
    have ih := RepL.pick r js
    unfold L4.pick at ih ⊢
    rw [List.filterMap_cons, List.filterMap_cons]
    cases h : ds[j]? with
    | some d =>
      obtain ⟨v, hv, q⟩ := r.get h
      rw [hv]
      exact .cons q ih
    | none =>
      have : vs[j]? = Option.none := by
        rw [List.getElem?_eq_none_iff] at h ⊢
        rw [← r.length]; exact h
      rw [this]
      exact ih
end
structure PFk (P : Program) (w : World) (K : PySem.W.Frag) (mg : Str → Option Value) (base : Heap) (k : Nat) (x : Str) (ks : List Str) (js : List Nat) (df : Bool) (n : Nat) (F : List D → Option D) : Prop where
  len : ∀ ds d, F ds = some d → ds.length = n
  ex : ∃ f fd ps dvs ds, FnG P w K mg base CX0 k f fd ps (spP ⟨P, w, K⟩ n F) ∧ mg x = some (.ref f) ∧ PySem.W.keepIn K (.ref f) = true ∧ Vals dvs ds ∧
    (∀ (s : Shared) (ws : List Value), K.In s.heap → ws.length = ks.length → BindsTo s fd ⟨[], ks.zip ws⟩ (ps.zip (pick js ws ++ ds))) ∧ ((df = false ∧ dvs = []) ∨ (df = true ∧ ∃ a, dvs = [.ref a] ∧ ∀ H, SqT K H a []))
section
variable {P : Program} {w : World} {K : PySem.W.Frag} {mg : Str → Option Value} {base : Heap} {k : Nat} {x q c : Str} {ps N ks : List Str} {st : Stmt} {b : SF} {js : List Nat}
abbrev Body (P : Program) (w : World) (K : PySem.W.Frag) (mg : Str → Option Value) (base : Heap) (k : Nat) (N : List Str) (x : Str) (st : Stmt) (b : SF) : Prop := ∀ (f : Addr) (cdv : Value) (A : Around) (outer : List Env) (s : Shared) (H : Hp) (E : XK), Gd k (cxOf CX0 P w K mg base N x (defScope st) f cdv A outer s H E).nox →
  DSs (cxOf CX0 P w K mg base N x (defScope st) f cdv A outer s H E).nox (defBody st) b
theorem pfk_df (D : L3.Df K mg x st) (S : FnScope N ps (defScope st))
    (hb : ∀ (kV doc pm : Value) (an : Option Addr) (cdv ct : Value) (ws : List Value), ws.length = ks.length → bindArgs (PySem.W.fnOf x x (defArgs st) (defBody st) (defScope st) .none kV doc pm an cdv ct) ⟨[], ks.zip ws⟩ = pure (ps.zip (pick js ws)))
    (hbody : Body P w K mg base k N x st b) : PFk P w K mg base (k + 1) x ks js false ps.length (runP ps.length N.length b) := by
  obtain ⟨f, fd, F, g⟩ := D.ex
  refine ⟨fun ds d h => runP_len h, f, fd, ps, [], [], fnG_all F S (fun vs H Q E h => h.1) (fun r => spP_run r) (hbody f), g, F.kp, .nil, fun s ws _ hl => ?_, .inl ⟨rfl, rfl⟩⟩
  obtain ⟨oc, od, kV, doc, pm, an, cdv, ct, osl, rfl, lk, hcd⟩ := F.ex
  rw [List.append_nil]
  exact .of_eq (hb kV doc pm an cdv ct ws hl)
abbrev BindK (x q : Str) (st : Stmt) (ps ks : List Str) (js : List Nat) (j : Nat) : Prop := ∀ (T : Addr) (kV doc pm : Value) (an : Option Addr) (cdv ct : Value) (ws its : List Value), ws.length = ks.length → its.length = 1 →
      ∃ k, bindArgs (PySem.W.fnOf x q (defArgs st) (defBody st) (defScope st) (.ref T) kV doc pm an cdv ct) ⟨[], ks.zip ws⟩ = seqItems? (.ref T) >>= k ∧ k (some its.toArray) = pure (ps.zip (pick js ws ++ its.drop j))
theorem fund_binds {f : Addr} {fd : FuncData} {a : Addr} {j : Nat} (F : FunD K x q (defArgs st) (defBody st) (defScope st) [.ref a] [] f fd) (hb : BindK x q st ps ks js j) :
    ∃ ds, Vals ([V.ref a].drop j) ds ∧ ∀ (s : Shared) (ws : List Value), K.In s.heap → ws.length = ks.length → BindsTo s fd ⟨[], ks.zip ws⟩ (ps.zip (pick js ws ++ ds)) := by
  obtain ⟨oc, od, dV, kV, doc, pm, an, cdv, ct, osl, rfl, lk, hcd, hD, _⟩ := F.ex
  rcases hD with ⟨e, _⟩ | ⟨_, T, o, its, m, rfl, lT, oT, rT⟩
  · cases e
  · refine ⟨its.drop j, rT.drop j, fun s ws X hl => ?_⟩
    obtain ⟨k, e1, e2⟩ := hb T kV doc pm an cdv ct ws its hl rT.length.symm
    refine BindsTo.of_looks fun M => ?_
    rw [e1]
    exact looks_items X lT oT (.of_pure e2)
theorem pfkd_df (D : DfD K mg x st) (S : FnScope N ps (defScope st)) (hb : BindK x x st ps ks js 1) (hbody : Body P w K mg base k N x st b) : PFk P w K mg base (k + 1) x ks js false ps.length (runP ps.length N.length b) := by
  obtain ⟨f, fd, a, F, g, sq⟩ := D.ex
  have G : FnG P w K mg base CX0 (k + 1) f fd ps (spP ⟨P, w, K⟩ ps.length (runP ps.length N.length b)) := fnG_allD F S (fun vs H Q E h => h.1) (fun r => spP_run r) (hbody f)
  obtain ⟨ds, r, B⟩ := fund_binds F hb
  cases r
  exact ⟨fun ds d h => runP_len h, f, fd, ps, [], [], G, g, F.kp, .nil, B, .inl ⟨rfl, rfl⟩⟩
theorem pfkd_df0 (D : DfD K mg x st) (S : FnScope N ps (defScope st)) (hb : BindK x x st ps ks js 0) (hbody : Body P w K mg base k N x st b) : PFk P w K mg base (k + 1) x ks js true ps.length (runP ps.length N.length b) := by
  obtain ⟨f, fd, a, F, g, sq⟩ := D.ex
  have G : FnG P w K mg base CX0 (k + 1) f fd ps (spP ⟨P, w, K⟩ ps.length (runP ps.length N.length b)) := fnG_allD F S (fun vs H Q E h => h.1) (fun r => spP_run r) (hbody f)
  obtain ⟨ds, r, B⟩ := fund_binds F hb
  exact ⟨fun ds d h => runP_len h, f, fd, ps, [.ref a], ds, G, g, F.kp, r, B, .inr ⟨rfl, a, rfl, sq⟩⟩
end
section
variable {X : Cx} {g : G} {T T' : Tk} {H : Hp} {m : M} {Q : VK} {pos p apos kpos : Pos} {e o : Expr} {es : List Expr} {k n : Nat} {x c nm : Str} {kws : List Keyword} {ks : List Str} {js : List Nat} {df : Bool} {nk : Option Str}
structure DK (X : Cx) (kws : List Keyword) (f : AF) : Prop where
  ex : ∃ t, PK X kws t ∧ RfA (gx X) t f
theorem dk_nil : DK X [] aNil := ⟨_, pk_nil, fun T σ H ρ m ds m' hm hs hf Q k => by cases hf; exact k [] T H .refl hm .nil⟩
theorem dk_cons {a : EF} {r : AF} (ha : DE X e a) (hr : DK X kws r) : DK X (⟨nk, e, kpos⟩ :: kws) (aCons a r) := by
  obtain ⟨ta, pa, ra⟩ := ha.ex; obtain ⟨tb, pb, rb⟩ := hr.ex
  exact ⟨_, pk_cons pa pb, rf_cons ra rb⟩
/-- by names: the values in the order of the parameters -/
def kcall (n : Nat) (js : List Nat) (df : Bool) (G : M → List D → Option D) (m : M) (xs : List D) : Option D := if xs.length = n then G m (pick js xs ++ bif df then [.tup []] else []) else none
theorem de_kfn {F : List D → Option D} {f : AF} (hF : PFk X.prog X.w X.K X.mg X.base k x ks js df n F) (gd : Gd k X) (hg : Gl X x) (ha : DK X kws f) (hdb : (x == ("__debug__" : Str)) = false := by decide)
    (hall : (backToKw pos (keywordEach kws X.env)).all (·.1.isSome) = true := by rfl) (hks : (backToKw pos (keywordEach kws X.env)).filterMap (·.1) = ks := by rfl)
    (hpl : ((backTo pos (starEach [] X.env)).any (·.1) || (backToKw pos (keywordEach kws X.env)).any (·.1.isNone)) = false := by rfl) :
    DE X (.Call (.Name x p) [] kws pos) (eCall (kcall ks.length js df (callP F)) f) := by
  obtain ⟨fa, fd, ps, dvs, ds, G, hm, kp, rd, B, hd⟩ := hF.ex
  obtain ⟨t, pk, rk⟩ := ha.ex
  refine ⟨tCB (fun zs H Q => zs.length = ks.length ∧ spP (gx X) n F (pick js zs ++ dvs) H Q E0) t, ⟨fun pins s σ H Q I h => ?_⟩, ?_⟩
  · refine wpAny_Call_Name_kw (ld_glob I hg hm ?_ hdb)
    refine PySem.W.callWith_KW0 (h₀ := X.base) I.ok.mod.kin kp hall (thn (pk.run pos pins s σ H _ I h) fun ws s2 ⟨zs, H2, I2, rz, hl, q⟩ => ⟨I2.kIn, ?_⟩) hpl
    rw [hks]
    have r2 : Vals (pick js zs ++ dvs) (pick js ws ++ ds) := (vals_pick rz js).append rd
    refine wpAny_call (codeAny_mono (G.run X.A X.stack s2 H2 ⟨[], ks.zip ws⟩ (pick js ws ++ ds) (pick js zs ++ dvs) Q E0 gd.g gd.r I2.env0 (B s2 ws I2.kIn (by rw [← rz.length]; exact hl)) r2 q) fun r s' hq => ?_)
    cases r with
    | error e => exact hq.elim
    | ok fl =>
      cases fl with
      | ret u => exact I2.after hq
      | next => exact False.elim hq
      | brk => exact False.elim hq
      | cont => exact False.elim hq
  · refine rf_call (fun T H m xs vs d hm rl hf Q k => ?_) rk
    unfold kcall at hf
    obtain ⟨hl, hf⟩ := ite_some hf
    refine ⟨by rw [← rl.length]; exact hl, ?_⟩
    refine rf_callP hF.len T H m _ _ d hm ((rl.pick js).append ?_) hf Q k
    rcases hd with ⟨rfl, rfl⟩ | ⟨rfl, a, rfl, sq⟩
    · exact .nil
    · exact .cons (.tup (.inr (sq _)) .nil) .nil
end
end L4

/-! str(x) of a whole number or of a text -/
namespace L4
open PySem PySem.Spec PyProof.Rows L2
section
variable {X : Cx}
def strT (m : M) (xs : List D) : Option D := match xs with
  | [.str z] => some (.str z)
  | xs => strD m xs
theorem call_strT' : CallD X (.type "str") strT := ⟨_, orC call_str_int SkE.call_str_str, fun T H m xs vs d hm r hf Q k => by
  unfold strT at hf
  split at hf
  · cases hf
    obtain ⟨v, rfl, q⟩ := r.one
    cases q
    exact .inr ⟨_, rfl, k.now hm (.str _)⟩
  · unfold strD at hf
    split at hf
    · obtain ⟨hz, hf⟩ := ite_some hf
      cases hf
      obtain ⟨v, rfl, q⟩ := r.one
      cases q
      exact .inl ⟨_, rfl, hz, k.now hm (.str _)⟩
    · cases hf⟩
end
end L4

/-! repr of a whole number, of a truth value, of None -/
namespace L4
open PySem PySem.Spec PyProof.Rows L2
section
variable {X : Cx}
def reprT (m : M) (xs : List D) : Option D := match xs with
  | [.int i] => if i.natAbs.log2 < 1920 then some (.str (toString i)) else none
  | [.bl b] => some (.str (if b then "True" else "False"))
  | [.non] => some (.str "None")
  | _ => none
theorem call_reprT : CallD X (.builtin "repr") reprT := ⟨_, L3.call_reprV, fun T H m xs vs d hm r hf Q k => by
  unfold reprT at hf
  split at hf
  · obtain ⟨hz, hf⟩ := ite_some hf
    cases hf
    obtain ⟨v, rfl, q⟩ := r.one
    cases q
    exact ⟨_, rfl, .inl ⟨_, rfl, hz⟩, k.now hm (.str _)⟩
  · cases hf
    obtain ⟨v, rfl, q⟩ := r.one
    cases q
    exact ⟨_, rfl, .inr (.inl ⟨_, rfl⟩), k.now hm (.str _)⟩
  · cases hf
    obtain ⟨v, rfl, q⟩ := r.one
    cases q
    exact ⟨_, rfl, .inr (.inr rfl), k.now hm (.str _)⟩
  · cases hf⟩
end
end L4

/-! tuple(range(..)), list(range(..)); d.update(e) with flat keys -/
namespace L4
open PySem PySem.Spec PyProof.Rows L2
section
variable {X : Cx} {g : G} {T T' : Tk} {H H' : Hp} {m : M} {Q : VK} {pos p p2 pos2 apos cpos : Pos} {e o a b : Expr} {n : Nat}
theorem rg_rep {i j : Int} : RepL g T H (rngD i (j - i).toNat) (rgV i j) := by
  unfold rngD rgV
  generalize List.range (j - i).toNat = l
  induction l with
  | nil => exact .nil
  | cons x l ih => exact .cons (.int _) ih
def rgOk (i j : Int) : Prop := 0 ≤ i ∧ i ≤ 16777216 ∧ 0 ≤ j ∧ j ≤ 16777216
instance (i j : Int) : Decidable (rgOk i j) := by unfold rgOk; infer_instance
theorem rgOk.ok {i j : Int} (h : rgOk i j) : RgOk i j := .of_le h.1 h.2.2.2 h.2.1 h.2.2.1
def rgA (xs : List D) : Option (List D) := match xs with
  | [.int j] => if rgOk 0 j then some (rngD 0 (j - 0).toNat) else none
  | [.int i, .int j] => if rgOk i j then some (rngD i (j - i).toNat) else none
  | _ => none
def eTupR (a : AF) : EF := fun ρ m => bd (a ρ m) fun xs m1 => (rgA xs).map fun ds => (.tup ds, m1)
def eLisR (nw : Bool) (a : AF) : EF := fun ρ m => bd (a ρ m) fun xs m1 => (rgA xs).map fun ds => bif nw then (.ref m1.length, m1 ++ [.lst ds]) else (.lst ds, m1)
def RfR (g : G) (t : L2.St → Hp → (Int → Int → Hp → Prop) → Prop) (f : AF) : Prop := ∀ T σ H ρ m xs m', RepH g T H m → RepS g T H σ ρ → f ρ m = some (xs, m') → (rgA xs).isSome → ∀ R : Int → Int → Hp → Prop,
  (∀ i j T' H', Le T H T' H' → RepH g T' H' m' → RgOk i j → rgA xs = some (rngD i (j - i).toNat) → R i j H') → t σ H R
structure DR (X : Cx) (e : Expr) (f : AF) : Prop where
  ex : ∃ t, PRg X e t ∧ RfR (gx X) t f
theorem dr_1 {f : EF} (hg : Gl X "range") (hm : X.mg "range" = none) (ha : DE X a f) (na : starEach [a] X.env = (false, eval a X.env) :: starEach [] X.env := by rfl) : DR X (.Call (.Name "range" p) [a] [] pos) (aCons f aNil) := by
  obtain ⟨t, pa, r⟩ := ha.ex
  refine ⟨_, prg_1 hg hm pa na, fun T σ H ρ m xs m' hm hs hf hx R k => ?_⟩
  obtain ⟨x, m1, e1, hf⟩ := bd_some hf
  cases hf
  refine r T σ H ρ m x _ hm hs e1 _ fun v T1 H1 l1 hm1 r1 => ?_
  cases r1 with
  | int j =>
    by_cases h : rgOk 0 j
    · exact ⟨j, rfl, k 0 j T1 H1 l1 hm1 h.ok (by simp only [rgA, if_pos h])⟩
    · simp only [rgA, if_neg h] at hx; cases hx
  | _ => cases hx
theorem dr_2 {f fb : EF} (hg : Gl X "range") (hm : X.mg "range" = none) (ha : DE X a f) (hb : DE X b fb) (na : starEach [a, b] X.env = (false, eval a X.env) :: starEach [b] X.env := by rfl)
    (nb : starEach [b] X.env = (false, eval b X.env) :: starEach [] X.env := by rfl) (hp : (backTo pos (starEach [b] X.env)).any (·.1) = false := by rfl) : DR X (.Call (.Name "range" p) [a, b] [] pos) (aCons f (aCons fb aNil)) := by
  obtain ⟨t, pa, r⟩ := ha.ex
  obtain ⟨tb, pb, rb⟩ := hb.ex
  refine ⟨_, prg_2 hg hm pa pb na nb hp, fun T σ H ρ m xs m' hm hs hf hx R k => ?_⟩
  obtain ⟨x, m1, e1, hf⟩ := bd_some hf
  obtain ⟨ys, m2, e2, hf⟩ := bd_some hf
  obtain ⟨y, m3, e3, e2⟩ := bd_some e2
  cases e2
  cases hf
  refine r T σ H ρ m x _ hm hs e1 _ fun v T1 H1 l1 hm1 r1 => ?_
  refine rb T1 σ H1 ρ m1 y _ hm1 (hs.le l1) e3 _ fun u T2 H2 l2 hm2 r2 => ?_
  cases r1 with
  | int i =>
    cases r2 with
    | int j =>
      by_cases h : rgOk i j
      · exact ⟨i, j, rfl, rfl, k i j T2 H2 (l1.trans l2) hm2 h.ok (by simp only [rgA, if_pos h])⟩
      · simp only [rgA, if_neg h] at hx; cases hx
    | _ => cases hx
  | _ => cases hx
theorem de_tupR {f : AF} (hc : X.calm = true) (hg : Gl X "tuple") (hm : X.mg "tuple" = none) (he : DR X e f) (na : starEach [e] X.env = (false, eval e X.env) :: starEach [] X.env := by rfl) : DE X (.Call (.Name "tuple" p) [e] [] pos) (eTupR f) := by
  obtain ⟨t, pe, r⟩ := he.ex
  refine ⟨_, pe_tupRg hc hg hm pe na, fun T σ H ρ m d m' hm hs hf Q k => ?_⟩
  obtain ⟨xs, m1, e1, hf⟩ := bd_some hf
  obtain ⟨ds, h1, h2⟩ := Option.map_eq_some_iff.mp hf
  cases h2
  refine r T σ H ρ m xs _ hm hs e1 (by rw [h1]; rfl) _ fun i j T1 H1 l1 hm1 ok eq => ⟨ok, fun q hq => ?_⟩
  rw [h1] at eq
  cases eq
  exact (k.le l1).tup hm1 rg_rep q hq
theorem de_lisR {f : AF} {nw : Bool} (hc : X.calm = true) (hg : Gl X "list") (hm : X.mg "list" = none) (he : DR X e f) (na : starEach [e] X.env = (false, eval e X.env) :: starEach [] X.env := by rfl) : DE X (.Call (.Name "list" p) [e] [] pos) (eLisR nw f) := by
  obtain ⟨t, pe, r⟩ := he.ex
  refine ⟨_, pe_listRg hc hg hm pe na, fun T σ H ρ m d m' hm hs hf Q k => ?_⟩
  obtain ⟨xs, m1, e1, hf⟩ := bd_some hf
  obtain ⟨ds, h1, h2⟩ := Option.map_eq_some_iff.mp hf
  refine r T σ H ρ m xs _ hm hs e1 (by rw [h1]; rfl) _ fun i j T1 H1 l1 hm1 ok eq => ⟨ok, fun q hq => ?_⟩
  rw [h1] at eq
  cases eq
  cases nw
  · cases h2
    exact (k.le l1).lst hm1 rg_rep q hq
  · cases h2
    exact (k.le l1).newL hm1 rg_rep q hq
/-! d.update(e) -/
def tDUpd (td ty : TE) : TE := fun σ H Q => td σ H fun x H1 => ∃ a, x = .ref a ∧ IsD H1 a ∧ ty σ H1 fun y H2 => ∃ b kvs more, y = .ref b ∧ H2 a = some (.dK kvs) ∧ Rd H2 b (.dK more) ∧ a ≠ b ∧ kvs.length + more.length ≤ sizeLine ∧ Q .non (upd H2 a (.dK (mergeK kvs more)))
theorem d_update {pins : List (Addr × Obj)} {σ : L2.St} {s : Shared} {A : Around} {E : Value → Shared → Prop} {a b : Addr} {kvs more : List (Key × V)} {Q : Value → Shared → Prop} (I : Inv X pins σ H s) (e : H a = some (.dK kvs)) (e2 : Rd H b (.dK more)) (hne : a ≠ b) (hz : kvs.length + more.length ≤ sizeLine)
    (h : ∀ s', Inv X pins σ (upd H a (.dK (mergeK kvs more))) s' → Q .none s') : wpAny (model X.prog X.w) A (call (.builtin "dict.update") [.ref a, .ref b]) Q E s := by
  obtain ⟨z, hd, vs, rel, dd⟩ := dk_of I.hok e
  obtain ⟨z2, hd2, ws, rel2, dd2⟩ := dk_rd I.hok e2
  refine call_meetsIn PySem.F.slot_dict_update dd.typeIs PySem.F.entry_dict_update (PySem.F.args_dict_update_2 _ _) (meets_dict_update (mixKind X.prog X.w) a b hne hd2) ⟨vs, ws, dd, dd2, by rw [← rel.length, ← rel2.length]; exact hz, fun h' dd' _ hs => h _ ?_⟩
  have he : ∃ q, h'.get? a = some q := let ⟨q, _, _, hq, _⟩ := dd'; ⟨q, hq⟩
  exact d_write (t' := s.toks) I (by rw [e]; exact True.intro) hs he (dk_new (Nat.le_trans (length_mergeK more kvs) hz) hd (KV.merge rel2 rel) dd')
theorem pe_dupd {td ty : TE} (ho : PE X o td) (he : PE X e ty) (m : M1 X o "update" apos e cpos) : PE X (.Call (.Attribute o "update" apos) [e] [] cpos) (tDUpd td ty) := by
  refine ⟨fun pins s σ H Q I h => ?_⟩
  refine wpAny_Call_method m.base m.few m.line PySem.F.plainAttrs_dict PySem.F.slot_dict_update PySem.F.type_dict_update (thn (ho.run pins s σ H _ I h) fun u s1 ⟨x, H1, I1, rx, a, ex, d, q1⟩ => ?_)
  subst ex
  obtain rfl : u = Value.ref a := rx
  obtain ⟨t1, t2, _⟩ := isD_at I1 d
  refine ⟨t1, t2, ?_⟩
  rw [m.trees]
  refine Calls.callWith_builtin rfl (Calls.evalArgs_plain (Calls.spliced_cons (thn (he.run pins s1 σ H1 _ I1 q1) fun iv s2 ⟨y, H2, I2, ry, b, kvs, more, ey, h1, h2, h3, h4, q2⟩ => Calls.spliced_nil ?_)))
  subst ey
  obtain rfl : iv = Value.ref b := ry
  exact d_update I2 h1 h2 h3 h4 fun s3 I3 => ⟨.non, _, I3, rfl, q2⟩
def flatL (ks : List D) : Bool := ks.all isFlat
theorem flat_dicF {a : Addr} {ks vs : List D} (h : RepO g T H a (.dic ks vs)) (hf : flatL ks = true) : ∃ kvs : List (Key × V), H a = some (.dK kvs) ∧ RepL g T H ks (kvs.map fun p => kV p.1) ∧ RepL g T H vs (kvs.map Prod.snd) := by
  cases h with
  | dicF h r q => exact ⟨_, h, r, q⟩
  | @dicN kvs _ _ h k r q =>
    exfalso
    obtain ⟨k1, k2⟩ := k
    cases ks with
    | nil => cases kvs with
      | nil => exact k2 rfl
      | cons _ _ => cases k1
    | cons x ks =>
      cases kvs with
      | nil => cases k1
      | cons p kvs =>
        have h1 : nkT x = some p.1 := (List.cons.inj k1).1
        have h2 : isFlat x = true := (and2 (show (isFlat x && ks.all isFlat) = true from hf)).1
        rw [nk_notflat h1] at h2
        cases h2
theorem flat_dicV {v : V} {ks vs : List D} (h : Rep g T H (.dic ks vs) v) (hf : flatL ks = true) : ∃ (b : Addr) (kvs : List (Key × V)), v = .ref b ∧ b ∉ T.ν ∧ Rd H b (.dK kvs) ∧ RepL g T H ks (kvs.map fun p => kV p.1) ∧ RepL g T H vs (kvs.map Prod.snd) := by
  cases h with
  | dicF n h r q => exact ⟨_, _, rfl, n, h, r, q⟩
  | @dicN a kvs _ _ n h k r q =>
    exfalso
    obtain ⟨k1, k2⟩ := k
    cases ks with
    | nil => cases kvs with
      | nil => exact k2 rfl
      | cons _ _ => cases k1
    | cons x ks =>
      cases kvs with
      | nil => cases k1
      | cons p kvs =>
        have h1 : nkT x = some p.1 := (List.cons.inj k1).1
        have h2 : isFlat x = true := (and2 (show (isFlat x && ks.all isFlat) = true from hf)).1
        rw [nk_notflat h1] at h2
        cases h2
def eUpd (a b : EF) : EF := fun ρ m => bd (a ρ m) fun x m1 => match x with
  | .ref n => match m1[n]? with
    | some (.dic ks0 _) => if flatL ks0 then bd (b ρ m1) fun y m2 => match m2[n]?, y with
        | some (.dic ks vs), .dic ks2 vs2 => if flatL ks && flatL ks2 && decide (ks.length + ks2.length ≤ sizeLine) && decide (ks2.length = vs2.length) then some (.non, m2.set n (.dic (mergeD (ks2.zip vs2) (ks, vs)).1 (mergeD (ks2.zip vs2) (ks, vs)).2)) else none
        | _, _ => none
      else none
    | _ => none
  | _ => none
theorem keys_flat {ks : List D} {kvs : List (Key × V)} (hf : flatL ks = true) (r : RepL g T H ks (kvs.map fun p => kV p.1)) : ks = kvs.map fun p => keyD p.1 := by
  induction ks generalizing kvs with
  | nil => cases kvs with
    | nil => rfl
    | cons _ _ => cases r
  | cons x ks ih => cases kvs with
    | nil => cases r
    | cons p kvs =>
      obtain ⟨h1, h2⟩ := and2 (show (isFlat x && ks.all isFlat) = true from hf)
      cases r with
      | cons r1 r2 =>
        rw [List.map_cons, ← ih h2 r2]
        obtain ⟨κ, rfl⟩ := flat_key h1
        congr 1
        obtain ⟨k0, v0⟩ := p
        cases κ <;> cases k0 <;> cases r1 <;> rfl
theorem de_upd {fo fe : EF} (ho : DE X o fo) (he : DE X e fe) (hbase : attributeBase o "update" X.env (eval o X.env) = eval o X.env := by rfl) (hline : (apos.endLine == cpos.line) = true := by rfl)
    (hfew : ((backTo cpos (starEach [e] X.env)).all (fun x => !x.1) && (backToKw cpos (keywordEach [] X.env)).all (fun x => x.1.isSome) && decide (([e] : List Expr).length + ([] : List Keyword).length + (if ([] : List Keyword).isEmpty then 0 else 1) < 30)) = true := by rfl)
    (ht : backTo cpos (starEach [e] X.env) = [(false, eval e X.env)] := by rfl) : DE X (.Call (.Attribute o "update" apos) [e] [] cpos) (eUpd fo fe) := by
  obtain ⟨to, po, ro⟩ := ho.ex; obtain ⟨ti, pi, ri⟩ := he.ex
  refine ⟨_, pe_dupd po pi ⟨hbase, hfew, hline, ht⟩, fun T σ H ρ m d m' hm hs hf Q k => ?_⟩
  obtain ⟨x, m1, e1, hf⟩ := bd_some hf
  refine ro T σ H ρ m x m1 hm hs e1 _ fun u T1 H1 l1 hm1 r1 => ?_
  cases r1 with
  | @ref n a ea =>
    have hf : (match m1[n]? with
      | some (.dic ks0 _) => if flatL ks0 then bd (fe ρ m1) fun y m2 => match m2[n]?, y with
          | some (.dic ks vs), .dic ks2 vs2 => if flatL ks && flatL ks2 && decide (ks.length + ks2.length ≤ sizeLine) && decide (ks2.length = vs2.length) then some (D.non, m2.set n (.dic (mergeD (ks2.zip vs2) (ks, vs)).1 (mergeD (ks2.zip vs2) (ks, vs)).2)) else none
          | _, _ => none
        else none
      | _ => none) = some (d, m') := hf
    split at hf
    · next ks0 vs0 h0 =>
      obtain ⟨hf0, hf⟩ := ite_some hf
      obtain ⟨kvs0, g1, _, _⟩ := flat_dicF (hm1.at_ _ _ _ ea h0) hf0
      refine ⟨a, rfl, .inl ⟨kvs0, .inl g1⟩, ?_⟩
      obtain ⟨y, m2, e2, hf⟩ := bd_some hf
      refine ri T1 σ H1 ρ m1 y m2 hm1 (hs.le l1) e2 _ fun w T2 H2 l2 hm2 r2 => ?_
      split at hf
      · next ks vs ks2 vs2 h2 =>
        obtain ⟨hh, hf⟩ := ite_some hf
        simp only [Bool.and_eq_true, decide_eq_true_eq] at hh
        obtain ⟨⟨⟨c1, c2⟩, c3⟩, c4⟩ := hh
        cases hf
        have ea2 := l2.get ea
        obtain ⟨kvs, g2, g3, g4⟩ := flat_dicF (hm2.at_ _ _ _ ea2 h2) c1
        obtain ⟨b, more, rfl, g5, g6, g7, g8⟩ := flat_dicV r2 c2
        have z1 := g3.length
        have z2 := g7.length
        simp only [List.length_map] at z1 z2
        have hne : a ≠ b := by rintro rfl; exact g5 (T2.sub _ (List.mem_of_getElem? ea2))
        refine ⟨b, kvs, more, rfl, g2, g6, hne, by omega, ?_⟩
        have q1 : (ks2.zip vs2).map Prod.fst = ks2 := List.map_fst_zip (by omega)
        have q2 : (ks2.zip vs2).map Prod.snd = vs2 := List.map_snd_zip (by omega)
        have hk := keys_flat c2 g7
        obtain ⟨l3, hm3⟩ := hm2.put (u := .dK (mergeK kvs more)) (o := .dic (mergeD (ks2.zip vs2) (ks, vs)).1 (mergeD (ks2.zip vs2) (ks, vs)).2) ea2 fun l => by
          obtain ⟨y1, y2⟩ := merge_rep (qs := ks2.zip vs2) (kvs := more) (acc := kvs) (ks := ks) (vs := vs) (by rw [q1]; exact hk) (by rw [q2]; exact g8.le l) (g3.le l) (g4.le l)
          exact .dicF upd_same y1 y2
        exact k _ T2 _ (l1.trans (l2.trans l3)) hm3 .non
      · cases hf
    · cases hf
  | _ => cases hf
end
end L4

/-! repr of nested data; tracked lists too -/
namespace L4
open PySem PySem.Spec PyProof.Rows L2
section
variable {X : Cx}
def isSeqP : PyData → Bool
  | .list _ => true
  | .tuple _ => true
  | _ => false
def reprP (p : PyData) : Option D := match p with
  | .str x => if (reprText x).length ≤ sizeLine then some (.str (reprText x)) else none
  | p => if isSeqP p && p.showable && decide (p.shown.length ≤ sizeLine) then some (.str p.shown) else none
def reprG (m : M) (xs : List D) : Option D := match reprT m xs with
  | some d => some d
  | none => match xs with
    | [x] => (pdM m x).bind reprP
    | _ => none
def rReprG (K : PySem.W.Frag) : List V → Hp → VK → Prop := fun xs H Q => L3.rReprV xs H Q ∨ ∃ v p, xs = [v] ∧ Dp K H v p ∧ SeqAt.shaped p = true ∧ ∃ z, reprP p = some (.str z) ∧ Q (.str z) H
theorem call_reprGr {k : Nat} (gd : Gd k X) : CallR X (.builtin "repr") (rReprG X.K) := by
  intro pins s σ H xs us Q I r h
  rcases h with h | ⟨v, p, rfl, dp, hs, z, hz, q⟩
  · exact L3.call_reprV pins s σ H xs us Q I r h
  · obtain ⟨u, rfl, ru⟩ := vals1 r
    obtain ⟨as, rd⟩ := Dp.reads I p v u dp ru
    have hl := PyData.hasDict_of_canLay p (SeqAt.canLay_of_shaped hs)
    have hdp := SeqAt.depth_of_shaped hs
    have hu := gd.u64
    have key : ∀ (a : Addr), u = .ref a → p.showable = true → p.shown.length ≤ sizeLine → z = p.shown → wpAny (model X.prog X.w) X.A (call (.builtin "repr") [u]) (EP X pins σ Q) X.xe s := by
      rintro a rfl h1 h2 rfl
      refine repr_of_reads' rd h1 (PyData.noDict_hsm hl) gd.g (by omega) (fun _ _ e => e) (fun h' t tk hk => ?_) h2
      exact ⟨.str p.shown, H, I.kept (t' := tk) hk, ⟨_, rfl⟩, q⟩
    unfold reprP at hz
    split at hz
    · next x =>
      obtain ⟨h1, hz⟩ := ite_some hz
      cases hz
      cases rd
      exact PySem.P.repr_of_str ⟨.str (reprText x), H, I.tok _, ⟨_, rfl⟩, q⟩ h1
    · obtain ⟨h1, hz⟩ := ite_some hz
      cases hz
      simp only [Bool.and_eq_true, decide_eq_true_eq] at h1
      obtain ⟨⟨h1, h2⟩, h3⟩ := h1
      cases p with
      | list ps => cases rd with
        | list => exact key _ rfl h2 h3 rfl
      | tuple ps => cases rd with
        | tuple => exact key _ rfl h2 h3 rfl
      | _ => cases h1
theorem call_reprG {k : Nat} (gd : Gd k X) : CallD X (.builtin "repr") reprG := ⟨_, call_reprGr gd, fun T H m xs vs d hm r hf Q k => by
  unfold reprG at hf
  split at hf
  · next e h1 =>
    cases hf
    refine .inl ?_
    unfold reprT at h1
    split at h1
    · obtain ⟨hz, h1⟩ := ite_some h1
      cases h1
      obtain ⟨v, rfl, q⟩ := r.one
      cases q
      exact ⟨_, rfl, .inl ⟨_, rfl, hz⟩, k.now hm (.str _)⟩
    · cases h1
      obtain ⟨v, rfl, q⟩ := r.one
      cases q
      exact ⟨_, rfl, .inr (.inl ⟨_, rfl⟩), k.now hm (.str _)⟩
    · cases h1
      obtain ⟨v, rfl, q⟩ := r.one
      cases q
      exact ⟨_, rfl, .inr (.inr rfl), k.now hm (.str _)⟩
    · cases h1
  · split at hf
    · next x =>
      obtain ⟨v, rfl, q⟩ := r.one
      obtain ⟨p, h2, h3⟩ := Option.bind_eq_some_iff.mp hf
      obtain ⟨dp, hs⟩ := pdM_rep hm h2 q
      have hz : ∃ z, d = .str z := by
        unfold reprP at h3
        split at h3
        · obtain ⟨_, h3⟩ := ite_some h3; cases h3; exact ⟨_, rfl⟩
        · obtain ⟨_, h3⟩ := ite_some h3; cases h3; exact ⟨_, rfl⟩
      obtain ⟨z, rfl⟩ := hz
      exact .inr ⟨v, p, rfl, dp, hs, z, h3, k.now hm (.str _)⟩
    · cases hf⟩
end
end L4

/-! walks over the printed functions: what follows a reading -/
namespace L4
open PySem
def Wr {α : Type} (o : Option (α × M)) (Q : α → M → Prop) : Prop := ∃ d m, o = some (d, m) ∧ Q d m
def WE (f : EF) (ρ : Ss) (m : M) (Q : D → M → Prop) : Prop := Wr (f ρ m) Q
def WT (f : TF) (ρ : Ss) (m : M) (Q : Bool → M → Prop) : Prop := Wr (f ρ m) Q
def WA (f : AF) (ρ : Ss) (m : M) (Q : List D → M → Prop) : Prop := Wr (f ρ m) Q
def WO (f : OF) (ρ : Ss) (m : M) (Q : Option Int → M → Prop) : Prop := Wr (f ρ m) Q
def WG (f : GF) (d : D) (ρ : Ss) (m : M) (Q : Ss → M → Prop) : Prop := Wr (f d ρ m) Q
def WS (f : SF) (ρ : Ss) (m : M) (Q : Fl → M → Prop) : Prop := Wr (f ρ m) Q
/-- a value that is known -/
def Kn {α : Type} (o : Option α) (Q : α → Prop) : Prop := ∃ d, o = some d ∧ Q d
def sqk (b : SF) (Q : Fl → M → Prop) (r : Fl) (m : M) : Prop := match r with
  | .nx ρ => WS b ρ m Q
  | r => Q r m
section
variable {ρ : Ss} {m : M}
theorem Kn.mk {α : Type} {o : Option α} {Q : α → Prop} {d : α} (h : o = some d) (q : Q d) : Kn o Q := ⟨d, h, q⟩
theorem Wr.mk {α : Type} {o : Option (α × M)} {Q : α → M → Prop} {d : α} {m' : M} (h : o = some (d, m')) (q : Q d m') : Wr o Q := ⟨d, m', h, q⟩
theorem Wr.bd {α β : Type} {o : Option (α × M)} {k : α → M → Option (β × M)} {Q : β → M → Prop} (h : Wr o fun a m1 => Wr (k a m1) Q) : Wr (bd o k) Q := by
  obtain ⟨a, m1, e, b, m2, e2, q⟩ := h
  exact ⟨b, m2, by rw [e]; exact e2, q⟩
theorem Wr.pu {α : Type} {o : Option α} {Q : α → M → Prop} (h : Kn o fun d => Q d m) : Wr (pu o m) Q := by
  obtain ⟨d, rfl, q⟩ := h
  exact ⟨d, m, rfl, q⟩
theorem WE.var {i : Nat} {Q : D → M → Prop} {d : D} (h : ρ.getD i none = some d) (q : Q d m) : WE (eVar i) ρ m Q := ⟨d, m, by unfold eVar; rw [h]; rfl, q⟩
theorem WE.c {d : D} {Q : D → M → Prop} (q : Q d m) : WE (eC d) ρ m Q := ⟨d, m, rfl, q⟩
theorem WE.op {f : M → D → D → Option D} {a b : EF} {Q : D → M → Prop} (h : WE a ρ m fun x m1 => WE b ρ m1 fun y m2 => Kn (f m2 x y) fun d => Q d m2) : WE (eOp f a b) ρ m Q :=
  Wr.bd (by obtain ⟨x, m1, e, h⟩ := h; refine ⟨x, m1, e, Wr.bd ?_⟩; obtain ⟨y, m2, e2, h⟩ := h; exact ⟨y, m2, e2, Wr.pu h⟩)
theorem WE.un {f : M → D → Option D} {a : EF} {Q : D → M → Prop} (h : WE a ρ m fun x m1 => Kn (f m1 x) fun d => Q d m1) : WE (eUn f a) ρ m Q :=
  Wr.bd (by obtain ⟨x, m1, e, h⟩ := h; exact ⟨x, m1, e, Wr.pu h⟩)
theorem WE.call {f : M → List D → Option D} {a : AF} {Q : D → M → Prop} (h : WA a ρ m fun xs m1 => Kn (f m1 xs) fun d => Q d m1) : WE (eCall f a) ρ m Q :=
  Wr.bd (by obtain ⟨x, m1, e, h⟩ := h; exact ⟨x, m1, e, Wr.pu h⟩)
theorem WE.callM {F : List D → M → Option (D × M)} {a : AF} {Q : D → M → Prop} (h : WA a ρ m fun xs m1 => Wr (F xs m1) Q) : WE (eCallM F a) ρ m Q := Wr.bd h
theorem WA.nil {Q : List D → M → Prop} (q : Q [] m) : WA aNil ρ m Q := ⟨[], m, rfl, q⟩
theorem WA.cons {a : EF} {r : AF} {Q : List D → M → Prop} (h : WE a ρ m fun x m1 => WA r ρ m1 fun xs m2 => Q (x :: xs) m2) : WA (aCons a r) ρ m Q :=
  Wr.bd (by obtain ⟨x, m1, e, h⟩ := h; refine ⟨x, m1, e, Wr.bd ?_⟩; obtain ⟨y, m2, e2, h⟩ := h; exact ⟨y, m2, e2, x :: y, m2, rfl, h⟩)
theorem WA.star {a : EF} {r : AF} {Q : List D → M → Prop} (h : WE a ρ m fun x m1 => Kn (seqD m1 x) fun xs => WA r ρ m1 fun ys m2 => Q (xs ++ ys) m2) : WA (aStar a r) ρ m Q := by
  obtain ⟨x, m1, e, xs, e2, ys, m2, e3, q⟩ := h
  refine ⟨xs ++ ys, m2, ?_, q⟩
  unfold aStar
  rw [e]
  show (match seqD m1 x with
    | some xs => bd (r ρ m1) fun ys m2 => some (xs ++ ys, m2)
    | none => none) = _
  rw [e2]
  show bd (r ρ m1) _ = _
  rw [e3]
  rfl
theorem WE.tup {a : AF} {Q : D → M → Prop} (h : WA a ρ m fun xs m1 => xs.length ≤ sizeLine ∧ Q (.tup xs) m1) : WE (eTup a) ρ m Q :=
  Wr.bd (by obtain ⟨x, m1, e, h1, h2⟩ := h; exact ⟨x, m1, e, _, m1, if_pos h1, h2⟩)
theorem WE.lst {a : AF} {Q : D → M → Prop} (h : WA a ρ m fun xs m1 => xs.length ≤ sizeLine ∧ Q (.lst xs) m1) : WE (eLst a) ρ m Q :=
  Wr.bd (by obtain ⟨x, m1, e, h1, h2⟩ := h; exact ⟨x, m1, e, _, m1, if_pos h1, h2⟩)
theorem WE.newL {a : AF} {Q : D → M → Prop} (h : WA a ρ m fun xs m1 => xs.length ≤ sizeLine ∧ Q (.ref m1.length) (m1 ++ [.lst xs])) : WE (eNewL a) ρ m Q :=
  Wr.bd (by obtain ⟨x, m1, e, h1, h2⟩ := h; exact ⟨x, m1, e, _, _, if_pos h1, h2⟩)
theorem WE.newD {Q : D → M → Prop} (h : Q (.ref m.length) (m ++ [.dic [] []])) : WE eNewD ρ m Q := ⟨_, _, rfl, h⟩
theorem WE.eif {c : TF} {a b : EF} {Q : D → M → Prop} (h : WT c ρ m fun x m1 => WE (if x then a else b) ρ m1 Q) : WE (eIf c a b) ρ m Q :=
  Wr.bd (by obtain ⟨x, m1, e, h⟩ := h; refine ⟨x, m1, e, ?_⟩; cases x <;> exact h)
theorem WE.fld {cs : List Str} {f : Str} {o : EF} {Q : D → M → Prop} {c : Str} {ns : List Str} {vs : List D} {v : D} {m1 : M} (h : WE o ρ m fun x m1 => ∃ c ns vs v, insOf m1 x = some (c, ns, vs) ∧ cs.contains c = true ∧ fldAt ns vs f = some v ∧ Q v m1) : WE (eFld cs f o) ρ m Q := by
  obtain ⟨x, m1, e, c, ns, vs, v, h1, h2, h3, q⟩ := h
  refine ⟨v, m1, ?_, q⟩
  unfold eFld
  rw [e]
  show (match insOf m1 x with
    | some (c, ns, vs) => if cs.contains c = true then pu (fldAt ns vs f) m1 else none
    | none => none) = _
  rw [h1]
  show (if cs.contains c = true then pu (fldAt ns vs f) m1 else none) = _
  rw [if_pos h2, h3]
  rfl
theorem WE.isN {a : EF} {Q : D → M → Prop} (h : WE a ρ m fun x m1 => Q (.bl (isNon x)) m1) : WE (eIsN a) ρ m Q :=
  Wr.bd (by obtain ⟨x, m1, e, h⟩ := h; exact ⟨x, m1, e, _, m1, rfl, h⟩)
theorem WE.notN {a : EF} {Q : D → M → Prop} (h : WE a ρ m fun x m1 => Q (.bl (!isNon x)) m1) : WE (eNotN a) ρ m Q :=
  Wr.bd (by obtain ⟨x, m1, e, h⟩ := h; exact ⟨x, m1, e, _, m1, rfl, h⟩)
theorem WE.not {a : EF} {Q : D → M → Prop} (h : WE a ρ m fun x m1 => ∃ b, x = .bl b ∧ Q (.bl (!b)) m1) : WE (eNot a) ρ m Q :=
  Wr.bd (by obtain ⟨x, m1, e, b, rfl, h⟩ := h; exact ⟨_, m1, e, _, m1, rfl, h⟩)
theorem WE.and {a b : EF} {Q : D → M → Prop} (h : WE a ρ m fun x m1 => ∃ c, x = .bl c ∧ (c = true → WE b ρ m1 Q) ∧ (c = false → Q (.bl false) m1)) : WE (eAnd a b) ρ m Q :=
  Wr.bd (by obtain ⟨x, m1, e, c, rfl, h1, h2⟩ := h; refine ⟨_, m1, e, ?_⟩; cases c <;> first | exact h1 rfl | exact ⟨_, m1, rfl, h2 rfl⟩)
theorem WE.or {a b : EF} {Q : D → M → Prop} (h : WE a ρ m fun x m1 => ∃ c, x = .bl c ∧ (c = false → WE b ρ m1 Q) ∧ (c = true → Q (.bl true) m1)) : WE (eOr a b) ρ m Q :=
  Wr.bd (by obtain ⟨x, m1, e, c, rfl, h1, h2⟩ := h; refine ⟨_, m1, e, ?_⟩; cases c <;> first | exact h1 rfl | exact ⟨_, m1, rfl, h2 rfl⟩)
theorem WO.no {Q : Option Int → M → Prop} (q : Q none m) : WO oNo ρ m Q := ⟨_, m, rfl, q⟩
theorem WO.yes {a : EF} {Q : Option Int → M → Prop} (h : WE a ρ m fun x m1 => ∃ i, x = .int i ∧ Q (some i) m1) : WO (oYes a) ρ m Q :=
  Wr.bd (by obtain ⟨x, m1, e, i, rfl, h⟩ := h; exact ⟨_, m1, e, _, m1, rfl, h⟩)
theorem WE.sl {a : EF} {lo hi : OF} {Q : D → M → Prop} (h : WE a ρ m fun x m1 => WO lo ρ m1 fun l m2 => WO hi ρ m2 fun u m3 => Kn (slD m3 x l u) fun d => Q d m3) : WE (eSl a lo hi) ρ m Q :=
  Wr.bd (by
    obtain ⟨x, m1, e, l, m2, e2, u, m3, e3, h⟩ := h
    exact ⟨x, m1, e, Wr.bd ⟨l, m2, e2, Wr.bd ⟨u, m3, e3, Wr.pu h⟩⟩⟩)
theorem WT.val {a : EF} {Q : Bool → M → Prop} (h : WE a ρ m fun x m1 => ∃ b, x = .bl b ∧ Q b m1) : WT (tVal a) ρ m Q :=
  Wr.bd (by obtain ⟨x, m1, e, b, rfl, h⟩ := h; exact ⟨_, m1, e, _, m1, rfl, h⟩)
theorem WT.and {a b : TF} {Q : Bool → M → Prop} (h : WT a ρ m fun x m1 => (x = true → WT b ρ m1 Q) ∧ (x = false → Q false m1)) : WT (tAnd a b) ρ m Q :=
  Wr.bd (by obtain ⟨x, m1, e, h1, h2⟩ := h; refine ⟨_, m1, e, ?_⟩; cases x <;> first | exact h1 rfl | exact ⟨_, m1, rfl, h2 rfl⟩)
theorem WT.or {a b : TF} {Q : Bool → M → Prop} (h : WT a ρ m fun x m1 => (x = false → WT b ρ m1 Q) ∧ (x = true → Q true m1)) : WT (tOr a b) ρ m Q :=
  Wr.bd (by obtain ⟨x, m1, e, h1, h2⟩ := h; refine ⟨_, m1, e, ?_⟩; cases x <;> first | exact h1 rfl | exact ⟨_, m1, rfl, h2 rfl⟩)
theorem WT.not {a : TF} {Q : Bool → M → Prop} (h : WT a ρ m fun x m1 => Q (!x) m1) : WT (tNot a) ρ m Q :=
  Wr.bd (by obtain ⟨x, m1, e, h⟩ := h; exact ⟨_, m1, e, _, m1, rfl, h⟩)
theorem WT.tt {Q : Bool → M → Prop} (q : Q true m) : WT tTrue ρ m Q := ⟨_, m, rfl, q⟩
theorem WG.nm {i : Nat} {d : D} {Q : Ss → M → Prop} (q : Q (ρ.set i (some d)) m) : WG (gNm i) d ρ m Q := ⟨_, m, rfl, q⟩
theorem WG.tgt {t : Tgt} {d : D} {ρ1 : Ss} {Q : Ss → M → Prop} (h : gTgt t d ρ m = some (ρ1, m)) (q : Q ρ1 m) : WG (gTgt t) d ρ m Q := ⟨_, m, h, q⟩
theorem WG.setA {o i : EF} {d : D} {Q : Ss → M → Prop} (h : WE o ρ m fun x m1 => WE i ρ m1 fun y m2 => Kn (setM m2 x y d) fun m3 => Q ρ m3) : WG (gSetA o i) d ρ m Q := by
  obtain ⟨x, m1, e1, y, m2, e2, m3, e3, q⟩ := h
  refine ⟨ρ, m3, ?_, q⟩
  unfold gSetA
  rw [e1]
  show bd (i ρ m1) _ = _
  rw [e2]
  show (setM m2 x y d).map _ = _
  rw [e3]
  rfl
theorem WS.asg {a : EF} {g : GF} {Q : Fl → M → Prop} (h : WE a ρ m fun d m1 => WG g d ρ m1 fun ρ1 m2 => Q (.nx ρ1) m2) : WS (sAsg a g) ρ m Q :=
  Wr.bd (by obtain ⟨x, m1, e, ρ1, m2, e2, h⟩ := h; exact ⟨x, m1, e, Wr.bd ⟨ρ1, m2, e2, _, m2, rfl, h⟩⟩)
theorem WS.drop {a : EF} {Q : Fl → M → Prop} (h : WE a ρ m fun d m1 => Q (.nx ρ) m1) : WS (sDrop a) ρ m Q :=
  Wr.bd (by obtain ⟨x, m1, e, h⟩ := h; exact ⟨x, m1, e, _, m1, rfl, h⟩)
theorem WS.ret {a : EF} {Q : Fl → M → Prop} (h : WE a ρ m fun d m1 => Q (.rt d) m1) : WS (sRet a) ρ m Q :=
  Wr.bd (by obtain ⟨x, m1, e, h⟩ := h; exact ⟨x, m1, e, _, m1, rfl, h⟩)
theorem WS.retN {Q : Fl → M → Prop} (h : Q (.rt .non) m) : WS sRetN ρ m Q := ⟨_, m, rfl, h⟩
theorem WS.nop {Q : Fl → M → Prop} (h : Q (.nx ρ) m) : WS sNop ρ m Q := ⟨_, m, rfl, h⟩
theorem WS.brk {Q : Fl → M → Prop} (h : Q (.bk ρ) m) : WS sBrk ρ m Q := ⟨_, m, rfl, h⟩
theorem WS.cont {Q : Fl → M → Prop} (h : Q (.ct ρ) m) : WS sCont ρ m Q := ⟨_, m, rfl, h⟩
theorem WS.sif {c : TF} {a b : SF} {Q : Fl → M → Prop} (h : WT c ρ m fun x m1 => WS (if x then a else b) ρ m1 Q) : WS (sIf c a b) ρ m Q :=
  Wr.bd (by obtain ⟨x, m1, e, h⟩ := h; refine ⟨x, m1, e, ?_⟩; cases x <;> exact h)
theorem WS.seq {a b : SF} {Q : Fl → M → Prop} (h : WS a ρ m (sqk b Q)) : WS (sSeq a b) ρ m Q := by
  obtain ⟨r, m1, e, h⟩ := h
  unfold WS Wr sSeq
  rw [e]
  cases r <;> first | exact h | exact ⟨_, m1, rfl, h⟩
theorem WS.nx {b : SF} {Q : Fl → M → Prop} (h : WS b ρ m Q) : sqk b Q (.nx ρ) m := h
theorem WS.rt {b : SF} {Q : Fl → M → Prop} {d : D} (h : Q (.rt d) m) : sqk b Q (.rt d) m := h
theorem WS.aug {i : Nat} {f : M → D → D → Option D} {a : EF} {Q : Fl → M → Prop} {x : D} (h0 : ρ.getD i none = some x) (h : WE a ρ m fun y m1 => Kn (f m1 x y) fun d => Q (.nx (ρ.set i (some d))) m1) : WS (sAug i f a) ρ m Q := by
  obtain ⟨y, m1, e, d, e2, q⟩ := h
  refine ⟨_, m1, ?_, q⟩
  unfold sAug
  rw [h0]
  show bd (a ρ m) _ = _
  rw [e]
  show bd (pu (f m1 x y) m1) _ = _
  rw [e2]
  rfl
theorem WS.par {is : List Nat} {a : AF} {Q : Fl → M → Prop} (h : WA a ρ m fun xs m1 => xs.length = is.length ∧ Q (.nx (setMany ρ is xs)) m1) : WS (sPar is a) ρ m Q :=
  Wr.bd (by obtain ⟨x, m1, e, h1, h2⟩ := h; exact ⟨x, m1, e, _, m1, if_pos h1, h2⟩)
/-- a walk over what is there at its start -/
def WI (f : AF) (ρ : Ss) (m : M) (Q : List D → M → Prop) : Prop := Wr (f ρ m) Q
theorem WI.it {a : EF} {Q : List D → M → Prop} (h : WE a ρ m fun x m1 => Kn (items x) fun ds => Q ds m1) : WI (iIt a) ρ m Q :=
  Wr.bd (by obtain ⟨x, m1, e, h⟩ := h; exact ⟨x, m1, e, Wr.pu h⟩)
theorem WI.r1 {a : AF} {Q : List D → M → Prop} (h : WA a ρ m fun xs m1 => ∃ j : Int, xs = [.int j] ∧ (-1000000 ≤ j ∧ j ≤ 1000000) ∧ Q (rngD 0 j.toNat) m1) : WI (iR1 a) ρ m Q :=
  Wr.bd (by obtain ⟨x, m1, e, j, rfl, hj, h⟩ := h; exact ⟨_, m1, e, _, m1, if_pos ⟨by omega, by omega⟩, h⟩)
theorem WI.r2 {a : AF} {Q : List D → M → Prop} (h : WA a ρ m fun xs m1 => ∃ i j : Int, xs = [.int i, .int j] ∧ (-1000000 ≤ i ∧ i ≤ 1000000 ∧ -1000000 ≤ j ∧ j ≤ 1000000) ∧ Q (rngD i (j - i).toNat) m1) : WI (iR2 a) ρ m Q :=
  Wr.bd (by obtain ⟨x, m1, e, i, j, rfl, hj, h⟩ := h; exact ⟨_, m1, e, _, m1, if_pos ⟨by omega, by omega, by omega, by omega⟩, h⟩)
/-- a loop whose turns keep to an invariant and leave it never -/
theorem WS.forI {it : AF} {g : GF} {b : SF} {Q : Fl → M → Prop} (I : Nat → Ss → M → Prop) (h : WI it ρ m fun xs m1 => I 0 ρ m1 ∧ (∀ i x ρ m, xs[i]? = some x → I i ρ m → WG g x ρ m fun ρ1 m1 => WS b ρ1 m1 fun r m2 => ∃ ρ2, (r = .nx ρ2 ∨ r = .ct ρ2) ∧ I (i + 1) ρ2 m2) ∧ ∀ ρ m, I xs.length ρ m → Q (.nx ρ) m) : WS (sFor it g b) ρ m Q :=
  Wr.bd (by
    obtain ⟨xs, m1, e, h1, h2, h3⟩ := h
    obtain ⟨ρ', m', e2, h4⟩ := forGo_inv (f := g) (b := b) I xs 0 ρ m1 h1 (by
      intro j x ρ m hx hI
      rw [Nat.zero_add] at hI
      obtain ⟨ρ1, m1, e1, r, m2, e2, ρ2, hr, h⟩ := h2 j x ρ m hx hI
      exact ⟨ρ1, m1, e1, r, m2, e2, ρ2, hr, by rw [Nat.zero_add]; exact h⟩)
    rw [Nat.zero_add] at h4
    exact ⟨xs, m1, e, _, m', e2, h3 _ _ h4⟩)
/-- the end: a function that is called -/
theorem WS.runP {a n : Nat} {b : SF} {ds : List D} {d : D} (h : WS b (startD n ds) [] fun r m => ∃ y, r = .rt y ∧ frz m y = some d) (hl : ds.length = a) : runP a n b ds = some d := by
  obtain ⟨r, m1, e, y, rfl, q⟩ := h
  unfold L4.runP
  rw [if_pos hl, e]
  exact q
theorem WS.runM {a n : Nat} {b : SF} {ds : List D} {Q : D → M → Prop} (h : WS b (startD n ds) m fun r m1 => (∃ y, r = .rt y ∧ Q y m1) ∨ ∃ ρ, r = .nx ρ ∧ Q .non m1) (hl : ds.length = a) : Wr (runM a n b ds m) Q := by
  obtain ⟨r, m1, e, h⟩ := h
  unfold L4.runM
  rw [if_pos hl, e]
  rcases h with ⟨y, rfl, q⟩ | ⟨ρ, rfl, q⟩
  · exact ⟨y, m1, rfl, q⟩
  · exact ⟨.non, m1, rfl, q⟩
end
end L4

/-! walks over the printed functions: operations that are known, lists that change, comprehensions -/
namespace L4
open PySem
section
variable {ρ : Ss} {m : M} {Q : D → Prop}
theorem wsz {n : Nat} (h : n ≤ 1000) : n ≤ sizeLine := by rw [sizeLine_eq]; omega
theorem Kn.call {F : List D → Option D} {xs : List D} {d : D} (hp : pureL xs = true) (e : F xs = some d) (q : Q d) : Kn (callP F m xs) Q := ⟨d, by unfold callP; rw [if_pos hp]; exact e, q⟩
theorem Kn.callR {F : List D → Option D} {xs ys : List D} {d : D} (hp : pureL xs = false) (hz : mapO (frz m) xs = some ys) (e : F ys = some d) (hg : groundD d = true) (q : Q d) : Kn (callP F m xs) Q := ⟨d, by unfold callP; rw [hp, hz]; simp only [Bool.false_eq_true, if_false, e, hg, if_true], q⟩
theorem Kn.pure {F : List D → Option D} {xs : List D} {d : D} (hp : pureL xs = true) (e : F xs = some d) (q : Q d) : Kn (pureC F m xs) Q := ⟨d, by unfold pureC; rw [if_pos hp]; exact e, q⟩
theorem Kn.add_i {i j : Int} (q : Q (.int (i + j))) : Kn (addD m (.int i) (.int j)) Q := ⟨_, rfl, q⟩
theorem Kn.add_t {a b : List D} (h : a.length + b.length ≤ sizeLine) (q : Q (.tup (a ++ b))) : Kn (addD m (.tup a) (.tup b)) Q := ⟨_, if_pos h, q⟩
theorem add_lst {x y : D} {a b : List D} (hx : lstOf m x = some a) (hy : lstOf m y = some b) (h : a.length + b.length ≤ sizeLine) : addD m x y = some (.lst (a ++ b)) := by
  have key : (match lstOf m x, lstOf m y with
    | some a, some b => if a.length + b.length ≤ sizeLine then some (D.lst (a ++ b)) else none
    | _, _ => none) = some (.lst (a ++ b)) := by rw [hx, hy]; exact if_pos h
  cases x with
  | lst xs => cases y with
    | lst ys => exact key
    | ref n => exact key
    | _ => cases hy
  | ref n => cases y with
    | lst ys => exact key
    | ref n => exact key
    | _ => cases hy
  | _ => cases hx
theorem Kn.add_l {x y : D} {a b : List D} (hx : lstOf m x = some a) (hy : lstOf m y = some b) (h : a.length + b.length ≤ sizeLine) (q : Q (.lst (a ++ b))) : Kn (addD m x y) Q := ⟨_, add_lst hx hy h, q⟩
theorem Kn.add_s {a b : Str} (h : a.length + b.length ≤ sizeLine) (q : Q (.str (catS a b))) : Kn (addD m (.str a) (.str b)) Q := ⟨_, if_pos h, q⟩
theorem Kn.sub {i j : Int} (q : Q (.int (i - j))) : Kn (subD m (.int i) (.int j)) Q := ⟨_, rfl, q⟩
theorem Kn.mul_i {i j : Int} (h : (-(2 ^ 64) < i ∧ i < 2 ^ 64) ∨ (-(2 ^ 64) < j ∧ j < 2 ^ 64)) (q : Q (.int (i * j))) : Kn (mulD m (.int i) (.int j)) Q := ⟨_, if_pos h, q⟩
theorem Kn.mul_t {a : List D} {k : Int} (h : a ≠ [] ∧ a.length ≤ 1000 ∧ 0 ≤ k ∧ k ≤ 1000) (q : Q (.tup (List.replicate k.toNat a).flatten)) : Kn (mulD m (.tup a) (.int k)) Q := ⟨_, if_pos h, q⟩
theorem Kn.fdiv {i j : Int} (h : 0 < j ∧ j < 1073741824) (q : Q (.int (i / j))) : Kn (fdivD m (.int i) (.int j)) Q := ⟨_, if_pos h, q⟩
theorem Kn.mod {i j : Int} (h : 0 < j) (q : Q (.int (i % j))) : Kn (modD m (.int i) (.int j)) Q := ⟨_, if_pos h, q⟩
theorem Kn.neg {i : Int} (q : Q (.int (-i))) : Kn (negD m (.int i)) Q := ⟨_, rfl, q⟩
theorem w_eq_int {i j : Int} : eqD m (.int i) (.int j) = some (.bl (i == j)) := by
  have hi : ∀ i : Int, pdM m (.int i) = some (.int i) := fun i => by
    have h1 : SeqAt.shaped (PyData.int i) = true := rfl
    simp [pdM, frz, pureD, pd, h1]
  simp [eqD, hi, PyData.eqv]
theorem w_ne_int {i j : Int} : neD m (.int i) (.int j) = some (.bl (!(i == j))) := by
  have hi : ∀ i : Int, pdM m (.int i) = some (.int i) := fun i => by
    have h1 : SeqAt.shaped (PyData.int i) = true := rfl
    simp [pdM, frz, pureD, pd, h1]
  simp [neD, hi, PyData.eqv]
theorem Kn.eq_i {i j : Int} (q : Q (.bl (i == j))) : Kn (eqD m (.int i) (.int j)) Q := ⟨_, w_eq_int, q⟩
theorem Kn.ne_i {i j : Int} (q : Q (.bl (!(i == j)))) : Kn (neD m (.int i) (.int j)) Q := ⟨_, w_ne_int, q⟩
theorem Kn.lt {i j : Int} (q : Q (.bl (decide (i < j)))) : Kn (ltD m (.int i) (.int j)) Q := ⟨_, rfl, q⟩
theorem Kn.le {i j : Int} (q : Q (.bl (decide (i ≤ j)))) : Kn (leD m (.int i) (.int j)) Q := ⟨_, rfl, q⟩
theorem Kn.gt {i j : Int} (q : Q (.bl (decide (j < i)))) : Kn (gtD m (.int i) (.int j)) Q := ⟨_, rfl, q⟩
theorem Kn.ge {i j : Int} (q : Q (.bl (decide (j ≤ i)))) : Kn (geD m (.int i) (.int j)) Q := ⟨_, rfl, q⟩
theorem Kn.int_i {i : Int} (q : Q (.int i)) : Kn (intD m [.int i]) Q := ⟨_, rfl, q⟩
theorem Kn.int_b {b : Bool} (q : Q (.int (if b then 1 else 0))) : Kn (intD m [.bl b]) Q := ⟨_, rfl, q⟩
theorem Kn.abs {i : Int} (q : Q (.int (if i < 0 then -i else i))) : Kn (absD m [.int i]) Q := ⟨_, rfl, q⟩
theorem Kn.min2 {i j : Int} (q : Q (.int (if j < i then j else i))) : Kn (min2D m [.int i, .int j]) Q := ⟨_, rfl, q⟩
theorem Kn.max2 {i j : Int} (q : Q (.int (if j > i then j else i))) : Kn (max2D m [.int i, .int j]) Q := ⟨_, rfl, q⟩
theorem Kn.len_t {ds : List D} (q : Q (.int ds.length)) : Kn (lenD m [.tup ds]) Q := ⟨_, rfl, q⟩
theorem Kn.len_l {ds : List D} (q : Q (.int ds.length)) : Kn (lenD m [.lst ds]) Q := ⟨_, rfl, q⟩
theorem Kn.len_s {ds : List D} (q : Q (.int ds.length)) : Kn (lenD m [.scr ds]) Q := ⟨_, rfl, q⟩
theorem Kn.len_r {n : Nat} {ds : List D} (h : m[n]? = some (.lst ds)) (q : Q (.int ds.length)) : Kn (lenD m [.ref n]) Q := ⟨.int ds.length, by
  show (lstR m (.ref n)).map _ = _
  have e : lstR m (.ref n) = some ds := by show (m[n]?).bind lstO = _; rw [h]; rfl
  rw [e]; rfl, q⟩
theorem Kn.tup_t {ds : List D} (q : Q (.tup ds)) : Kn (tupD m [.tup ds]) Q := ⟨_, rfl, q⟩
theorem Kn.tup_l {ds : List D} (q : Q (.tup ds)) : Kn (tupD m [.lst ds]) Q := ⟨_, rfl, q⟩
theorem Kn.tup_r {n : Nat} {ds : List D} (h : m[n]? = some (.lst ds)) (q : Q (.tup ds)) : Kn (tupD m [.ref n]) Q := ⟨.tup ds, by
  show (lstR m (.ref n)).map _ = _
  have e : lstR m (.ref n) = some ds := by show (m[n]?).bind lstO = _; rw [h]; rfl
  rw [e]; rfl, q⟩
theorem Kn.lis_t {ds : List D} (q : Q (.lst ds)) : Kn (lisD m [.tup ds]) Q := ⟨_, rfl, q⟩
theorem Kn.lis_l {ds : List D} (q : Q (.lst ds)) : Kn (lisD m [.lst ds]) Q := ⟨_, rfl, q⟩
theorem Kn.seq_t {Q : List D → Prop} {ds : List D} (q : Q ds) : Kn (seqD m (.tup ds)) Q := ⟨_, rfl, q⟩
theorem Kn.seq_l {Q : List D → Prop} {ds : List D} (q : Q ds) : Kn (seqD m (.lst ds)) Q := ⟨_, rfl, q⟩
theorem Kn.it_t {Q : List D → Prop} {ds : List D} (q : Q ds) : Kn (items (.tup ds)) Q := ⟨_, rfl, q⟩
theorem Kn.it_l {Q : List D → Prop} {ds : List D} (q : Q ds) : Kn (items (.lst ds)) Q := ⟨_, rfl, q⟩
theorem Kn.it_s {Q : List D → Prop} {ds : List D} (q : Q ds) : Kn (items (.scr ds)) Q := ⟨_, rfl, q⟩
theorem Kn.ix_t {ds : List D} {i : Nat} {d : D} (h : ds[i]? = some d) (q : Q d) : Kn (ixA m (.tup ds) (.int (i : Nat))) Q := ⟨d, by rw [ixA_tup]; exact L2.atI_nat h, q⟩
theorem Kn.ix_l {ds : List D} {i : Nat} {d : D} (h : ds[i]? = some d) (q : Q d) : Kn (ixA m (.lst ds) (.int (i : Nat))) Q := ⟨d, by rw [ixA_lst]; exact L2.atI_nat h, q⟩
theorem Kn.isi {x : D} {c : String} {b : Bool} (h : isiD m [x, .ty c] = some (.bl b)) (q : Q (.bl b)) : Kn (isiD m [x, .ty c]) Q := ⟨_, h, q⟩
theorem Kn.sl_t {ds : List D} {lo hi : Option Int} (q : Q (.tup (cutD ds lo hi))) : Kn (slD m (.tup ds) lo hi) Q := ⟨_, rfl, q⟩
theorem Kn.sl_l {ds : List D} {lo hi : Option Int} (q : Q (.lst (cutD ds lo hi))) : Kn (slD m (.lst ds) lo hi) Q := ⟨_, rfl, q⟩
theorem Kn.sl_r {n : Nat} {ds : List D} {lo hi : Option Int} (h : m[n]? = some (.lst ds)) (q : Q (.lst (cutD ds lo hi))) : Kn (slD m (.ref n) lo hi) Q := ⟨.lst (cutD ds lo hi), by
  show (lstR m (.ref n)).map _ = _
  have e : lstR m (.ref n) = some ds := by show (m[n]?).bind lstO = _; rw [h]; rfl
  rw [e]; rfl, q⟩
end
section
variable {ρ : Ss} {m : M} {Q : D → M → Prop}
theorem WG.one {i : Nat} {d : D} {Q : Ss → M → Prop} (q : Q (ρ.set i (some d)) m) : WG (gTgt (.one i)) d ρ m Q := ⟨_, m, rfl, q⟩
theorem WG.tup {is : List Nat} {ds : List D} {Q : Ss → M → Prop} (h : ds.length = is.length) (q : Q (setMany ρ is ds) m) : WG (gTgt (.many is)) (.tup ds) ρ m Q := ⟨setMany ρ is ds, m, by
  show (match (if ds.length = is.length then some ds else none) with | some ds => some (setMany ρ is ds, m) | none => none) = _
  rw [if_pos h], q⟩
/-- xs.append(e) -/
theorem WE.app {o e : EF} (h : WE o ρ m fun x m1 => ∃ n, x = .ref n ∧ (∃ ds0, m1[n]? = some (.lst ds0)) ∧ WE e ρ m1 fun y m2 => ∃ ds, m2[n]? = some (.lst ds) ∧ ds.length < sizeLine ∧ Q .non (m2.set n (.lst (ds ++ [y])))) : WE (eLm0 (fun _ => appL) o (aCons e aNil)) ρ m Q := by
  obtain ⟨x, m1, e1, n, rfl, ⟨ds0, h0⟩, y, m2, e2, ds, h1, h2, q⟩ := h
  refine ⟨.non, _, ?_, q⟩
  unfold eLm0
  rw [e1]
  show (match m1[n]? with
    | some (.lst _) => bd (aCons e aNil ρ m1) fun ys m2 => match m2[n]? with
      | some (.lst ds) => (appL ds ys).map fun (r : D × List D) => (r.1, m2.set n (.lst r.2))
      | _ => none
    | _ => none) = _
  rw [h0]
  have ea : aCons e aNil ρ m1 = some ([y], m2) := by unfold aCons; rw [e2]; rfl
  show bd (aCons e aNil ρ m1) _ = _
  rw [ea]
  show (match m2[n]? with
      | some (.lst ds) => (appL ds [y]).map fun (r : D × List D) => (r.1, m2.set n (.lst r.2))
      | _ => none) = _
  rw [h1]
  show (if ds.length < sizeLine then some (D.non, ds ++ [y]) else none).map _ = _
  rw [if_pos h2]
  rfl
/-- [e for .. in ..], over what is there at its start -/
theorem WE.lcK {nw : Bool} {it : AF} {t : Tgt} {c : TF} {e : EF} (h : WI it ρ m fun xs m1 => xs.length ≤ 1000000 ∧ Wr (compGo t c e ρ xs m1) fun ys m2 => Q (bif nw then .ref m2.length else .lst ys) (bif nw then m2 ++ [.lst ys] else m2)) : WE (eLcK nw it t c e) ρ m Q :=
  Wr.bd (by
    obtain ⟨xs, m1, e1, h1, ys, m2, e2, q⟩ := h
    refine ⟨xs, m1, e1, _, _, (if_pos h1).trans ?_, q⟩
    rw [e2]
    cases nw <;> rfl)
theorem WE.lcV {nw : Bool} {it : LF} {t : Tgt} {c : TF} {e : EF} (h : Wr (it ρ m) fun nx m1 => Wr (compLv t c e nx ρ 1000001 0 m1) fun ys m2 => Q (bif nw then .ref m2.length else .lst ys) (bif nw then m2 ++ [.lst ys] else m2)) : WE (eLcV nw it t c e) ρ m Q :=
  Wr.bd (by
    obtain ⟨nx, m1, e1, ys, m2, e2, q⟩ := h
    refine ⟨nx, m1, e1, _, _, ?_, q⟩
    rw [e2]
    cases nw <;> rfl)
theorem WE.tupR {a : AF} (h : WA a ρ m fun xs m1 => Kn (rgA xs) fun ds => Q (.tup ds) m1) : WE (eTupR a) ρ m Q :=
  Wr.bd (by obtain ⟨xs, m1, e, ds, e2, q⟩ := h; exact ⟨xs, m1, e, _, m1, by rw [e2]; rfl, q⟩)
theorem WE.lisR {a : AF} {nw : Bool} (h : WA a ρ m fun xs m1 => Kn (rgA xs) fun ds => Q (bif nw then .ref m1.length else .lst ds) (bif nw then m1 ++ [.lst ds] else m1)) : WE (eLisR nw a) ρ m Q :=
  Wr.bd (by obtain ⟨xs, m1, e, ds, e2, q⟩ := h; exact ⟨xs, m1, e, _, _, by rw [e2]; cases nw <;> rfl, q⟩)
/-- a comprehension without draws -/
theorem comp_pure {t : Tgt} {c : TF} {e : EF} {α : Type} (enc : α → D) (b : α → Bool) (f : α → D) : ∀ xs : List α, (∀ x ∈ xs, ∃ ds, t.un (enc x) = some ds ∧ c (setMany ρ t.is ds) m = some (b x, m) ∧ (b x = true → e (setMany ρ t.is ds) m = some (f x, m))) → compGo t c e ρ (xs.map enc) m = some ((xs.filter b).map f, m)
  | [], _ => rfl
  | x :: xs, h => by
    obtain ⟨ds, h1, h2, h3⟩ := h x List.mem_cons_self
    have ih := comp_pure enc b f xs fun y hy => h y (List.mem_cons_of_mem _ hy)
    show compGo t c e ρ (enc x :: xs.map enc) m = _
    unfold compGo
    rw [h1]
    show bd (c (setMany ρ t.is ds) m) _ = _
    rw [h2]
    cases hb : b x
    · show compGo t c e ρ (xs.map enc) m = _
      rw [ih, List.filter_cons, hb]
      rfl
    · show bd (e (setMany ρ t.is ds) m) _ = _
      rw [h3 hb]
      show bd (compGo t c e ρ (xs.map enc) m) _ = _
      rw [ih, List.filter_cons, hb]
      rfl
/-- what is walked with its numbers -/
def idxF {α : Type} (b : α → Bool) (f : Nat → α → D) : Nat → List α → List D
  | _, [] => []
  | i, x :: xs => (bif b x then [f i x] else []) ++ idxF b f (i + 1) xs
theorem compLv_en {t : Tgt} {c : TF} {el : EF} {α : Type} (enc : α → D) (b : α → Bool) (f : Nat → α → D) {ds : List α} : ∀ (rest pre : List α) (k : Nat), ds = pre ++ rest → rest.length < k →
    (∀ (i : Nat) x, ds[i]? = some x → ∃ ys, t.un (.tup [.int (i : Nat), enc x]) = some ys ∧ c (setMany ρ t.is ys) m = some (b x, m) ∧ (b x = true → el (setMany ρ t.is ys) m = some (f i x, m))) →
    compLv t c el (nxE (nxC (ds.map enc))) ρ k pre.length m = some (idxF b f pre.length rest, m)
  | [], pre, 0, _, h, _ => by simp at h
  | _ :: _, pre, 0, _, h, _ => by simp at h
  | [], pre, k + 1, e, _, _ => by
    have e' : ds = pre := by simpa using e
    subst e'
    have h1 : (ds.map enc)[ds.length]? = none := by simp
    unfold compLv nxE nxC
    rw [if_pos (by simp), h1]
    rfl
  | x :: rest, pre, k + 1, e, hk, h => by
    have hx : ds[pre.length]? = some x := by simp [e]
    have h1 : (ds.map enc)[pre.length]? = some (enc x) := by simp [e]
    have h2 : pre.length ≤ (ds.map enc).length := by simp [e]
    have hn : nxE (nxC (ds.map enc)) m pre.length = some (some (.tup [.int (pre.length : Nat), enc x])) := by
      unfold nxE nxC
      rw [if_pos h2, h1]
      rfl
    have ih := compLv_en (t := t) (c := c) (el := el) enc b f rest (pre ++ [x]) k (by simp [e]) (by simp at hk; omega) h
    have e3 : pre.length + 1 = (pre ++ [x]).length := by simp
    obtain ⟨ys, q1, q2, q3⟩ := h _ _ hx
    unfold compLv
    rw [hn]
    dsimp only
    rw [q1]
    dsimp only
    rw [q2]
    show (if b x = true then _ else _) = _
    cases hb : b x
    · rw [if_neg (by simp), e3, ih, idxF, hb, ← e3]
      rfl
    · rw [if_pos rfl, q3 hb, e3]
      show bd (compLv _ _ _ _ _ _ _ _) _ = _
      rw [ih, idxF, hb, ← e3]
      rfl
end
end L4
namespace L4
section
variable {ρ : Ss} {m : M}
theorem WS.ite_t {x : Bool} {a b : SF} {Q : Fl → M → Prop} (h : x = true) (q : WS a ρ m Q) : WS (if x then a else b) ρ m Q := by rw [if_pos h]; exact q
theorem WS.ite_f {x : Bool} {a b : SF} {Q : Fl → M → Prop} (h : x = false) (q : WS b ρ m Q) : WS (if x then a else b) ρ m Q := by rw [h]; exact q
theorem WE.ite_t {x : Bool} {a b : EF} {Q : D → M → Prop} (h : x = true) (q : WE a ρ m Q) : WE (if x then a else b) ρ m Q := by rw [if_pos h]; exact q
theorem WE.ite_f {x : Bool} {a b : EF} {Q : D → M → Prop} (h : x = false) (q : WE b ρ m Q) : WE (if x then a else b) ρ m Q := by rw [h]; exact q
end
end L4

/-! walks over the printed functions: comprehensions and loops over what lies in the heap -/
namespace L4
open PySem
section
variable {ρ : Ss} {m : M} {Q : D → M → Prop} {α : Type}
/-- a walk tells these things in turn -/
def Tells (nx : NX) (m : M) (g : Nat → α → D) (ds : List α) : Prop := ∀ i, i ≤ ds.length → nx m i = some ((ds[i]?).map (g i))
theorem tells_C {enc : α → D} {ds : List α} : Tells (nxC (ds.map enc)) m (fun _ => enc) ds := fun i hi => by
  unfold nxC
  rw [if_pos (by simpa using hi), List.getElem?_map]
theorem tells_R {n : Nat} {enc : α → D} {ds : List α} (h : m[n]? = some (.lst (ds.map enc))) : Tells (nxR n) m (fun _ => enc) ds := fun i _ => by
  unfold nxR
  rw [h]
  show some ((ds.map enc)[i]?) = _
  rw [List.getElem?_map]
theorem Tells.en {nx : NX} {g : Nat → α → D} {ds : List α} (h : Tells nx m g ds) : Tells (nxE nx) m (fun i x => .tup [.int (i : Nat), g i x]) ds := fun i hi => by
  unfold nxE
  rw [h i hi]
  cases ds[i]? <;> rfl
def pickF (b : Nat → α → Bool) (f : Nat → α → D) : Nat → List α → List D
  | _, [] => []
  | i, x :: xs => (bif b i x then [f i x] else []) ++ pickF b f (i + 1) xs
theorem pick_map (f : α → D) : ∀ (i : Nat) (ds : List α), pickF (fun _ _ => true) (fun _ => f) i ds = ds.map f
  | _, [] => rfl
  | i, x :: xs => by unfold pickF; rw [pick_map f (i + 1) xs]; rfl
theorem compLv_go {t : Tgt} {c : TF} {el : EF} {nx : NX} {g : Nat → α → D} (b : Nat → α → Bool) (f : Nat → α → D) {ds : List α} (hn : Tells nx m g ds) : ∀ (rest pre : List α) (k : Nat), ds = pre ++ rest → rest.length < k →
    (∀ (i : Nat) x, ds[i]? = some x → ∃ ys, t.un (g i x) = some ys ∧ c (setMany ρ t.is ys) m = some (b i x, m) ∧ (b i x = true → el (setMany ρ t.is ys) m = some (f i x, m))) →
    compLv t c el nx ρ k pre.length m = some (pickF b f pre.length rest, m)
  | [], pre, 0, _, h, _ => by simp at h
  | _ :: _, pre, 0, _, h, _ => by simp at h
  | [], pre, k + 1, e, _, _ => by
    have h2 := hn pre.length (by simp [e])
    have h1 : ds[pre.length]? = none := by simp [e]
    rw [h1] at h2
    unfold compLv
    rw [h2]
    rfl
  | x :: rest, pre, k + 1, e, hk, h => by
    have hx : ds[pre.length]? = some x := by simp [e]
    have h2 := hn pre.length (by simp [e])
    rw [hx] at h2
    have ih := compLv_go (t := t) (c := c) (el := el) b f hn rest (pre ++ [x]) k (by simp [e]) (by simp at hk; omega) h
    have e3 : pre.length + 1 = (pre ++ [x]).length := by simp
    obtain ⟨ys, q1, q2, q3⟩ := h _ _ hx
    unfold compLv
    rw [h2]
    dsimp only [Option.map_some]
    rw [q1]
    dsimp only
    rw [q2]
    show (if b pre.length x = true then _ else _) = _
    cases hb : b pre.length x
    · rw [if_neg (by simp), e3, ih, pickF, hb, ← e3]
      rfl
    · rw [if_pos rfl, q3 hb, e3]
      show bd (compLv _ _ _ _ _ _ _ _) _ = _
      rw [ih, pickF, hb, ← e3]
      rfl
/-- [e for .. in xs if c], nothing drawn -/
theorem WE.lcT {it : LF} {t : Tgt} {c : TF} {e : EF} {nx : NX} {g : Nat → α → D} (b : Nat → α → Bool) (f : Nat → α → D) {ds : List α} (hi : it ρ m = some (nx, m)) (hn : Tells nx m g ds) (hl : ds.length < 1000000)
    (h : ∀ (i : Nat) x, ds[i]? = some x → ∃ ys, t.un (g i x) = some ys ∧ WT c (setMany ρ t.is ys) m (fun v m1 => v = b i x ∧ m1 = m) ∧ (b i x = true → WE e (setMany ρ t.is ys) m fun v m1 => v = f i x ∧ m1 = m))
    (q : Q (.lst (pickF b f 0 ds)) m) : WE (eLcV false it t c e) ρ m Q :=
  WE.lcV ⟨nx, m, hi, pickF b f 0 ds, m, compLv_go (t := t) (c := c) (el := e) b f hn ds [] 1000001 rfl (by omega) (fun i x hx => by
    obtain ⟨ys, h1, ⟨v, m1, e1, rfl, rfl⟩, h3⟩ := h i x hx
    exact ⟨ys, h1, e1, fun hb => by obtain ⟨v, m2, e2, rfl, rfl⟩ := h3 hb; exact e2⟩), q⟩
theorem lIt_R {a : EF} {n : Nat} {ds : List D} (h : a ρ m = some (.ref n, m)) (hm : m[n]? = some (.lst ds)) : lIt a ρ m = some (nxR n, m) := by
  unfold lIt
  rw [h]
  show ((m[n]?).bind lstO).map (fun _ => (nxR n, m)) = _
  rw [hm]
  rfl
theorem lEn_R {a : EF} {n : Nat} {ds : List D} (h : a ρ m = some (.ref n, m)) (hm : m[n]? = some (.lst ds)) : lEn (aCons a aNil) ρ m = some (nxE (nxR n), m) := by
  have ea : aCons a aNil ρ m = some ([.ref n], m) := by unfold aCons; rw [h]; rfl
  unfold lEn
  rw [ea]
  show ((m[n]?).bind lstO).map (fun _ => (nxE (nxR n), m)) = _
  rw [hm]
  rfl
theorem lEn_L {a : EF} {x : D} {ds : List D} (h : a ρ m = some (x, m)) (hx : x = .lst ds ∨ x = .tup ds ∨ x = .scr ds) : lEn (aCons a aNil) ρ m = some (nxE (nxC ds), m) := by
  have ea : aCons a aNil ρ m = some ([x], m) := by unfold aCons; rw [h]; rfl
  unfold lEn
  rw [ea]
  rcases hx with rfl | rfl | rfl <;> rfl
theorem var_of {i : Nat} {d : D} (h : ρ.getD i none = some d) : eVar i ρ m = some (d, m) := by unfold eVar; rw [h]; rfl
/-- [e for .. in xs], with draws: an invariant; what is found is told by P -/
theorem WE.lcI {it : AF} {t : Tgt} {e : EF} (I : M → List D → Prop) (h : WI it ρ m fun xs m1 => xs.length ≤ 1000000 ∧ I m1 [] ∧ (∀ i x m acc, xs[i]? = some x → acc.length = i → I m acc → ∃ ys, t.un x = some ys ∧ WE e (setMany ρ t.is ys) m fun d m1 => I m1 (acc ++ [d])) ∧ ∀ m acc, acc.length = xs.length → I m acc → Q (.lst acc) m) : WE (eLcK false it t tTrue e) ρ m Q := by
  refine WE.lcK ?_
  obtain ⟨xs, m1, e1, hz, h0, hs, hq⟩ := h
  refine ⟨xs, m1, e1, hz, ?_⟩
  have key : ∀ (rest pre : List D) (m2 : M) (acc : List D), xs = pre ++ rest → acc.length = pre.length → I m2 acc → ∃ ys m3, compGo t tTrue e ρ rest m2 = some (ys, m3) ∧ ys.length = rest.length ∧ I m3 (acc ++ ys) := by
    intro rest
    induction rest with
    | nil => intro pre m2 acc _ _ hI; exact ⟨[], m2, rfl, rfl, by simpa using hI⟩
    | cons x rest ih =>
      intro pre m2 acc ex hl hI
      have hx : xs[pre.length]? = some x := by simp [ex]
      obtain ⟨ys, q1, d, m3, q2, q3⟩ := hs pre.length x m2 acc hx hl hI
      obtain ⟨zs, m4, q4, q5, q6⟩ := ih (pre ++ [x]) m3 (acc ++ [d]) (by simp [ex]) (by simp [hl]) q3
      refine ⟨d :: zs, m4, ?_, by simp [q5], by simpa [List.append_assoc] using q6⟩
      unfold compGo
      rw [q1]
      show bd (e (setMany ρ t.is ys) m2) _ = _
      rw [q2]
      show bd (compGo t tTrue e ρ rest m3) _ = _
      rw [q4]
      rfl
  obtain ⟨ys, m3, k1, k2, k3⟩ := key xs [] m1 [] rfl rfl h0
  exact ⟨ys, m3, k1, hq m3 ys k2 (by simpa using k3)⟩
end
end L4
namespace L4
open PySem
/-! data compared: alike, numbers -/
section
variable {m : M}
theorem pdM_pure {x : D} {p : PyData} (hp : pureD x = true) (h : pd x = some p) (hs : SeqAt.shaped p = true) : pdM m x = some p := by
  unfold pdM frz
  rw [if_pos hp]
  show (match pd x with | some a => if SeqAt.shaped a then some a else none | none => none) = _
  rw [h]
  exact if_pos hs
theorem pdM_lay {x : D} {p : PyData} (h : pdM m x = some p) : p.canLay0 = true := by
  unfold pdM at h
  split at h
  · obtain ⟨hz, h⟩ := ite_some h
    cases h
    exact SeqAt.canLay_of_shaped hz
  · cases h
theorem ne_same {x : D} {p : PyData} (h : pdM m x = some p) : neD m x x = some (.bl false) := by
  unfold neD
  rw [h]
  show some (D.bl (!PyData.eqv p p)) = _
  rw [PySem.SeqAt.eqv_refl p (pdM_lay h)]
  rfl
theorem eq_same {x : D} {p : PyData} (h : pdM m x = some p) : eqD m x x = some (.bl true) := by
  unfold eqD
  rw [h]
  show some (D.bl (PyData.eqv p p)) = _
  rw [PySem.SeqAt.eqv_refl p (pdM_lay h)]
theorem pdL_ints : ∀ is : List Int, pdL (is.map D.int) = some (is.map PyData.int)
  | [] => rfl
  | i :: is => by rw [List.map_cons, pdL, pd, pdL_ints is]; rfl
theorem pureL_ints : ∀ is : List Int, pureL (is.map D.int) = true
  | [] => rfl
  | i :: is => by rw [List.map_cons, pureL, pureD, pureL_ints is]; rfl
theorem lay_ints : ∀ is : List Int, PyData.canLayAll0 (is.map PyData.int) = true ∧ PyData.depthAll (is.map PyData.int) ≤ 1
  | [] => ⟨rfl, by simp [PyData.depthAll]⟩
  | i :: is => by
    obtain ⟨h1, h2⟩ := lay_ints is
    refine ⟨by simp [PyData.canLayAll0, PyData.canLay0, h1], ?_⟩
    simp only [List.map_cons, PyData.depthAll, PyData.depth]
    omega
theorem pdM_li {is : List Int} : pdM m (.lst (is.map .int)) = some (.list (is.map .int)) := by
  obtain ⟨h1, h2⟩ := lay_ints is
  have hd : (PyData.list (is.map .int)).depth ≤ 64 := by simp only [PyData.depth]; omega
  exact pdM_pure (pureL_ints is) (by rw [pd, pdL_ints]; rfl) (by simp [SeqAt.shaped, PyData.canLay0, h1, hd])
theorem pdM_ti {is : List Int} : pdM m (.tup (is.map .int)) = some (.tuple (is.map .int)) := by
  obtain ⟨h1, h2⟩ := lay_ints is
  have hd : (PyData.tuple (is.map .int)).depth ≤ 64 := by simp only [PyData.depth]; omega
  exact pdM_pure (pureL_ints is) (by rw [pd, pdL_ints]; rfl) (by simp [SeqAt.shaped, PyData.canLay0, h1, hd])
theorem pdM_i {i : Int} : pdM m (.int i) = some (.int i) := pdM_pure rfl rfl rfl
theorem eqv_ints : ∀ is js : List Int, PyData.eqvAll (is.map PyData.int) (js.map PyData.int) = decide (is = js)
  | [], [] => rfl
  | [], _ :: _ => by simp [PyData.eqvAll]
  | _ :: _, [] => by simp [PyData.eqvAll]
  | i :: is, j :: js => by
    rw [List.map_cons, List.map_cons, PyData.eqvAll, eqv_ints is js, PyData.eqv]
    by_cases h : i = j
    · subst h; simp
    · simp [h]
theorem ne_li {is js : List Int} : neD m (.lst (is.map .int)) (.lst (js.map .int)) = some (.bl (!decide (is = js))) := by
  unfold neD
  rw [pdM_li, pdM_li]
  show some (D.bl (!PyData.eqvAll _ _)) = _
  rw [eqv_ints]
theorem ne_ti {is js : List Int} : neD m (.tup (is.map .int)) (.tup (js.map .int)) = some (.bl (!decide (is = js))) := by
  unfold neD
  rw [pdM_ti, pdM_ti]
  show some (D.bl (!PyData.eqvAll _ _)) = _
  rw [eqv_ints]
theorem in_li {i : Int} {is : List Int} : inA m (.int i) (.lst (is.map .int)) = some (.bl (decide (i ∈ is))) := by
  have e : inAB m (.int i) (.lst (is.map .int)) = some (decide (i ∈ is)) := by
    unfold inAB
    show inB m (.int i) (.lst (is.map .int)) = _
    show (match pdM m (.int i), pdM m (.lst (is.map .int)) with
      | some a, some (.tuple ds) => some (ds.any fun z => PyData.eqv z a)
      | some a, some (.list ds) => some (ds.any fun z => PyData.eqv z a)
      | _, _ => none) = _
    rw [pdM_li, pdM_i]
    show some ((is.map PyData.int).any fun z => PyData.eqv z (.int i)) = _
    congr 1
    induction is with
    | nil => rfl
    | cons j is ih =>
      rw [List.map_cons, List.any_cons, ih]
      by_cases h : j = i
      · subst h; simp [PyData.eqv]
      · have h2 : ¬ i = j := fun e => h e.symm
        simp [PyData.eqv, h, h2]
  unfold inA
  rw [e]
  rfl
end
end L4
namespace L4
open PySem
section
variable {ρ : Ss} {m : M}
theorem w_and_t {x : Bool} {A B : Prop} (h : x = true) (a : A) : (x = true → A) ∧ (x = false → B) := ⟨fun _ => a, fun h' => (by rw [h] at h'; cases h')⟩
theorem w_and_f {x : Bool} {A B : Prop} (h : x = false) (b : B) : (x = true → A) ∧ (x = false → B) := ⟨fun h' => (by rw [h] at h'; cases h'), fun _ => b⟩
theorem w_or_f {x : Bool} {A B : Prop} (h : x = false) (a : A) : (x = false → A) ∧ (x = true → B) := ⟨fun _ => a, fun h' => (by rw [h] at h'; cases h')⟩
theorem w_or_t {x : Bool} {A B : Prop} (h : x = true) (b : B) : (x = false → A) ∧ (x = true → B) := ⟨fun h' => (by rw [h] at h'; cases h'), fun _ => b⟩
theorem w_tf {p : Prop} (h : true = false) : p := nomatch h
theorem w_ft {p : Prop} (h : false = true) : p := nomatch h
theorem WS.mono {f : SF} {P Q : Fl → M → Prop} (h : WS f ρ m P) (k : ∀ r m, P r m → Q r m) : WS f ρ m Q := by
  obtain ⟨r, m1, e, h⟩ := h
  exact ⟨r, m1, e, k r m1 h⟩
theorem lstOf_r {n : Nat} {ds : List D} (h : m[n]? = some (.lst ds)) : lstOf m (.ref n) = some ds := by
  show (m[n]?).bind lstO = _
  rw [h]
  rfl
end
end L4

/-! lists and dicts that change, lent to a def or a class that gives no list and no dict back -/
namespace L4
open PySem PySem.Spec PyProof.Rows L2
mutual
/-- no list, no dict, nothing tracked -/
def noLd : D → Bool
  | .tup ds => noLdL ds
  | .scr ds => noLdL ds
  | .obj _ _ vs => noLdL vs
  | .lst _ => false
  | .dic _ _ => false
  | .ref _ => false
  | .non => true
  | .bl _ => true
  | .int _ => true
  | .str _ => true
  | .glo _ => true
  | .ty _ => true
def noLdL : List D → Bool
  | [] => true
  | d :: ds => noLd d && noLdL ds
end
/-- a list or a dict that may change -/
def Ll : HO → Prop
  | .lst _ => True
  | .dK _ => True
  | .ext _ => True
  | _ => False
section
variable {X : Cx} {g : G} {T : Tk} {H H' : Hp} {m : M} {pos p : Pos} {e : Expr} {es : List Expr} {k n : Nat} {x c : Str}
structure LentLd (T : Tk) (H H' : Hp) (ν : List Addr) : Prop where
  sub : ∀ a ∈ ν, a ∈ T.ν
  ld : ∀ a ∈ T.ν, a ∉ ν → ∃ u, H' a = some u ∧ Ll u
theorem LentLd.out {ν : List Addr} (h : LentLd T H H' ν) {a : Addr} {v : HO} (n : a ∉ ν) (e : H' a = some v) (hv : ¬ Ll v) : a ∉ T.ν := fun z => by
  obtain ⟨u, h2, h3⟩ := h.ld a z n
  rw [e] at h2
  cases h2
  exact hv h3
mutual
theorem Rep.unlentLd {ν : List Addr} (h : LentLd T H H' ν) : ∀ (d : D) {v : V}, noLd d = true → Rep g (T0 ν) H' d v → Rep g T H' d v
  | .non, _, _, r => by cases r; exact .non
  | .bl _, _, _, r => by cases r; exact .bl _
  | .int _, _, _, r => by cases r; exact .int _
  | .str _, _, _, r => by cases r; exact .str _
  | .glo _, _, _, r => by cases r; exact .glo _
  | .ty _, _, _, r => by cases r; exact .ty _
  | .ref _, _, q, _ => by rw [noLd] at q; cases q
  | .lst _, _, q, _ => by rw [noLd] at q; cases q
  | .dic _ _, _, q, _ => by rw [noLd] at q; cases q
  | .tup ds, _, q, .tup f r => by
    rw [noLd] at q
    refine .tup ?_ (RepL.unlentLd h ds q r)
    rcases f with ⟨n, f⟩ | f
    · exact .inl ⟨h.out n f fun z => z, f⟩
    · exact .inr f
  | .scr ds, _, q, .scr f r => by
    rw [noLd] at q
    refine .scr ?_ (RepL.unlentLd h ds q r)
    rcases f with ⟨n, ob, f⟩ | f
    · exact .inl ⟨h.out n f fun z => z, ob, f⟩
    · exact .inr f
  | .obj c ns vs, _, q, .obj n f e r => by
    rw [noLd] at q
    exact .obj (h.out n f fun z => z) f e (RepL.unlentLd h vs q r)
theorem RepL.unlentLd {ν : List Addr} (h : LentLd T H H' ν) : ∀ (ds : List D) {vs : List V}, noLdL ds = true → RepL g (T0 ν) H' ds vs → RepL g T H' ds vs
  | [], _, _, r => by cases r; exact .nil
  | d :: ds, _, q, .cons r s => by
    rw [noLdL] at q
    exact .cons (Rep.unlentLd h d (and2 q).1 r) (RepL.unlentLd h ds (and2 q).2 s)
end
/-- nothing tracked is an instance -/
def noIns (m : M) : Bool := m.all fun o => match o with
  | .ins _ _ _ => false
  | _ => true
theorem noIns_ld (hm : RepH g T H m) (h : noIns m = true) {a : Addr} (ha : a ∈ T.μ) : ∃ u, H a = some u ∧ Ll u := by
  obtain ⟨i, hi, rfl⟩ := List.getElem_of_mem ha
  have hl : i < m.length := by rw [← hm.len]; exact hi
  have h1 := hm.at_ i _ _ (List.getElem?_eq_getElem hi) (List.getElem?_eq_getElem hl)
  have h2 := List.all_eq_true.mp h m[i] (List.getElem_mem hl)
  revert h1 h2
  generalize m[i] = o
  intro h1 h2
  cases h1 with
  | lst h r => exact ⟨_, h, trivial⟩
  | dicF h r q => exact ⟨_, h, trivial⟩
  | dicN h k r q => exact ⟨_, h, trivial⟩
  | ins h k r => cases h2
def callK (F : List D → Option D) (m : M) (ds : List D) : Option D := if pureL ds then F ds else if noIns m then match mapO (frz m) ds with
    | some es => match F es with
      | some d => if noLd d then some d else none
      | none => none
    | none => none
  else none
open Classical in
theorem lent_of (hm : RepH g T H m) (h : noIns m = true) : ∃ ν : List Addr, (∀ a ∈ ν, a ∈ T.ν) ∧ (∀ a ∈ T.μ, a ∉ ν) ∧ ∀ H' : Hp, (∀ a u, H a = some u → H' a = some u) → LentLd T H H' ν := by
  refine ⟨T.ν.filter fun a => decide (∀ u, H a = some u → ¬ Ll u), fun a h => (List.mem_filter.mp h).1, fun a ha hn => ?_, fun H' up => ⟨fun a h => (List.mem_filter.mp h).1, fun a ha hna => ?_⟩⟩
  · obtain ⟨u, hu, hl⟩ := noIns_ld hm h ha
    exact (of_decide_eq_true (List.mem_filter.mp hn).2) u hu hl
  · apply Classical.byContradiction
    intro hno
    apply hna
    exact List.mem_filter.mpr ⟨ha, decide_eq_true fun u hu hdu => hno ⟨u, up a u hu, hdu⟩⟩
theorem rf_callK {F : List D → Option D} (hn : ∀ ds d, F ds = some d → ds.length = n) : RfC g (fun vs H Q => spP g n F vs H Q E0) (callK F) := by
  intro T H m xs vs d hm r hf Q k
  unfold callK at hf
  split at hf
  · next hp =>
    refine ⟨by rw [← r.length]; exact hn _ _ hf, T.ν, xs, d, hm.has, RepL.pure (fun _ h => h) _ hp r, hf, fun v H' up rv => ?_⟩
    obtain ⟨l, hm'⟩ := hm.grow up
    exact k v T H' l hm' (Rep.lift _ rv)
  · obtain ⟨hi, hf⟩ := ite_some hf
    split at hf
    · next es h1 =>
      split at hf
      · next d' h2 =>
        obtain ⟨hg, hf⟩ := ite_some hf
        cases hf
        obtain ⟨ν, hν, hμ, lent⟩ := lent_of hm hi
        have re : RepL g (T0 ν) H es vs := r.mapO (fun d e v h q => frz_ok hm hν hμ h q) h1
        refine ⟨by rw [← re.length]; exact hn _ _ h2, ν, es, d, fun a h => hm.has a (hν a h), re, h2, fun v H' up rv => ?_⟩
        obtain ⟨l, hm'⟩ := hm.grow up
        exact k v T H' l hm' (Rep.unlentLd (lent H' up) _ hg rv)
      · cases hf
    · cases hf
theorem de_pfnK {F : List D → Option D} {f : AF} (hF : PFn X.prog X.w X.K X.mg X.base k x n F) (gd : Gd k X) (hg : Gl X x) (ha : DA X (e :: es) f) (hdb : (x == ("__debug__" : Str)) = false := by decide)
    (he : starEach (e :: es) X.env = (false, eval e X.env) :: starEach es X.env := by rfl) (hpl : (backTo pos (starEach es X.env)).any (·.1) = false := by rfl) : DE X (.Call (.Name x p) (e :: es) [] pos) (eCall (callK F) f) := by
  obtain ⟨fa, fd, ps, G, hm, kp, b⟩ := hF.ex
  obtain ⟨t, pa, ra⟩ := ha.ex
  exact ⟨_, pe_callR (app_nil (r := fun _ _ _ => True) (G.call gd b .nil)) hg hm kp pa hdb he hpl, rf_call (rf_callK hF.len) ra⟩
/-- a class that is lent lists and dicts -/
def newK (F : List D → Option D) (m : M) (ds : List D) : Option D := if pureL ds then F ds else if noIns m then match mapO (frz m) ds with
    | some es => match F es with
      | some d => if noLd d then some d else none
      | none => none
    | none => none
  else none
theorem rf_newK {F : List D → M → Option (D × M)} (hn : ∀ ds m r, F ds m = some r → ds.length = n) :
    RfC g (fun vs H Q => ∀ x dx, H x = none → H dx = none → dx ≠ x → spM g n F (.ref x :: vs) (upd (upd H dx (.own x)) x (.ins (He.ga g.K c) dx [])) (fun v H2 => v = .non ∧ Q (.ref x) H2) E0) (newK (newP c F)) := by
  intro T H m xs vs d hm r hf Q k x dx hx hdx hne
  unfold newK at hf
  split at hf
  · next hp =>
    have hf' : pureC (newP c F) m xs = some d := by unfold pureC; rw [if_pos hp]; exact hf
    exact rf_newP hn T H m xs vs d hm r hf' Q k x dx hx hdx hne
  · obtain ⟨hi, hf⟩ := ite_some hf
    split at hf
    · next es h1 =>
      split at hf
      · next d' h2 =>
        obtain ⟨hg, hf⟩ := ite_some hf
        cases hf
        obtain ⟨ν, hν, hμ, lent⟩ := lent_of hm hi
        have re : RepL g (T0 ν) H es vs := r.mapO (fun d e v h q => frz_ok hm hν hμ h q) h1
        unfold newP at h2
        split at h2
        · next m2 hF =>
          have up : ∀ a u, H a = some u → upd (upd H dx (.own x)) x (.ins (He.ga g.K c) dx []) a = some u := fun a u e => by
            rw [upd_ne (ne_of_none e hx), upd_ne (ne_of_none e hdx)]; exact e
          have nx : x ∉ T.ν := hm.nope hx
          let Tc : Tk := ⟨[x], x :: ν, fun a h => by rw [List.mem_singleton.mp h]; exact List.mem_cons_self ..⟩
          obtain ⟨l1, hm1⟩ := hm.grow up
          have hmc : RepH g Tc (upd (upd H dx (.own x)) x (.ins (He.ga g.K c) dx [])) [.ins c [] []] := by
            refine ⟨rfl, by simp [Tc], fun a ha => ?_, fun i a o h1 h2 => ?_⟩
            · rcases List.mem_cons.mp ha with rfl | z
              · exact ⟨_, upd_same, trivial⟩
              · exact hm1.has a (hν a z)
            · cases i with
              | zero => cases h1; cases h2; exact .ins upd_same rfl .nil
              | succ i => cases h2
          have rc : RepL g Tc (upd (upd H dx (.own x)) x (.ins (He.ga g.K c) dx [])) es vs := by
            have l0 : Le (T0 ν) H ⟨[], x :: ν, fun a h => nomatch h⟩ (upd (upd H dx (.own x)) x (.ins (He.ga g.K c) dx [])) := ⟨List.prefix_rfl, fun a u e _ => up a u e, fun a ha n => by
              rcases List.mem_cons.mp ha with rfl | z
              · exact hx
              · exact absurd z n, fun a h n => (nomatch h), fun a h => List.mem_cons_of_mem _ h⟩
            exact RepL.lift (T := Tc) _ (re.le l0)
          refine ⟨by have := hn _ _ _ hF; rw [← this]; simp [re.length], Tc, _, .ref 0 :: es, .non, m2, hmc, .cons (.ref rfl) rc, hF, fun v T2 H2 l2 hm2 rv => ?_⟩
          cases rv
          refine ⟨rfl, ?_⟩
          have upH : ∀ a u, H a = some u → H2 a = some u := fun a u e => l2.keep a u (up a u e) fun z => by
            rw [List.mem_singleton.mp z] at e
            rw [hx] at e
            cases e
          obtain ⟨l3, hm3⟩ := hm.grow upH
          have rz : Rep g T2 H2 (.ref 0) (.ref x) := .ref (l2.get (n := 0) rfl)
          have rn : Rep g (T0 ν) H2 d (.ref x) := frz_ok hm2 (ν := ν) (fun a h => l2.up a (List.mem_cons_of_mem _ h)) (fun a h z => by
            by_cases ha : a ∈ Tc.μ
            · rw [List.mem_singleton.mp ha] at z; exact nx (hν _ z)
            · obtain ⟨u, e, _⟩ := hm1.has a (hν a z)
              rw [l2.newμ a h ha] at e
              cases e) h2 rz
          exact k _ T H2 l3 hm3 (Rep.unlentLd (lent H2 upH) _ hg rn)
        · cases h2
      · cases hf
    · cases hf
theorem de_newK {F : List D → M → Option (D × M)} {f : AF} (hF : MNw X.prog X.w X.K X.mg X.base k c n F) (gd : Gd (k + 1) X) (hg : Gl X c) (ha : DA X (e :: es) f) (hdb : (c == ("__debug__" : Str)) = false := by decide)
    (he : starEach (e :: es) X.env = (false, eval e X.env) :: starEach es X.env := by rfl) (hpl : (backTo pos (starEach es X.env)).any (·.1) = false := by rfl) : DE X (.Call (.Name c p) (e :: es) [] pos) (eCall (newK (newP c F)) f) := by
  obtain ⟨fa, fd, ps, G, M, b⟩ := hF.ex
  obtain ⟨t, pa, ra⟩ := ha.ex
  exact ⟨_, pe_callR (G.make M gd b) hg hF.mgC M.kp pa hdb he hpl, rf_call (rf_newK hF.len) ra⟩
end
end L4

/-! texts joined and split, as lists of signs -/
namespace L4
open PySem
theorem str_ext {a b : Str} (h : a.cps.toList = b.cps.toList) : a = b := by
  cases a; cases b
  congr 1
  exact Array.ext' h
theorem catS_l (a b : Str) : (catS a b).cps.toList = a.cps.toList ++ b.cps.toList := rfl
theorem joinT_l (a : Str) (ys : List Str) : (joinT a ys).cps.toList = TL.joinL a.cps.toList (ys.map fun y => y.cps.toList) := rfl
theorem spl1_word (c : Nat) : ∀ w : List Nat, c ∉ w → spl1 c w = [w]
  | [], _ => rfl
  | x :: w, h => by
    have hx : ¬ x = c := fun e => h (by simp [e])
    have ih := spl1_word c w fun e => h (List.mem_cons_of_mem _ e)
    unfold spl1
    rw [if_neg hx, ih]
theorem spl1_cons (c : Nat) (r : List Nat) : ∀ w : List Nat, c ∉ w → spl1 c (w ++ c :: r) = w :: spl1 c r
  | [], _ => by rw [List.nil_append]; conv => lhs; unfold spl1; rw [if_pos rfl]
  | x :: w, h => by
    have hx : ¬ x = c := fun e => h (by simp [e])
    have ih := spl1_cons c r w fun e => h (List.mem_cons_of_mem _ e)
    rw [List.cons_append]
    conv => lhs; unfold spl1
    rw [if_neg hx, ih]
theorem spl1_join (c : Nat) : ∀ ws : List (List Nat), ws ≠ [] → (∀ w ∈ ws, c ∉ w) → spl1 c (TL.joinL [c] ws) = ws
  | [], h, _ => absurd rfl h
  | [w], _, h => spl1_word c w (h w List.mem_cons_self)
  | w :: v :: ws, _, h => by
    have ih := spl1_join c (v :: ws) (by simp) fun u hu => h u (List.mem_cons_of_mem _ hu)
    show spl1 c (w ++ ([c] ++ TL.joinL [c] (v :: ws))) = _
    rw [List.singleton_append, spl1_cons c _ w (h w List.mem_cons_self), ih]
theorem mk_toList (y : Str) : (⟨y.cps.toList.toArray⟩ : Str) = y := by cases y; simp
/-- a text joined of words without a sign is split at it into these words -/
theorem split_join {a : Str} {c : Nat} (ha : a.cps.toList = [c]) {ws : List Str} (hne : ws ≠ []) (h : ∀ w ∈ ws, c ∉ w.cps.toList) : splitS (joinT a ws) c = ws := by
  unfold splitS
  rw [joinT_l, ha, spl1_join c _ (by simpa using hne) (fun w hw => by
    obtain ⟨y, hy, rfl⟩ := List.mem_map.mp hw
    exact h y hy), List.map_map]
  conv => rhs; rw [← List.map_id ws]
  exact List.map_congr_left fun y _ => mk_toList y
theorem joinL_len (c : Nat) : ∀ ws : List (List Nat), (TL.joinL [c] ws).length ≤ (ws.map fun w => w.length + 1).sum
  | [] => by simp [TL.joinL]
  | [w] => by simp [TL.joinL]
  | w :: v :: ws => by
    have ih := joinL_len c (v :: ws)
    show (w ++ ([c] ++ TL.joinL [c] (v :: ws))).length ≤ _
    simp only [List.length_append, List.length_singleton, List.map_cons, List.sum_cons] at ih ⊢
    omega
theorem slen (x : Str) : x.length = x.cps.toList.length := by
  cases x
  simp [Str.length]
theorem txts_map : ∀ ws : List Str, txts (ws.map D.str) = some ws
  | [] => rfl
  | w :: ws => by
    show (txts (ws.map D.str)).map (w :: ·) = _
    rw [txts_map ws]
    rfl
section
variable {m : M} {Q : D → Prop} {ρ : Ss}
/-- ' '.join of words -/
theorem Kn.join {a : Str} {y : D} {ws : List Str} (hy : seqD m y = some (ws.map D.str)) (hz : (ws.map (·.length)).sum + ws.length * a.length ≤ 16777216) (q : Q (.str (joinT a ws))) : Kn (joinD m (.str a) y) Q := ⟨_, by
  show ((seqD m y).bind txts).bind (joinS a) = _
  rw [hy]
  show (txts (ws.map D.str)).bind (joinS a) = _
  rw [txts_map]
  exact if_pos hz, q⟩
theorem Kn.split {a b : Str} {c : Nat} {ws : List Str} (hb : b.cps.toList = [c]) (hc : c < 256) (ha : a.length + 2 ≤ sizeLine) (e : splitS a c = ws) (q : Q (.lst (ws.map D.str))) : Kn (splitD m (.str a) (.str b)) Q := ⟨_, by
  show (match b.cps.toList with
    | [c] => if c < 256 ∧ a.length + 2 ≤ sizeLine then some (D.lst ((splitS a c).map .str)) else none
    | _ => none) = _
  rw [hb]
  show (if c < 256 ∧ a.length + 2 ≤ sizeLine then some (D.lst ((splitS a c).map .str)) else none) = _
  rw [if_pos ⟨hc, ha⟩, e], q⟩
theorem WE.m1 {F : M → D → D → Option D} {a b : EF} {Q : D → M → Prop} (h : WE a ρ m fun x m1 => ∃ z, x = .str z ∧ WE b ρ m1 fun y m2 => Kn (F m2 (.str z) y) fun d => Q d m2) : WE (eM1 F a b) ρ m Q := by
  obtain ⟨x, m1, e1, z, rfl, y, m2, e2, d, e3, q⟩ := h
  refine ⟨d, m2, ?_, q⟩
  unfold eM1
  rw [e1]
  show bd (b ρ m1) _ = _
  rw [e2]
  show pu (F m2 (.str z) y) m2 = _
  rw [e3]
  rfl
theorem Kn.str_s {x : Str} (q : Q (.str x)) : Kn (strT m [.str x]) Q := ⟨_, rfl, q⟩
end
end L4
namespace L4
open PySem
section
variable {m : M} {ρ : Ss} {Q : D → M → Prop}
theorem WE.newPL {i : Nat} {c : Str} {F : List D → M → Option (D × M)} {a : AF} (h0 : ρ.getD i none = some (.glo c)) (h : WA a ρ m fun xs m1 => Kn (pureC (newP c F) m1 xs) fun d => Q d m1) : WE (eNewPL i c F a) ρ m Q := by
  obtain ⟨d, m1, e, q⟩ := WE.call h
  refine ⟨d, m1, ?_, q⟩
  unfold eNewPL
  rw [h0]
  show (if c = c then eCall (pureC (newP c F)) a ρ m else none) = _
  rw [if_pos rfl]
  exact e
theorem WE.tbl {tb : List (Str × D)} {a : EF} (h : WE a ρ m fun y m1 => Kn (tblGet tb y) fun d => Q d m1) : WE (eTbl tb a) ρ m Q :=
  Wr.bd (by obtain ⟨y, m1, e, h⟩ := h; exact ⟨y, m1, e, Wr.pu h⟩)
theorem WE.tblNin {tb : List (Str × D)} {a : EF} (h : WE a ρ m fun y m1 => ∃ z, y = .str z ∧ Q (.bl (!(tb.lookup z).isSome)) m1) : WE (eTblNin tb a) ρ m Q :=
  Wr.bd (by obtain ⟨y, m1, e, z, rfl, h⟩ := h; exact ⟨_, m1, e, _, m1, rfl, h⟩)
/-- [e for x in xs], nothing drawn, over plain data -/
theorem WE.lcM {it : AF} {i : Nat} {e : EF} {α : Type} (enc f : α → D) {xs : List α} (hi : WI it ρ m fun ys m1 => ys = xs.map enc ∧ m1 = m) (hl : xs.length ≤ 1000000) (h : ∀ x ∈ xs, WE e (ρ.set i (some (enc x))) m fun v m1 => v = f x ∧ m1 = m) (q : Q (.lst (xs.map f)) m) : WE (eLcK false it (.one i) tTrue e) ρ m Q := by
  obtain ⟨ys, m1, e1, rfl, rfl⟩ := hi
  refine WE.lcK ⟨_, m1, e1, by simpa using hl, ?_⟩
  have := comp_pure (t := .one i) (c := tTrue) (e := e) (ρ := ρ) (m := m1) enc (fun _ => true) f xs fun x hx => by
    obtain ⟨v, m2, e2, rfl, rfl⟩ := h x hx
    exact ⟨[enc x], rfl, rfl, fun _ => e2⟩
  rw [List.filter_eq_self.mpr (fun _ _ => rfl)] at this
  exact ⟨_, m1, this, q⟩
theorem in_non {is : List Int} : inA m .non (.lst (is.map .int)) = some (.bl false) := by
  have e : inAB m .non (.lst (is.map .int)) = some false := by
    show inB m .non (.lst (is.map .int)) = _
    have h0 : pdM m .non = some .none := pdM_pure rfl rfl rfl
    show (match pdM m .non, pdM m (.lst (is.map .int)) with
      | some a, some (.tuple ds) => some (ds.any fun z => PyData.eqv z a)
      | some a, some (.list ds) => some (ds.any fun z => PyData.eqv z a)
      | _, _ => none) = _
    rw [pdM_li, h0]
    show some ((is.map PyData.int).any fun z => PyData.eqv z .none) = _
    congr 1
    induction is with
    | nil => rfl
    | cons j is ih => rw [List.map_cons, List.any_cons, ih]; rfl
  unfold inA
  rw [e]
  rfl
end
end L4
namespace L4
open PySem
section
variable {m : M} {ρ : Ss} {Q : D → M → Prop}
/-- {k: e, ..} -/
def WP (ps : List (EF × EF)) (ρ : Ss) (m : M) (Q : List (D × D) → M → Prop) : Prop := Wr (pairsF ps ρ m) Q
theorem WP.nil {Q : List (D × D) → M → Prop} (q : Q [] m) : WP [] ρ m Q := ⟨[], m, rfl, q⟩
theorem WP.cons {a b : EF} {r : List (EF × EF)} {Q : List (D × D) → M → Prop} (h : WE a ρ m fun x m1 => WE b ρ m1 fun y m2 => WP r ρ m2 fun ps m3 => Q ((x, y) :: ps) m3) : WP ((a, b) :: r) ρ m Q := by
  obtain ⟨x, m1, e1, y, m2, e2, ps, m3, e3, q⟩ := h
  refine ⟨(x, y) :: ps, m3, ?_, q⟩
  unfold pairsF
  rw [e1]
  show bd (b ρ m1) _ = _
  rw [e2]
  show bd (pairsF r ρ m2) _ = _
  rw [e3]
  rfl
theorem WE.disp {nw : Bool} {ps : List (EF × EF)} (h : WP ps ρ m fun qs m1 => ((qs.all fun q => isFlat q.1) && decide (qs.length ≤ 15)) = true ∧ Q (bif nw then .ref m1.length else .dic (mergeD qs ([], [])).1 (mergeD qs ([], [])).2) (bif nw then m1 ++ [.dic (mergeD qs ([], [])).1 (mergeD qs ([], [])).2] else m1)) : WE (eDisp nw ps) ρ m Q :=
  Wr.bd (by obtain ⟨qs, m1, e, h1, q⟩ := h; exact ⟨qs, m1, e, _, _, (if_pos h1).trans (by cases nw <;> rfl), q⟩)
/-- d.update(e) -/
theorem WE.upd {a b : EF} (h : WE a ρ m fun x m1 => ∃ n, x = .ref n ∧ (∃ ks0 vs0, m1[n]? = some (.dic ks0 vs0) ∧ flatL ks0 = true) ∧ WE b ρ m1 fun y m2 => ∃ ks vs ks2 vs2, m2[n]? = some (.dic ks vs) ∧ y = .dic ks2 vs2 ∧ (flatL ks && flatL ks2 && decide (ks.length + ks2.length ≤ sizeLine) && decide (ks2.length = vs2.length)) = true ∧ Q .non (m2.set n (.dic (mergeD (ks2.zip vs2) (ks, vs)).1 (mergeD (ks2.zip vs2) (ks, vs)).2))) : WE (eUpd a b) ρ m Q := by
  obtain ⟨x, m1, e1, n, rfl, ⟨ks0, vs0, h0, hf0⟩, y, m2, e2, ks, vs, ks2, vs2, h1, rfl, h2, q⟩ := h
  refine ⟨.non, _, ?_, q⟩
  unfold eUpd
  rw [e1]
  show (match m1[n]? with
    | some (.dic ks0 _) => if flatL ks0 then bd (b ρ m1) fun y m2 => match m2[n]?, y with
        | some (.dic ks vs), .dic ks2 vs2 => if flatL ks && flatL ks2 && decide (ks.length + ks2.length ≤ sizeLine) && decide (ks2.length = vs2.length) then some (D.non, m2.set n (.dic (mergeD (ks2.zip vs2) (ks, vs)).1 (mergeD (ks2.zip vs2) (ks, vs)).2)) else none
        | _, _ => none
      else none
    | _ => none) = _
  rw [h0]
  show (if flatL ks0 then bd (b ρ m1) _ else none) = _
  rw [if_pos hf0, e2]
  show (match m2[n]?, D.dic ks2 vs2 with
        | some (.dic ks vs), .dic ks2 vs2 => if flatL ks && flatL ks2 && decide (ks.length + ks2.length ≤ sizeLine) && decide (ks2.length = vs2.length) then some (D.non, m2.set n (.dic (mergeD (ks2.zip vs2) (ks, vs)).1 (mergeD (ks2.zip vs2) (ks, vs)).2)) else none
        | _, _ => none) = _
  rw [h1]
  exact if_pos h2
theorem WE.chain {f h : M → D → D → Option D} {a b c : EF} (q : WE a ρ m fun x m1 => WE b ρ m1 fun y m2 => Kn (f m2 x y) fun d => ∃ v, d = .bl v ∧ (v = true → WE c ρ m2 fun z m3 => Kn (h m3 y z) fun d2 => Q d2 m3) ∧ (v = false → Q (.bl false) m2)) : WE (eChain f h a b c) ρ m Q := by
  obtain ⟨x, m1, e1, y, m2, e2, d, e3, v, rfl, q1, q2⟩ := q
  unfold eChain WE
  show Wr (bd (a ρ m) _) Q
  rw [e1]
  show Wr (bd (b ρ m1) _) Q
  rw [e2]
  show Wr (match f m2 x y with
    | some (.bl true) => bd (c ρ m2) fun z m3 => pu (h m3 y z) m3
    | some (.bl false) => some (.bl false, m2)
    | _ => none) Q
  rw [e3]
  cases v
  · exact ⟨_, m2, rfl, q2 rfl⟩
  · obtain ⟨z, m3, e4, d2, e5, q⟩ := q1 rfl
    refine ⟨d2, m3, ?_, q⟩
    show bd (c ρ m2) _ = _
    rw [e4]
    show pu (h m3 y z) m3 = _
    rw [e5]
    rfl
end
end L4
namespace L4
open PySem
section
variable {m : M} {Q : D → Prop}
theorem ix_dp {ks vs : List D} {y x : D} (e : (if headOk ks y then dGet ks vs y else none) = some x) : ixA m (.dic ks vs) y = some x := by
  have e1 : dicOf m (.dic ks vs) = some (ks, vs) := rfl
  unfold ixA
  rw [e1]
  exact e
theorem Kn.callK {F : List D → Option D} {xs ys : List D} {d : D} (hp : pureL xs = false) (hi : noIns m = true) (hz : mapO (frz m) xs = some ys) (e : F ys = some d) (hg : noLd d = true) (q : Q d) : Kn (callK F m xs) Q := ⟨d, by
  unfold L4.callK
  rw [hp, hz]
  simp only [Bool.false_eq_true, if_false, hi, if_true, e, hg], q⟩
theorem Kn.callL {F : List D → Option D} {xs ys : List D} {d : D} (hz : lend m xs = some ys) (e : F ys = some d) (hg : noDic d = true) (q : Q d) : Kn (callL F m xs) Q := ⟨d, by
  unfold L4.callL
  rw [hz]
  simp only [e, hg, if_true], q⟩
end
end L4
namespace L4
open PySem
section
variable {m : M} {ρ : Ss}
/-- a loop with an invariant that counts down -/
theorem WS.whileI {c : TF} {b : SF} {Q : Fl → M → Prop} (I : Nat → Ss → M → Prop) : ∀ (k w : Nat) (ρ : Ss) (m : M), k < w → I k ρ m →
    (∀ k ρ m, I k ρ m → WT c ρ m fun x m1 => (x = true → WS b ρ m1 fun r m2 => (∃ ρ2 k2, (r = .nx ρ2 ∨ r = .ct ρ2) ∧ k2 < k ∧ I k2 ρ2 m2) ∨ (∃ d, r = .rt d ∧ Q (.rt d) m2) ∨ ∃ ρ2, r = .bk ρ2 ∧ Q (.nx ρ2) m2) ∧ (x = false → Q (.nx ρ) m1)) → WS (sWhile w c b) ρ m Q
  | k, 0, _, _, hw, _, _ => by omega
  | k, w + 1, ρ, m, hw, hI, hs => by
    obtain ⟨x, m1, e1, h1, h2⟩ := hs k ρ m hI
    unfold WS sWhile
    show Wr (bd (c ρ m) _) Q
    rw [e1]
    cases x
    · exact ⟨_, m1, rfl, h2 rfl⟩
    · obtain ⟨r, m2, e2, h⟩ := h1 rfl
      show Wr (bd (b ρ m1) _) Q
      rw [e2]
      rcases h with ⟨ρ2, k2, hr, hk, hI2⟩ | ⟨d, rfl, q⟩ | ⟨ρ2, rfl, q⟩
      · have ih := WS.whileI (c := c) (b := b) I k2 w ρ2 m2 (by omega) hI2 hs
        rcases hr with rfl | rfl <;> exact ih
      · exact ⟨_, m2, rfl, q⟩
      · exact ⟨_, m2, rfl, q⟩
/-- a loop that may be left -/
theorem WS.goX {g : GF} {b : SF} {Q : Fl → M → Prop} (I : Nat → Ss → M → Prop) : ∀ (xs : List D) (i : Nat) (ρ : Ss) (m : M), I i ρ m →
    (∀ j x ρ m, xs[j]? = some x → I (i + j) ρ m → WG g x ρ m fun ρ1 m1 => WS b ρ1 m1 fun r m2 => (∃ ρ2, (r = .nx ρ2 ∨ r = .ct ρ2) ∧ I (i + j + 1) ρ2 m2) ∨ (∃ d, r = .rt d ∧ Q (.rt d) m2) ∨ ∃ ρ2, r = .bk ρ2 ∧ Q (.nx ρ2) m2) →
    (∀ ρ m, I (i + xs.length) ρ m → Q (.nx ρ) m) → WS (forGo g b xs) ρ m Q
  | [], i, ρ, m, hI, _, hq => ⟨_, m, rfl, hq ρ m hI⟩
  | x :: xs, i, ρ, m, hI, hs, hq => by
    obtain ⟨ρ1, m1, e1, r, m2, e2, h⟩ := hs 0 x ρ m rfl hI
    unfold WS forGo
    show Wr (bd (g x ρ m) _) Q
    rw [e1]
    show Wr (bd (b ρ1 m1) _) Q
    rw [e2]
    rcases h with ⟨ρ2, hr, hI2⟩ | ⟨d, rfl, q⟩ | ⟨ρ2, rfl, q⟩
    · have ih := WS.goX (g := g) (b := b) I xs (i + 1) ρ2 m2 hI2 (fun j y ρ m hj hJ => by
        have := hs (j + 1) y ρ m (by simpa using hj) (by rw [show i + (j + 1) = i + 1 + j by omega]; exact hJ)
        rw [show i + (j + 1) + 1 = i + 1 + j + 1 by omega] at this
        exact this) fun ρ m hJ => hq ρ m (by rw [List.length_cons, show i + (xs.length + 1) = i + 1 + xs.length by omega]; exact hJ)
      rcases hr with rfl | rfl <;> exact ih
    · exact ⟨_, m2, rfl, q⟩
    · exact ⟨_, m2, rfl, q⟩
theorem WS.forX {it : AF} {g : GF} {b : SF} {Q : Fl → M → Prop} (I : Nat → Ss → M → Prop) (h : WI it ρ m fun xs m1 => I 0 ρ m1 ∧ (∀ i x ρ m, xs[i]? = some x → I i ρ m → WG g x ρ m fun ρ1 m1 => WS b ρ1 m1 fun r m2 => (∃ ρ2, (r = .nx ρ2 ∨ r = .ct ρ2) ∧ I (i + 1) ρ2 m2) ∨ (∃ d, r = .rt d ∧ Q (.rt d) m2) ∨ ∃ ρ2, r = .bk ρ2 ∧ Q (.nx ρ2) m2) ∧ ∀ ρ m, I xs.length ρ m → Q (.nx ρ) m) : WS (sFor it g b) ρ m Q :=
  Wr.bd (by
    obtain ⟨xs, m1, e, h1, h2, h3⟩ := h
    refine ⟨xs, m1, e, WS.goX I xs 0 ρ m1 h1 (fun j x ρ m hj hJ => ?_) fun ρ m hJ => h3 ρ m (by rwa [Nat.zero_add] at hJ)⟩
    rw [Nat.zero_add] at hJ ⊢
    exact h2 j x ρ m hj hJ)
/-- a loop over a list that is plain data -/
theorem WS.forAX {fuel : Nat} {a : EF} {g : GF} {b : SF} {Q : Fl → M → Prop} (I : Nat → Ss → M → Prop) (h : WE a ρ m fun x m1 => ∃ xs, (x = .lst xs ∨ x = .tup xs) ∧ I 0 ρ m1 ∧ (∀ i x ρ m, xs[i]? = some x → I i ρ m → WG g x ρ m fun ρ1 m1 => WS b ρ1 m1 fun r m2 => (∃ ρ2, (r = .nx ρ2 ∨ r = .ct ρ2) ∧ I (i + 1) ρ2 m2) ∨ (∃ d, r = .rt d ∧ Q (.rt d) m2) ∨ ∃ ρ2, r = .bk ρ2 ∧ Q (.nx ρ2) m2) ∧ ∀ ρ m, I xs.length ρ m → Q (.nx ρ) m) : WS (sForA fuel a g b) ρ m Q := by
  obtain ⟨x, m1, e, xs, hx, h1, h2, h3⟩ := h
  have key : WS (forGo g b xs) ρ m1 Q := WS.goX I xs 0 ρ m1 h1 (fun j x ρ m hj hJ => by
    rw [Nat.zero_add] at hJ ⊢
    exact h2 j x ρ m hj hJ) fun ρ m hJ => h3 ρ m (by rwa [Nat.zero_add] at hJ)
  unfold WS sForA
  show Wr (bd (a ρ m) _) Q
  rw [e]
  rcases hx with rfl | rfl <;> exact key
end
end L4
namespace L4
open PySem
section
variable {m : M} {ρ : Ss} {Q : D → M → Prop}
/-- a field of an object -/
def Fld (m : M) (x : D) (cs : List Str) (f : Str) (Q : D → Prop) : Prop := ∃ c ns vs v, insOf m x = some (c, ns, vs) ∧ cs.contains c = true ∧ fldAt ns vs f = some v ∧ Q v
theorem WE.fldF {cs : List Str} {f : Str} {o : EF} (h : WE o ρ m fun x m1 => Fld m1 x cs f fun v => Q v m1) : WE (eFld cs f o) ρ m Q := by
  obtain ⟨x, m1, e, c, ns, vs, v, h1, h2, h3, q⟩ := h
  refine ⟨v, m1, ?_, q⟩
  unfold eFld
  rw [e]
  show (match insOf m1 x with
    | some (c, ns, vs) => if cs.contains c = true then pu (fldAt ns vs f) m1 else none
    | none => none) = _
  rw [h1]
  show (if cs.contains c = true then pu (fldAt ns vs f) m1 else none) = _
  rw [if_pos h2, h3]
  rfl
end
end L4
namespace L4
open PySem
section
variable {m : M} {ρ : Ss} {Q : D → M → Prop}
/-- o.m(..), an object's method on plain data -/
theorem WE.mth {c nm : Str} {F : M → List D → Option D} {o : EF} {a : AF} (h : WE o ρ m fun x m1 => ∃ ns vs, insOf m1 x = some (c, ns, vs) ∧ ns.contains nm = false ∧ WA a ρ m1 fun xs m2 => Kn (F m2 (x :: xs)) fun d => Q d m2) : WE (eMth c nm F o a) ρ m Q := by
  obtain ⟨x, m1, e, ns, vs, h1, h2, xs, m2, e2, d, e3, q⟩ := h
  refine ⟨d, m2, ?_, q⟩
  unfold eMth
  rw [e]
  show (match insOf m1 x with
    | some (c', ns, _) => if c' = c ∧ ns.contains nm = false then bd (a ρ m1) fun xs m2 => pu (F m2 (x :: xs)) m2 else none
    | none => none) = _
  rw [h1]
  show (if c = c ∧ ns.contains nm = false then bd (a ρ m1) fun xs m2 => pu (F m2 (x :: xs)) m2 else none) = _
  rw [if_pos ⟨rfl, h2⟩, e2]
  show pu (F m2 (x :: xs)) m2 = _
  rw [e3]
  rfl
end
end L4

namespace L4
open PySem
section
variable {m : M} {ρ : Ss} {Q : D → M → Prop}
/-- [e for .. in xs if c] over a plain list, nothing drawn -/
theorem WE.lcP {it : AF} {t : Tgt} {c : TF} {e : EF} {α : Type} (enc : α → D) (b : α → Bool) (f : α → D) {xs : List α} (hi : WI it ρ m fun ys m1 => ys = xs.map enc ∧ m1 = m) (hl : xs.length ≤ 1000000)
    (h : ∀ x ∈ xs, ∃ ds, t.un (enc x) = some ds ∧ WT c (setMany ρ t.is ds) m (fun v m1 => v = b x ∧ m1 = m) ∧ (b x = true → WE e (setMany ρ t.is ds) m fun v m1 => v = f x ∧ m1 = m)) (q : Q (.lst ((xs.filter b).map f)) m) : WE (eLcK false it t c e) ρ m Q := by
  obtain ⟨ys, m1, e1, rfl, rfl⟩ := hi
  refine WE.lcK ⟨_, _, e1, by simpa using hl, (xs.filter b).map f, _, comp_pure enc b f xs (fun x hx => ?_), q⟩
  obtain ⟨ds, h1, ⟨v, m2, e2, rfl, rfl⟩, h3⟩ := h x hx
  exact ⟨ds, h1, e2, fun hb => by obtain ⟨v, m3, e3, rfl, rfl⟩ := h3 hb; exact e3⟩
theorem filt_ge (c : Nat) : ∀ n, c ≤ n → (List.range n).filter (fun x => decide (c ≤ x)) = (List.range (n - c)).map (c + ·)
  | 0, h => by
    have : c = 0 := by omega
    subst this
    rfl
  | n + 1, h => by
    by_cases hc : c ≤ n
    · rw [List.range_succ, List.filter_append, filt_ge c n hc, show n + 1 - c = (n - c) + 1 by omega, List.range_succ, List.map_append]
      have : c + (n - c) = n := by omega
      simp [hc, this]
    · have : c = n + 1 := by omega
      subst this
      rw [Nat.sub_self, List.filter_eq_nil_iff.mpr]
      · rfl
      · intro a ha
        have := List.mem_range.mp ha
        simp only [decide_eq_true_eq]
        omega
theorem filt_le (c : Nat) : ∀ n, c < n → (List.range n).filter (fun x => decide (x ≤ c)) = List.range (c + 1)
  | 0, h => absurd h (Nat.not_lt_zero _)
  | n + 1, h => by
    by_cases hc : c < n
    · rw [List.range_succ, List.filter_append, filt_le c n hc]
      have : ¬ n ≤ c := by omega
      simp [this]
    · have : c = n := by omega
      subst this
      rw [List.filter_eq_self.mpr]
      intro a ha
      have := List.mem_range.mp ha
      simp only [decide_eq_true_eq]
      omega
theorem atI_last {α : Type} {ds : List α} {d : α} (h : ds.getLast? = some d) : L2.atI ds (-1) = some d := by
  have hn : ds ≠ [] := by rintro rfl; cases h
  have hp := List.length_pos_iff.mpr hn
  rw [List.getLast?_eq_getElem?] at h
  have e : L2.ixN ds.length (-1) = some (ds.length - 1) := by
    unfold L2.ixN
    rw [if_neg (by decide), if_pos (by omega)]
    congr 1
    omega
  unfold L2.atI
  rw [e]
  exact h
theorem Kn.ix_ln {m : M} {ds : List D} {d : D} {Q : D → Prop} (h : ds.getLast? = some d) (q : Q d) : Kn (ixA m (.lst ds) (.int (-1))) Q := ⟨d, by rw [ixA_lst]; exact atI_last h, q⟩
/-- xs.pop() -/
theorem WE.pop {o : EF} (h : WE o ρ m fun x m1 => ∃ n, x = .ref n ∧ ∃ ds d, m1[n]? = some (.lst ds) ∧ ds.getLast? = some d ∧ Q d (m1.set n (.lst ds.dropLast))) : WE (eLm0 (fun _ => popL) o aNil) ρ m Q := by
  obtain ⟨x, m1, e1, n, rfl, ds, d, h0, h1, q⟩ := h
  refine ⟨d, _, ?_, q⟩
  unfold eLm0
  rw [e1]
  show (match m1[n]? with
    | some (.lst _) => bd (aNil ρ m1) fun ys m2 => match m2[n]? with
      | some (.lst ds) => (popL ds ys).map fun (r : D × List D) => (r.1, m2.set n (.lst r.2))
      | _ => none
    | _ => none) = _
  rw [h0]
  show (match m1[n]? with
      | some (.lst ds) => (popL ds []).map fun (r : D × List D) => (r.1, m1.set n (.lst r.2))
      | _ => none) = _
  rw [h0]
  show (match ds.getLast? with
    | some d => some (d, ds.dropLast)
    | none => none).map _ = _
  rw [h1]
  rfl
theorem ins1_map {α β : Type} {le : β → β → Bool} (h : α → β) (a : α) : ∀ l : List α, ins1 le (h a) (l.map h) = (ins1 (fun a b => le (h a) (h b)) a l).map h
  | [] => rfl
  | b :: l => by
    rw [List.map_cons, ins1, ins1]
    split
    · rfl
    · rw [ins1_map h a l]; rfl
theorem isort_map {α β : Type} {le : β → β → Bool} (h : α → β) : ∀ l : List α, isort le (l.map h) = (isort (fun a b => le (h a) (h b)) l).map h
  | [] => rfl
  | a :: l => by
    rw [List.map_cons, isort, isort, isort_map h l, ins1_map]
theorem ins1_perm {α : Type} {le : α → α → Bool} (a : α) : ∀ l : List α, (ins1 le a l).Perm (a :: l)
  | [] => .refl _
  | b :: l => by
    rw [ins1]
    split
    · exact .refl _
    · exact ((ins1_perm a l).cons b).trans (.swap a b l)
theorem isort_perm {α : Type} {le : α → α → Bool} : ∀ l : List α, (isort le l).Perm l
  | [] => .refl _
  | a :: l => (ins1_perm a _).trans ((isort_perm l).cons a)
end
end L4

/-! dict(d): a copy of a dict whose keys are flat -/
namespace L4
open PySem PySem.Spec PyProof.Rows L2
section
variable {X : Cx} {g : G} {T T' : Tk} {H : Hp} {m : M} {Q : VK} {pos p : Pos} {e : Expr} {ks vs : List D} {kvs : List (Key × V)}
def dicW (m : M) : D → Option (List D × List D)
  | .ref n => match m[n]? with
    | some (.dic ks vs) => if flatL ks then some (ks, vs) else none
    | _ => none
  | .dic ks vs => if flatL ks then some (ks, vs) else none
  | _ => none
theorem dicW_rep {d : D} {v : V} (hm : RepH g T H m) (r : Rep g T H d v) (h : dicW m d = some (ks, vs)) : ∃ (a : Addr) (kvs : List (Key × V)), v = .ref a ∧ Rd H a (.dK kvs) ∧ RepL g T H ks (kvs.map fun p => kV p.1) ∧ RepL g T H vs (kvs.map Prod.snd) := by
  cases d with
  | ref n =>
    cases r with
    | @ref n a ea =>
      have h : (match m[n]? with
        | some (.dic ks vs) => if flatL ks then some (ks, vs) else none
        | _ => none) = some (ks, vs) := h
      split at h
      · next ks0 vs0 h0 =>
        obtain ⟨hf, h⟩ := ite_some h
        cases h
        obtain ⟨kvs, g1, g2, g3⟩ := flat_dicF (hm.at_ _ _ _ ea h0) hf
        exact ⟨a, kvs, rfl, .inl g1, g2, g3⟩
      · cases h
  | dic ks0 vs0 =>
    have h : (if flatL ks0 then some (ks0, vs0) else none) = some (ks, vs) := h
    obtain ⟨hf, h⟩ := ite_some h
    cases h
    obtain ⟨b, kvs, ev, _, g1, g2, g3⟩ := flat_dicV r hf
    exact ⟨b, kvs, ev, g1, g2, g3⟩
  | _ => cases h
/-- a new dict that stays as it is -/
theorem KV.dicF (k : KV g T H m (.dic ks vs) Q) (hm : RepH g T H m) (r1 : RepL g T H ks (kvs.map fun p => kV p.1)) (r2 : RepL g T H vs (kvs.map Prod.snd)) (p : Addr) (hp : H p = none) : Q (.ref p) (upd H p (.dK kvs)) := by
  obtain ⟨l, hm'⟩ := hm.fresh (u := .dK kvs) hp
  exact k _ T _ l hm' (.dicF (fun z => hm.nope hp z) (.inl upd_same) (r1.le l) (r2.le l))
/-- a new dict that is tracked -/
theorem KV.newDk (k : KV g T H (m ++ [.dic ks vs]) (.ref m.length) Q) (hm : RepH g T H m) (r1 : RepL g T H ks (kvs.map fun p => kV p.1)) (r2 : RepL g T H vs (kvs.map Prod.snd)) (p : Addr) (hp : H p = none) : Q (.ref p) (upd H p (.dK kvs)) := by
  obtain ⟨l, hm'⟩ := hm.push (u := .dK kvs) (o := .dic ks vs) hp fun l => .dicF upd_same (r1.le l) (r2.le l)
  exact k _ (T.push p) _ l hm' (push_ref hm.len)
def eDicC (nw : Bool) (a : EF) : EF := fun ρ m => bd (a ρ m) fun x m1 => match dicW m1 x with
  | some (ks, vs) => some (bif nw then (.ref m1.length, m1 ++ [.dic ks vs]) else (.dic ks vs, m1))
  | none => none
theorem de_dicC {nw : Bool} {f : EF} (hg : Gl X "dict") (hm : X.mg "dict" = none) (ha : DE X e f) (he : starEach [e] X.env = (false, eval e X.env) :: starEach [] X.env := by rfl) : DE X (.Call (.Name "dict" p) [e] [] pos) (eDicC nw f) := by
  obtain ⟨t, pa, ra⟩ := ha.ex
  refine ⟨_, pe_callTy call_dictD hg hm (by decide +kernel) (pa_cons pa pa_nil he) (by decide) (by decide) he rfl, fun T σ H ρ m d m' hm hs hf Q k => ?_⟩
  obtain ⟨x, m1, e1, hf⟩ := bd_some hf
  refine ra T σ H ρ m x m1 hm hs e1 _ fun v T1 H1 l1 hm1 r1 => ?_
  split at hf
  · next ks vs hy =>
    obtain ⟨a, kvs, rfl, hr, k1, k2⟩ := dicW_rep hm1 r1 hy
    refine ⟨a, kvs, rfl, hr, fun q hq => ?_⟩
    cases nw with
    | false => cases hf; exact KV.dicF (k.le l1) hm1 k1 k2 q hq
    | true => cases hf; exact KV.newDk (k.le l1) hm1 k1 k2 q hq
  · cases hf
end
end L4
namespace L4
open PySem
section
variable {m : M} {ρ : Ss} {Q : D → M → Prop}
theorem WE.dicC {nw : Bool} {a : EF} (h : WE a ρ m fun x m1 => Kn (dicW m1 x) fun p => Q (bif nw then D.ref m1.length else D.dic p.1 p.2) (bif nw then m1 ++ [O.dic p.1 p.2] else m1)) : WE (eDicC nw a) ρ m Q := by
  obtain ⟨x, m1, e, ⟨ks, vs⟩, e2, q⟩ := h
  refine ⟨_, _, ?_, q⟩
  unfold eDicC
  rw [e]
  show (match dicW m1 x with
    | some (ks, vs) => some (bif nw then (D.ref m1.length, m1 ++ [O.dic ks vs]) else (D.dic ks vs, m1))
    | none => none) = _
  rw [e2]
  cases nw <;> rfl
theorem dicW_r {n : Nat} {ks vs : List D} (h : m[n]? = some (.dic ks vs)) (hf : flatL ks = true) : dicW m (.ref n) = some (ks, vs) := by
  show (match m[n]? with
    | some (.dic ks vs) => if flatL ks then some (ks, vs) else none
    | _ => none) = _
  rw [h]
  exact if_pos hf
end
end L4

/-! == and != of two objects of one class with an own __eq__ -/
namespace L4
open PySem PySem.Spec PyProof.Rows L2
section
variable {X : Cx} {g : G} {T T' : Tk} {H : Hp} {m : M} {Q : VK} {k n : Nat} {c : Str} {F : List D → Option D}
theorem op_eqG (hF : PMt X.prog X.w X.K X.mg X.base k c "__eq__" n F) (gd : Gd k X) : OpR X (compareOp .Eq) (L3.rEqI (He.ga X.K c) (spP (gx X) n F)) := by
  intro pins s σ H x y v u Q I rx ry hq
  obtain ⟨a, b, dx, fs, dy, gs, rfl, rfl, ha, hb, hsp⟩ := hq
  obtain ⟨f, fd, ps, G, me, bi⟩ := hF.ex
  cases rx
  cases ry
  obtain ⟨mA, J, _⟩ := ins_get I.hok ha
  obtain ⟨mB, J', _⟩ := ins_get I.hok hb
  obtain ⟨od, J, _⟩ := J.look
  obtain ⟨od', J', _⟩ := J'.look
  obtain ⟨mm, hFr⟩ := I.fr
  have hr : Room k X.A := gd.r
  show wpAny (model X.prog X.w) X.A (richCompare .Eq (.ref a) (.ref b)) (EP X pins σ Q) X.xe s
  refine PySem.W.cmp_K (op := .Eq) (tb := .ref (He.ga X.K c)) hr.units0 hFr I.ok.mod.kin J J'.type (by simp [PySem.W.notFirst]) me.at_ me.fn ?_
  have e0 : Env0 X.prog X.w X.K X.mg X.base X.A X.stack s H := I.env0
  have hl := G.len _ _ _ _ hsp
  have r2 : Vals [V.ref a, V.ref b] [Value.ref a, Value.ref b] := .cons rfl (.cons rfl .nil)
  refine wpAny_call (codeAny_mono (G.run X.A X.stack s H ⟨[.ref a, .ref b], []⟩ [.ref a, .ref b] [.ref a, .ref b] _ E0 gd.g hr e0 (by
    have := bi s [.ref a, .ref b] I.kIn (by simpa using hl)
    simpa using this) r2 hsp) fun r s' hq => ?_)
  match r, hq with
  | .error _, z => exact z.elim
  | .ok (.ret w), z =>
    obtain ⟨z, H', I', rz, c, ez, q⟩ := I.after z
    subst ez
    cases rz
    exact ⟨.bl c, H', I', rfl, q⟩
  | .ok .next, z => exact z.elim
  | .ok .brk, z => exact z.elim
  | .ok .cont, z => exact z.elim
theorem op_neG (N : L3.NeC X.K (He.ga X.K c)) (hF : PMt X.prog X.w X.K X.mg X.base k c "__eq__" n F) (gd : Gd (k + 1) X) : OpR X (compareOp .NotEq) (L3.rNeI (He.ga X.K c) (spP (gx X) n F)) := by
  intro pins s σ H x y v u Q I rx ry hq
  obtain ⟨a, b, dx, fs, dy, gs, rfl, rfl, ha, hb, hsp⟩ := hq
  obtain ⟨f, fd, ps, G, me, bi⟩ := hF.ex
  cases rx
  cases ry
  obtain ⟨mA, J, _⟩ := ins_get I.hok ha
  obtain ⟨mB, J', _⟩ := ins_get I.hok hb
  obtain ⟨od, J, _⟩ := J.look
  obtain ⟨od', J', _⟩ := J'.look
  have hr : Room (k + 1) X.A := gd.r
  have hr1 : Room k X.A.in1 := Room.in1 (k := k) hr
  show wpAny (model X.prog X.w) X.A (richCompare .NotEq (.ref a) (.ref b)) (EP X pins σ Q) X.xe s
  have one : wpAny (model X.prog X.w) X.A (tryCompare (.ref a) (cmpInfo .NotEq).2.1 (.ref b)) (fun r s' => ∃ v, r = some v ∧ EP X pins σ Q v s') X.xe s := by
    unfold tryCompare
    refine wpAny_bind (L3.ifBound_ne I.kIn J N.f ?_)
    refine L3.call_ne (by have := hr.units; omega) I.kIn J N.m ?_
    refine PySem.W.ifBound_K I.kIn J me.at_ me.fn ?_
    have e0 : Env0 X.prog X.w X.K X.mg X.base X.A.in1 X.stack s H := I.env0.in1
    have hl := G.len _ _ _ _ hsp
    have r2 : Vals [V.ref a, V.ref b] [Value.ref a, Value.ref b] := .cons rfl (.cons rfl .nil)
    refine wpAny_call (codeAny_mono (G.run X.A.in1 X.stack s H ⟨[.ref a, .ref b], []⟩ [.ref a, .ref b] [.ref a, .ref b] _ E0 gd.g hr1 e0 (by
      have := bi s [.ref a, .ref b] I.kIn (by simpa using hl)
      simpa using this) r2 hsp) fun r s' hq => ?_)
    match r, hq with
    | .error _, z => exact z.elim
    | .ok (.ret w), z =>
      obtain ⟨z, H', I', rz, c, ez, q⟩ := I.after z
      subst ez
      cases rz
      exact ⟨c, rfl, wpAny_pure ⟨_, rfl, .bl (!c), H', I', rfl, q⟩⟩
    | .ok .next, z => exact z.elim
    | .ok .brk, z => exact z.elim
    | .ok .cont, z => exact z.elim
  unfold richCompare
  simp only [oneThing_ref]
  refine wpAny_holding (wpAny_bind (wpAny_cRoomFor hr.units0 ?_))
  refine wpAny_bind (J.type.here (wpAny_bind (J'.type.here ?_)))
  split
  · rename_i q
    simp at q
  · refine wpAny_bind (wpAny_pure ?_)
    simp only [Bool.false_eq_true, if_false]
    refine wpAny_bind (wpAny_mono one (fun r s' z => ?_) fun _ _ e => e)
    obtain ⟨v, rfl, hq⟩ := z
    exact wpAny_pure hq
/-- x == y of two objects of the class c -/
def eqO (c : Str) (F : List D → Option D) (m : M) (x y : D) : Option Bool := match insOf m x, insOf m y with
  | some (c1, _, _), some (c2, _, _) => if c1 = c ∧ c2 = c then match callP F m [x, y] with
    | some (.bl b) => some b
    | _ => none
    else none
  | _, _ => none
def eqOD (c : Str) (F : List D → Option D) (m : M) (x y : D) : Option D := (eqO c F m x y).map .bl
def neOD (c : Str) (F : List D → Option D) (m : M) (x y : D) : Option D := (eqO c F m x y).map fun b => .bl (!b)
theorem eqO_rep {x y : D} {v u : V} {b : Bool} (hn : ∀ ds d, F ds = some d → ds.length = n) (hm : RepH g T H m) (rx : Rep g T H x v) (ry : Rep g T H y u) (h : eqO c F m x y = some b) (R : Bool → Hp → Prop) (k : ∀ T1 H1, Le T H T1 H1 → RepH g T1 H1 m → R b H1) :
    ∃ a e dx fs dy gs, v = .ref a ∧ u = .ref e ∧ H a = some (.ins (He.ga g.K c) dx fs) ∧ H e = some (.ins (He.ga g.K c) dy gs) ∧ spP g n F [.ref a, .ref e] H (fun w H' => ∃ q, w = .bl q ∧ R q H') E0 := by
  unfold eqO at h
  split at h
  · next c1 n1 w1 c2 n2 w2 h1 h2 =>
    obtain ⟨⟨e1, e2⟩, h3⟩ := ite_some h
    clear h
    subst e1
    subst e2
    obtain ⟨a, dx, fs, rfl, ea, _, _⟩ := ins_rep hm rx h1
    obtain ⟨e, dy, gs, rfl, ee, _, _⟩ := ins_rep hm ry h2
    cases hc : callP F m [x, y] with
    | none => rw [hc] at h3; cases h3
    | some z =>
      rw [hc] at h3
      cases z with
      | bl b' =>
        have h4 : b' = b := Option.some.inj h3
        subst h4
        exact ⟨a, e, dx, fs, dy, gs, rfl, rfl, ea, ee, rf_callP hn T H m [x, y] [.ref a, .ref e] (.bl b') hm (.cons rx (.cons ry .nil)) hc _ fun w T1 H1 l1 hm1 r1 => by
          cases r1
          exact ⟨b', rfl, k T1 H1 l1 hm1⟩⟩
      | _ => cases h3
  · cases h
theorem op_eqO (hF : PMt X.prog X.w X.K X.mg X.base k c "__eq__" n F) (gd : Gd k X) : OpD X (compareOp .Eq) (eqOD c F) := ⟨_, op_eqG hF gd, fun T H m x y v u d hm rx ry hf Q kq => by
  obtain ⟨b, hb, rfl⟩ := Option.map_eq_some_iff.mp hf
  exact eqO_rep hF.len hm rx ry hb (fun q H' => Q (.bl q) H') fun T1 H1 l1 hm1 => kq (.bl b) T1 H1 l1 hm1 (.bl b)⟩
theorem op_neO (N : L3.NeC X.K (He.ga X.K c)) (hF : PMt X.prog X.w X.K X.mg X.base k c "__eq__" n F) (gd : Gd (k + 1) X) : OpD X (compareOp .NotEq) (neOD c F) := ⟨_, op_neG N hF gd, fun T H m x y v u d hm rx ry hf Q kq => by
  obtain ⟨b, hb, rfl⟩ := Option.map_eq_some_iff.mp hf
  exact eqO_rep hF.len hm rx ry hb (fun q H' => Q (.bl (!q)) H') fun T1 H1 l1 hm1 => kq (.bl (!b)) T1 H1 l1 hm1 (.bl (!b))⟩
end
end L4

/-! isinstance(x, C) of an object of the class C -/
namespace L4
open PySem PySem.Spec PyProof.Rows L2
section
variable {X : Cx} {g : G} {T T' : Tk} {H : Hp} {m : M} {Q : VK} {c : Str}
def isiC (c : Str) (m : M) (xs : List D) : Option D := match xs with
  | [x, .glo c2] => match insOf m x with
    | some (c1, _, _) => if c1 = c ∧ c2 = c then some (.bl true) else none
    | none => none
  | _ => none
theorem call_isiC (N : C8.InsC X.K (He.ga X.K c)) : CallD X (.builtin "isinstance") (isiC c) := ⟨_, C8.call_isC N, fun T H m xs vs d hm r hf Q k => by
  unfold isiC at hf
  split at hf
  · next x c2 =>
    obtain ⟨v, w, rfl, q1, q2⟩ := r.two
    split at hf
    · next c1 n1 w1 h1 =>
      obtain ⟨⟨e1, e2⟩, h3⟩ := ite_some hf
      clear hf
      subst e1
      subst e2
      cases h3
      obtain ⟨a, dx, fs, rfl, ea, _, _⟩ := ins_rep hm q1 h1
      cases q2
      exact ⟨a, dx, fs, rfl, ea, k.now hm (.bl true)⟩
    · cases hf
  · cases hf⟩
end
end L4

namespace L4
open PySem L2 TL
def tb_ROUNDS : List (Str × D) := [("down", .bl false), ("up", .bl true)]
def f__law_deal_1 : SF := sAsg (eOp modD (eCall intD (aCons (eOp addD (eOp mulD (eVar 4) (eC (.int 16807))) (eVar 2)) (aNil))) (eC (.int 2147483647))) (gNm 4)
def f__law_deal_2 : SF := sRet (eDisp true [(eC (.str "great"), eRev true (eVar 5)), (eC (.str "now"), eC (.int 0)), (eC (.str "mixed"), eOp addD (eVar 4) (eC (.int 1))), (eC (.str "turn"), eC (.int 0))])
def f__law_deal_3 : SF := sSeq (sAsg (eLcK false (iIt (eVar 3)) (.one 2) (tVal (eOp geD (eVar 2) (eOp powD (eC (.int 10)) (eC (.int 18))))) (eVar 2)) (gNm 5)) (f__law_deal_2)
def f__law_deal_4 : SF := sSeq (sForA big (eVar 3) (gTgt (.one 2)) (f__law_deal_1)) (f__law_deal_3)
def f__law_deal_5 : SF := sSeq (sAsg (eOp addD (eC (.int 15485863)) (eVar 1)) (gNm 4)) (f__law_deal_4)
def f__law_deal : SF := sSeq (sAsg (eLcK false (iIt (eSl (eVar 0) (oYes (eVar 1)) (oYes (eC (.int 63))))) (.one 2) (tTrue) (eCall absD (aCons (eVar 2) (aNil)))) (gNm 3)) (f__law_deal_5)
def F__law_deal := runM 2 6 f__law_deal
def f__law_draw_1 : SF := sAsg (eLm0 (fun _ => popL) (eOp ixA (eVar 0) (eC (.str "great"))) aNil) (gSetA (eVar 0) (eC (.str "now")))
def f__law_draw_2 : SF := sSeq (sAsg (eOp fdivD (eOp ixA (eVar 0) (eC (.str "now"))) (eVar 1)) (gSetA (eVar 0) (eC (.str "now")))) (sRet (eVar 2))
def f__law_draw_3 : SF := sRet (eOp modD (eCall intD (aCons (eOp addD (eOp fdivD (eVar 4) (eC (.int 4096))) (eVar 3)) (aNil))) (eVar 1))
def f__law_draw_4 : SF := sSeq (sAsg (eOp addD (eOp modD (eCall intD (aCons (eOp addD (eOp mulD (eVar 4) (eC (.int 40692))) (eVar 3)) (aNil))) (eC (.int 2147483647))) (eC (.int 1))) (gSetA (eVar 0) (eC (.str "mixed")))) (f__law_draw_3)
def f__law_draw_5 : SF := sSeq (sAsg (eOp modD (eCall intD (aCons (eOp addD (eOp mulD (eVar 3) (eVar 3)) (eOp mulD (eOp ixA (eVar 0) (eC (.str "turn"))) (eC (.int 7919)))) (aNil))) (eC (.int 2147483563))) (gNm 4)) (f__law_draw_4)
def f__law_draw_6 : SF := sSeq (sAsg (eOp modD (eCall intD (aCons (eOp addD (eOp mulD (eOp ixA (eVar 0) (eC (.str "mixed"))) (eC (.int 48271))) (eOp mulD (eOp ixA (eVar 0) (eC (.str "turn"))) (eC (.int 69621)))) (aNil))) (eC (.int 2147483629))) (gNm 3)) (f__law_draw_5)
def f__law_draw_7 : SF := sSeq (sAsg (eOp addD (eOp ixA (eVar 0) (eC (.str "turn"))) (eC (.int 1))) (gSetA (eVar 0) (eC (.str "turn")))) (f__law_draw_6)
def f__law_draw_8 : SF := sSeq (sIf (tVal (eOp gtD (eOp ixA (eVar 0) (eC (.str "now"))) (eC (.int 0)))) (sSeq (sAsg (eOp modD (eCall intD (aCons (eOp ixA (eVar 0) (eC (.str "now"))) (aNil))) (eVar 1)) (gNm 2)) (f__law_draw_2)) (sNop)) (f__law_draw_7)
def f__law_draw : SF := sSeq (sWhile big (tAnd (tVal (eOp eqD (eOp ixA (eVar 0) (eC (.str "now"))) (eC (.int 0)))) (tVal (eOp gtD (eCall lenD (aCons (eOp ixA (eVar 0) (eC (.str "great"))) (aNil))) (eC (.int 0))))) (f__law_draw_1)) (f__law_draw_8)
def F__law_draw := runM 2 5 f__law_draw
abbrev f__law_pick : SF := sRet (eOp ixA (eVar 1) (eCallM F__law_draw (aCons (eVar 0) (aCons (eCall lenD (aCons (eVar 1) (aNil))) (aNil)))))
def F__law_pick := runM 2 2 f__law_pick
abbrev f__law_drawn_rule_1 : SF := sRet (eOp addD (eVar 4) (eTup (aCons (eVar 6) (aCons (eVar 5) (aCons (eVar 3) (aCons (eOp eqD (eCallM F__law_draw (aCons (eVar 0) (aCons (eC (.int 2)) (aNil)))) (eC (.int 0))) (aCons (eVar 7) (aNil))))))))
abbrev f__law_drawn_rule_2 : SF := sSeq (sPar [6, 7] (aCons (eCallM F__law_pick (aCons (eVar 0) (aCons (eLst (aCons (eC (.str "half")) (aCons (eC (.str "open")) (aCons (eC (.str "trial")) (aNil))))) (aNil)))) (aCons (eCallM F__law_pick (aCons (eVar 0) (aCons (eLst (aCons (eC (.str "fault")) (aCons (eC (.str "no")) (aCons (eC (.str "out")) (aNil))))) (aNil)))) (aNil)))) (f__law_drawn_rule_1)
abbrev f__law_drawn_rule_3 : SF := sSeq (sAsg (eCallM F__law_pick (aCons (eVar 0) (aCons (eLst (aCons (eCallM F__law_draw (aCons (eVar 0) (aCons (eOp addD (eVar 3) (eC (.int 1))) (aNil)))) (aCons (eCallM F__law_draw (aCons (eVar 0) (aCons (eOp addD (eVar 3) (eC (.int 1))) (aNil)))) (aCons (eVar 3) (aCons (eC (.int 1)) (aNil)))))) (aNil)))) (gNm 5)) (f__law_drawn_rule_2)
abbrev f__law_drawn_rule_4 : SF := sSeq (sAsg (eOp addD (eVar 4) (eTup (aCons (eCallM F__law_draw (aCons (eVar 0) (aCons (eC (.int 4)) (aNil)))) (aNil)))) (gNm 4)) (f__law_drawn_rule_3)
abbrev f__law_drawn_rule_5 : SF := sSeq (sAsg (eTup (aCons (eOp addD (eC (.int 1)) (eCallM F__law_draw (aCons (eVar 0) (aCons (eVar 1) (aNil))))) (aCons (eVar 1) (aCons (eVar 2) (aCons (eCallM F__law_draw (aCons (eVar 0) (aCons (eC (.int 4)) (aNil)))) (aCons (eOp addD (eVar 2) (eCallM F__law_draw (aCons (eVar 0) (aCons (eC (.int 5)) (aNil))))) (aNil))))))) (gNm 4)) (f__law_drawn_rule_4)
abbrev f__law_drawn_rule_6 : SF := sSeq (sPar [2, 3] (aCons (eOp addD (eC (.int 1)) (eCallM F__law_draw (aCons (eVar 0) (aCons (eC (.int 3)) (aNil))))) (aCons (eOp addD (eC (.int 1)) (eCallM F__law_draw (aCons (eVar 0) (aCons (eC (.int 6)) (aNil))))) (aNil)))) (f__law_drawn_rule_5)
abbrev f__law_drawn_rule : SF := sSeq (sAsg (eOp addD (eC (.int 1)) (eCallM F__law_draw (aCons (eVar 0) (aCons (eC (.int 4)) (aNil))))) (gNm 1)) (f__law_drawn_rule_6)
def F__law_drawn_rule := runM 1 8 f__law_drawn_rule
abbrev f__law_rule_text_1 : SF := sRet (eM1 joinD (eC (.str " ")) (eOp addD (eVar 1) (eLst (aCons (eIf (tVal (eOp ixA (eVar 0) (eC (.int 9)))) (eC (.str "up")) (eC (.str "down"))) (aCons (eC (.str "hears")) (aCons (eOp ixA (eVar 0) (eC (.int 10))) (aNil)))))))
abbrev f__law_rule_text_2 : SF := sSeq (sAsg (eOp addD (eVar 1) (eLst (aCons (eC (.str "calm")) (aCons (eCall strT (aCons (eOp ixA (eVar 0) (eC (.int 5))) (aNil))) (aCons (eC (.str "back")) (aCons (eOp ixA (eVar 0) (eC (.int 6))) (aCons (eC (.str "share")) (aCons (eOp addD (eOp addD (eCall strT (aCons (eOp ixA (eVar 0) (eC (.int 7))) (aNil))) (eC (.str "/"))) (eCall strT (aCons (eOp ixA (eVar 0) (eC (.int 8))) (aNil)))) (aNil))))))))) (gNm 1)) (f__law_rule_text_1)
abbrev f__law_rule_text : SF := sSeq (sAsg (eLst (aCons (eC (.str "leave")) (aCons (eCall strT (aCons (eOp ixA (eVar 0) (eC (.int 0))) (aNil))) (aCons (eC (.str "of")) (aCons (eCall strT (aCons (eOp ixA (eVar 0) (eC (.int 1))) (aNil))) (aCons (eC (.str "out")) (aCons (eCall strT (aCons (eOp ixA (eVar 0) (eC (.int 2))) (aNil))) (aCons (eC (.str "more")) (aCons (eCall strT (aCons (eOp ixA (eVar 0) (eC (.int 3))) (aNil))) (aCons (eC (.str "most")) (aCons (eCall strT (aCons (eOp ixA (eVar 0) (eC (.int 4))) (aNil))) (aNil)))))))))))) (gNm 1)) (f__law_rule_text_2)
def F__law_rule_text := runP 1 2 f__law_rule_text
def f_is_integer : SF := sRet (eAnd (eCall isiD (aCons (eVar 0) (aCons (eC (.ty "int")) (aNil)))) (eNot (eCall isiD (aCons (eVar 0) (aCons (eC (.ty "bool")) (aNil))))))
def F_is_integer := runP 1 1 f_is_integer
def f_is_from : SF := sRet (eAnd (eCall (callP F_is_integer) (aCons (eVar 0) (aNil))) (eOp geD (eVar 0) (eVar 1)))
def F_is_from := runP 2 2 f_is_from
def f_is_number : SF := sRet (eAnd (eCall (callP F_is_integer) (aCons (eVar 0) (aNil))) (eOp geD (eVar 0) (eC (.int 0))))
def F_is_number := runP 1 1 f_is_number
def f_wrong_number_1 : SF := sRet (eIf (tVal (eCall (callP F_is_number) (aCons (eVar 5) (aNil)))) (eC .non) (eC (.str "calm")))
def f_wrong_number_2 : SF := sSeq (sIf (tNot (tVal (eCall (callP F_is_from) (aCons (eVar 4) (aCons (eVar 2) (aNil)))))) (sRet (eC (.str "most"))) (sNop)) (f_wrong_number_1)
def f_wrong_number_3 : SF := sSeq (sIf (tNot (tVal (eCall (callP F_is_number) (aCons (eVar 3) (aNil))))) (sRet (eC (.str "more"))) (sNop)) (f_wrong_number_2)
def f_wrong_number_4 : SF := sSeq (sIf (tNot (tVal (eCall (callP F_is_from) (aCons (eVar 2) (aCons (eC (.int 1)) (aNil)))))) (sRet (eC (.str "base"))) (sNop)) (f_wrong_number_3)
def f_wrong_number_5 : SF := sSeq (sIf (tNot (tVal (eCall (callP F_is_from) (aCons (eVar 1) (aCons (eVar 0) (aNil)))))) (sRet (eC (.str "of"))) (sNop)) (f_wrong_number_4)
def f_wrong_number : SF := sSeq (sIf (tNot (tVal (eCall (callP F_is_from) (aCons (eVar 0) (aCons (eC (.int 1)) (aNil)))))) (sRet (eC (.str "need"))) (sNop)) (f_wrong_number_5)
def F_wrong_number := runP 6 6 f_wrong_number
def f_is_word : SF := sRet (eAnd (eCall isiD (aCons (eVar 0) (aCons (eC (.ty "str")) (aNil)))) (eOp inA (eVar 0) (eVar 1)))
def F_is_word := runP 2 2 f_is_word
def f_wrong_word_1 : SF := sRet (eIf (tVal (eCall (callP F_is_word) (aCons (eVar 4) (aCons (eC (.tup [.str "fault", .str "no", .str "out"])) (aNil))))) (eC .non) (eC (.str "hears")))
def f_wrong_word_2 : SF := sSeq (sIf (tNot (tVal (eCall isiD (aCons (eVar 3) (aCons (eC (.ty "bool")) (aNil)))))) (sRet (eC (.str "up"))) (sNop)) (f_wrong_word_1)
def f_wrong_word_3 : SF := sSeq (sIf (tOr (tNot (tVal (eCall (callP F_is_integer) (aCons (eVar 2) (aNil))))) (tOr (tVal (eOp ltD (eVar 2) (eC (.int 1)))) (tVal (eOp ltD (eVar 2) (eVar 1))))) (sRet (eC (.str "under"))) (sNop)) (f_wrong_word_2)
def f_wrong_word_4 : SF := sSeq (sIf (tNot (tVal (eCall (callP F_is_number) (aCons (eVar 1) (aNil))))) (sRet (eC (.str "top"))) (sNop)) (f_wrong_word_3)
def f_wrong_word : SF := sSeq (sIf (tNot (tVal (eCall (callP F_is_word) (aCons (eVar 0) (aCons (eC (.tup [.str "half", .str "open", .str "trial"])) (aNil)))))) (sRet (eC (.str "back"))) (sNop)) (f_wrong_word_4)
def F_wrong_word := runP 5 5 f_wrong_word
def f_Rule___init___1 : SF := sFldM ["Rule"] "cap" (eVar 0) (eIf (tVal (eOp eqD (eVar 4) (eC (.int 0)))) (eC (.int 1)) (eOp addD (eC (.int 1)) (eOp fdivD (eOp subD (eOp addD (eOp subD (eVar 5) (eVar 3)) (eVar 4)) (eC (.int 1))) (eVar 4))))
def f_Rule___init___2 : SF := sSeq (sFldM ["Rule"] "hears" (eVar 0) (eVar 11)) (f_Rule___init___1)
def f_Rule___init___3 : SF := sSeq (sFldM ["Rule"] "up" (eVar 0) (eVar 10)) (f_Rule___init___2)
def f_Rule___init___4 : SF := sSeq (sFldM ["Rule"] "under" (eVar 0) (eVar 9)) (f_Rule___init___3)
def f_Rule___init___5 : SF := sSeq (sFldM ["Rule"] "top" (eVar 0) (eVar 8)) (f_Rule___init___4)
def f_Rule___init___6 : SF := sSeq (sFldM ["Rule"] "back" (eVar 0) (eVar 7)) (f_Rule___init___5)
def f_Rule___init___7 : SF := sSeq (sFldM ["Rule"] "calm" (eVar 0) (eVar 6)) (f_Rule___init___6)
def f_Rule___init___8 : SF := sSeq (sFldM ["Rule"] "most" (eVar 0) (eVar 5)) (f_Rule___init___7)
def f_Rule___init___9 : SF := sSeq (sFldM ["Rule"] "more" (eVar 0) (eVar 4)) (f_Rule___init___8)
def f_Rule___init___10 : SF := sSeq (sFldM ["Rule"] "base" (eVar 0) (eVar 3)) (f_Rule___init___9)
def f_Rule___init___11 : SF := sSeq (sFldM ["Rule"] "of" (eVar 0) (eVar 2)) (f_Rule___init___10)
def f_Rule___init___12 : SF := sSeq (sFldM ["Rule"] "need" (eVar 0) (eVar 1)) (f_Rule___init___11)
def f_Rule___init___13 : SF := sSeq (sIf (tVal (eNotN (eVar 12))) (sNo) (sNop)) (f_Rule___init___12)
def f_Rule___init___14 : SF := sSeq (sIf (tVal (eIsN (eVar 12))) (sAsg (eCall (callP F_wrong_word) (aCons (eVar 7) (aCons (eVar 8) (aCons (eVar 9) (aCons (eVar 10) (aCons (eVar 11) (aNil))))))) (gNm 12)) (sNop)) (f_Rule___init___13)
def f_Rule___init__ : SF := sSeq (sAsg (eCall (callP F_wrong_number) (aCons (eVar 1) (aCons (eVar 2) (aCons (eVar 3) (aCons (eVar 4) (aCons (eVar 5) (aCons (eVar 6) (aNil)))))))) (gNm 12)) (f_Rule___init___14)
def F_Rule___init__ := runM 12 13 f_Rule___init__
abbrev f__law_made : SF := sRet (eCall (pureC (newP "Rule" F_Rule___init__)) (aCons (eOp ixA (eVar 0) (eC (.int 0))) (aCons (eOp ixA (eVar 0) (eC (.int 1))) (aCons (eOp ixA (eVar 0) (eC (.int 2))) (aCons (eOp ixA (eVar 0) (eC (.int 3))) (aCons (eOp ixA (eVar 0) (eC (.int 4))) (aCons (eOp ixA (eVar 0) (eC (.int 5))) (aCons (eOp ixA (eVar 0) (eC (.int 6))) (aCons (eOp ixA (eVar 0) (eC (.int 7))) (aCons (eOp ixA (eVar 0) (eC (.int 8))) (aCons (eOp ixA (eVar 0) (eC (.int 9))) (aCons (eOp ixA (eVar 0) (eC (.int 10))) (aNil)))))))))))))
def F__law_made := runP 1 1 f__law_made
def f_number_in_1 : SF := sRet (eIf (tOr (tVal (eOp eqD (eVar 0) (eC (.str "0")))) (tVal (eOp neD (eOp ixA (eVar 0) (eC (.int 0))) (eC (.str "0"))))) (eCall intD (aCons (eVar 0) (aNil))) (eC .non))
def f_number_in : SF := sSeq (sIf (tOr (tNot (tVal (eChain leD leD (eC (.int 1)) (eCall lenD (aCons (eVar 0) (aNil))) (eVar 1)))) (tNot (tVal (eCall allD (aCons (eLcK false (iIt (eVar 0)) (.one 2) (tTrue) (eOp inA (eVar 2) (eC (.str "0123456789")))) (aNil)))))) (sRet (eC .non)) (sNop)) (f_number_in_1)
def F_number_in := runP 2 3 f_number_in
abbrev f_numbers_in_1 : SF := sRet (eIf (tVal (eOp inA (eC .non) (eVar 1))) (eC .non) (eVar 1))
abbrev f_numbers_in : SF := sSeq (sAsg (eLcK false (iIt (eVar 0)) (.one 2) (tTrue) (eCall (callP F_number_in) (aCons (eVar 2) (aCons (eC (.int 2)) (aNil))))) (gNm 1)) (f_numbers_in_1)
def F_numbers_in := runP 1 3 f_numbers_in
abbrev f_share_in_1 : SF := sRet (eIf (tVal (eOp eqD (eCall lenD (aCons (eVar 1) (aNil))) (eC (.int 2)))) (eCall (callP F_numbers_in) (aCons (eVar 1) (aNil))) (eC .non))
abbrev f_share_in : SF := sSeq (sAsg (eM1 splitD (eVar 0) (eC (.str "/"))) (gNm 1)) (f_share_in_1)
def F_share_in := runP 1 2 f_share_in
abbrev f_words_between_1 : SF := sRet (eIf (tAnd (tVal (eCall (callP F_is_word) (aCons (eOp ixA (eVar 0) (eC (.int 13))) (aCons (eC (.tup [.str "half", .str "open", .str "trial"])) (aNil))))) (tVal (eCall (callP F_is_word) (aCons (eOp ixA (eVar 0) (eC (.int 18))) (aCons (eC (.tup [.str "fault", .str "no", .str "out"])) (aNil)))))) (eVar 1) (eLst (aNil)))
abbrev f_words_between_2 : SF := sSeq (sFor (iZpM (aCons (eTup (aCons (eC (.int 0)) (aCons (eC (.int 2)) (aCons (eC (.int 4)) (aCons (eC (.int 6)) (aCons (eC (.int 8)) (aCons (eC (.int 10)) (aCons (eC (.int 12)) (aCons (eC (.int 14)) (aCons (eC (.int 17)) (aNil))))))))))) (aCons (eM1 splitD (eC (.str "leave of out more most calm back share hears")) (eC (.str " "))) (aNil)))) (gTgt (.many [2, 3])) (sAsg (eVar 3) (gSetA (eVar 1) (eVar 2)))) (f_words_between_1)
abbrev f_words_between : SF := sSeq (sAsg (eLisN (eVar 0)) (gNm 1)) (f_words_between_2)
def F_words_between := runP 1 4 f_words_between
abbrev f_Rule_read_1 : SF := sRet (eNewPL 0 "Rule" F_Rule___init__ (aStar (eVar 3) (aCons (eVar 5) (aStar (eVar 4) (aCons (eVar 6) (aCons (eVar 7) (aNil)))))))
abbrev f_Rule_read_2 : SF := sSeq (sPar [5, 6, 7] (aCons (eOp ixA (eVar 2) (eC (.int 13))) (aCons (eTbl tb_ROUNDS (eOp ixA (eVar 2) (eC (.int 16)))) (aCons (eOp ixA (eVar 2) (eC (.int 18))) (aNil))))) (f_Rule_read_1)
abbrev f_Rule_read_3 : SF := sSeq (sIf (tVal (eOp neD (eVar 2) (eCall (callP F_words_between) (aCons (eVar 2) (aNil))))) (sNo) (sNop)) (f_Rule_read_2)
abbrev f_Rule_read_4 : SF := sSeq (sIf (tOr (tVal (eIsN (eVar 3))) (tOr (tVal (eIsN (eVar 4))) (tVal (eTblNin tb_ROUNDS (eOp ixA (eVar 2) (eC (.int 16))))))) (sNo) (sNop)) (f_Rule_read_3)
abbrev f_Rule_read_5 : SF := sSeq (sAsg (eCall (callP F_share_in) (aCons (eOp ixA (eVar 2) (eC (.int 15))) (aNil))) (gNm 4)) (f_Rule_read_4)
abbrev f_Rule_read_6 : SF := sSeq (sAsg (eCall (callP F_numbers_in) (aCons (eLcK false (iIt (eTup (aCons (eC (.int 1)) (aCons (eC (.int 3)) (aCons (eC (.int 5)) (aCons (eC (.int 7)) (aCons (eC (.int 9)) (aCons (eC (.int 11)) (aNil))))))))) (.one 8) (tTrue) (eOp ixA (eVar 2) (eVar 8))) (aNil))) (gNm 3)) (f_Rule_read_5)
abbrev f_Rule_read_7 : SF := sSeq (sIf (tVal (eOp neD (eCall lenD (aCons (eVar 2) (aNil))) (eC (.int 19)))) (sNo) (sNop)) (f_Rule_read_6)
abbrev f_Rule_read : SF := sSeq (sAsg (eM1 splitD (eVar 1) (eC (.str " "))) (gNm 2)) (f_Rule_read_7)
def F_Rule_read := runP 2 9 f_Rule_read
abbrev f_Rule___str___1 : SF := sRet (joinF [eFmt (eVar 1), eC (.str " back "), eFmt (eFld ["Rule"] "back" (eVar 0)), eC (.str " share "), eFmt (eFld ["Rule"] "top" (eVar 0)), eC (.str "/"), eFmt (eFld ["Rule"] "under" (eVar 0)), eC (.str " "), eFmt (eVar 2), eC (.str " hears "), eFmt (eFld ["Rule"] "hears" (eVar 0))] Str.empty)
abbrev f_Rule___str___2 : SF := sSeq (sAsg (eIf (tVal (eFld ["Rule"] "up" (eVar 0))) (eC (.str "up")) (eC (.str "down"))) (gNm 2)) (f_Rule___str___1)
abbrev f_Rule___str__ : SF := sSeq (sAsg (joinF [eC (.str "leave "), eFmt (eFld ["Rule"] "need" (eVar 0)), eC (.str " of "), eFmt (eFld ["Rule"] "of" (eVar 0)), eC (.str " out "), eFmt (eFld ["Rule"] "base" (eVar 0)), eC (.str " more "), eFmt (eFld ["Rule"] "more" (eVar 0)), eC (.str " most "), eFmt (eFld ["Rule"] "most" (eVar 0)), eC (.str " calm "), eFmt (eFld ["Rule"] "calm" (eVar 0))] Str.empty) (gNm 1)) (f_Rule___str___2)
def F_Rule___str__ := runP 1 3 f_Rule___str__
abbrev f_Rule___eq__ : SF := sRet (eAnd (eCall (isiC "Rule") (aCons (eVar 1) (aCons (eC (.glo "Rule")) (aNil)))) (eOp eqD (eCall (strOD "Rule" F_Rule___str__) (aCons (eVar 0) (aNil))) (eCall (strOD "Rule" F_Rule___str__) (aCons (eVar 1) (aNil)))))
def F_Rule___eq__ := runP 2 2 f_Rule___eq__
abbrev f_law_1 : SF := sIf (tVal (eOp neD (eOp (eqOD "Rule" F_Rule___eq__) (eCall (callP fun ds => F_Rule_read (.glo "Rule" :: ds)) (aCons (eCall (callK F__law_rule_text) (aCons (eVar 4) (aNil))) (aNil))) (eVar 5)) (eOp eqD (eVar 4) (eVar 3)))) (sRet (eC (.bl false))) (sNop)
abbrev f_law_2 : SF := sSeq (sIf (tVal (eOp neD (eOp eqD (eCall (strOD "Rule" F_Rule___str__) (aCons (eCall (callK F__law_made) (aCons (eVar 4) (aNil))) (aNil))) (eVar 6)) (eOp eqD (eVar 4) (eVar 3)))) (sRet (eC (.bl false))) (sNop)) (f_law_1)
def f_law_3 : SF := sSeq (sIf (tOr (tVal (eOp neD (eCall reprG (aCons (eOp addD (eVar 8) (eTup (aCons (eFld ["Rule"] "top" (eVar 7)) (aCons (eFld ["Rule"] "under" (eVar 7)) (aCons (eFld ["Rule"] "up" (eVar 7)) (aCons (eFld ["Rule"] "hears" (eVar 7)) (aNil))))))) (aNil))) (eCall reprG (aCons (eVar 3) (aNil))))) (tVal (eOp neD (eFld ["Rule"] "cap" (eVar 7)) (eFld ["Rule"] "cap" (eVar 5))))) (sRet (eC (.bl false))) (sNop)) (f_law_2)
abbrev f_law_4 : SF := sSeq (sAsg (eTup (aCons (eFld ["Rule"] "need" (eVar 7)) (aCons (eFld ["Rule"] "of" (eVar 7)) (aCons (eFld ["Rule"] "base" (eVar 7)) (aCons (eFld ["Rule"] "more" (eVar 7)) (aCons (eFld ["Rule"] "most" (eVar 7)) (aCons (eFld ["Rule"] "calm" (eVar 7)) (aCons (eFld ["Rule"] "back" (eVar 7)) (aNil))))))))) (gNm 8)) (f_law_3)
def f_law_5 : SF := sSeq (sIf (tOr (tVal (eOp neD (eCall (strOD "Rule" F_Rule___str__) (aCons (eVar 5) (aNil))) (eVar 6))) (tOr (tVal (eOp neD (eCall (strOD "Rule" F_Rule___str__) (aCons (eVar 7) (aNil))) (eVar 6))) (tVal (eOp (neOD "Rule" F_Rule___eq__) (eVar 7) (eVar 5))))) (sRet (eC (.bl false))) (sNop)) (f_law_4)
abbrev f_law_6 : SF := sSeq (sAsg (eCall (callP fun ds => F_Rule_read (.glo "Rule" :: ds)) (aCons (eVar 6) (aNil))) (gNm 7)) (f_law_5)
def f_law_7 : SF := sSeq (sPar [5, 6] (aCons (eCall (callK F__law_made) (aCons (eVar 3) (aNil))) (aCons (eCall (callK F__law_rule_text) (aCons (eVar 3) (aNil))) (aNil)))) (f_law_6)
abbrev f_law_8 : SF := sSeq (sAsg (eCallM F__law_drawn_rule (aCons (eVar 1) (aNil))) (gNm 4)) (f_law_7)
abbrev f_law_9 : SF := sSeq (sIf (tVal (eOp eqD (eCallM F__law_draw (aCons (eVar 1) (aCons (eC (.int 3)) (aNil)))) (eC (.int 0)))) (sAsg (eOp addD (eOp addD (eSl (eVar 3) (oNo) (oYes (eC (.int 8)))) (eTup (aCons (eOp addD (eOp addD (eOp ixA (eVar 3) (eC (.int 8))) (eC (.int 10))) (eCallM F__law_draw (aCons (eVar 1) (aCons (eC (.int 5)) (aNil))))) (aNil)))) (eSl (eVar 3) (oYes (eC (.int 9))) (oNo))) (gNm 3)) (sNop)) (f_law_8)
def f_law_10 : SF := sSeq (sAsg (eCallM F__law_drawn_rule (aCons (eVar 1) (aNil))) (gNm 3)) (f_law_9)
abbrev f_law_11 : SF := sRet (eOp eqD (eCall (strOD "Rule" F_Rule___str__) (aCons (eVar 9) (aNil))) (eC (.str "leave 2 of 3 out 4 more 0 most 9 calm 6 back half share 0/20 down hears out")))
def f_law_12 : SF := sSeq (sAsg (eCall (pureC (newP "Rule" F_Rule___init__)) (aCons (eC (.int 2)) (aCons (eC (.int 3)) (aCons (eC (.int 4)) (aCons (eC (.int 0)) (aCons (eC (.int 9)) (aCons (eC (.int 6)) (aCons (eC (.str "half")) (aCons (eC (.int 0)) (aCons (eC (.int 20)) (aCons (eC (.bl false)) (aCons (eC (.str "out")) (aNil))))))))))))) (gNm 9)) (f_law_11)
abbrev f_law_13 : SF := sSeq (sFor (iR1 (aCons (eC (.int 14)) (aNil))) (gTgt (.one 2)) (f_law_10)) (f_law_12)
abbrev f_law : SF := sSeq (sAsg (eCallM F__law_deal (aCons (eVar 0) (aCons (eC (.int 0)) (aNil)))) (gNm 1)) (f_law_13)
def F_law := runP 1 10 f_law
end L4
namespace L4
open PySem
/-! the machine of one server, told natively; what the printed functions answer -/
inductive Bk where | half | opn | trial
inductive Hr where | fault | no | out
structure Ru where
  need : Int
  of : Int
  base : Int
  more : Int
  most : Int
  calm : Int
  back : Bk
  top : Int
  under : Int
  up : Bool
  hears : Hr
  cap : Int
def Bk.s : Bk → Str
  | .half => "half"
  | .opn => "open"
  | .trial => "trial"
def Hr.s : Hr → Str
  | .fault => "fault"
  | .no => "no"
  | .out => "out"
def ruNames : List Str := ["need", "of", "base", "more", "most", "calm", "back", "top", "under", "up", "hears", "cap"]
def Ru.vals (r : Ru) : List D := [.int r.need, .int r.of, .int r.base, .int r.more, .int r.most, .int r.calm, .str r.back.s, .int r.top, .int r.under, .bl r.up, .str r.hears.s, .int r.cap]
def Ru.d (r : Ru) : D := .obj "Rule" ruNames r.vals
/-- small numbers -/
structure Ru.Ok (r : Ru) : Prop where
  n1 : 1 ≤ r.need
  n2 : r.need ≤ r.of
  n3 : r.of ≤ 100
  m1 : 0 ≤ r.more
  m2 : r.more ≤ 1000
  b1 : 1 ≤ r.base
  b2 : r.base ≤ r.most
  c0 : 0 ≤ r.calm
  k1 : 1 ≤ r.cap
inductive Sd where
  | inn (w : List Bool) (times calm : Int)
  | out (left times : Int)
  | trial (times : Int)
deriving DecidableEq
def Sd.d : Sd → D
  | .inn w t c => .tup [.str "in", .tup (w.map .bl), .int t, .int c]
  | .out l t => .tup [.str "out", .int l, .int t]
  | .trial t => .tup [.str "trial", .int t]
inductive Lt where | fault | faultFull | ok | told | toldFull
deriving DecidableEq
def Lt.s : Lt → Str
  | .fault => "fault"
  | .faultFull => "fault full"
  | .ok => "ok"
  | .told => "told"
  | .toldFull => "told full"
inductive Wh where | felt | missed | skip | ok | told
deriving DecidableEq
def Wh.s : Wh → Str
  | .felt => "felt"
  | .missed => "missed"
  | .skip => "skip"
  | .ok => "ok"
  | .told => "told"
/-! reading the rule -/
section
variable {r : Ru} {m : M}
theorem ru_ins : insOf m r.d = some (("Rule" : Str), ruNames, r.vals) := rfl
theorem ru_pure : pureD r.d = true := rfl
theorem ru_c1 : (["Rule"] : List Str).contains "Rule" = true := by decide +kernel
theorem ru_c2 : (["Rule", "World"] : List Str).contains "Rule" = true := by decide +kernel
theorem ru_need : fldAt ruNames r.vals "need" = some (.int r.need) := by kernel_rfl
theorem ru_of : fldAt ruNames r.vals "of" = some (.int r.of) := by kernel_rfl
theorem ru_base : fldAt ruNames r.vals "base" = some (.int r.base) := by kernel_rfl
theorem ru_more : fldAt ruNames r.vals "more" = some (.int r.more) := by kernel_rfl
theorem ru_most : fldAt ruNames r.vals "most" = some (.int r.most) := by kernel_rfl
theorem ru_calm : fldAt ruNames r.vals "calm" = some (.int r.calm) := by kernel_rfl
theorem ru_back : fldAt ruNames r.vals "back" = some (.str r.back.s) := by kernel_rfl
theorem ru_top : fldAt ruNames r.vals "top" = some (.int r.top) := by kernel_rfl
theorem ru_under : fldAt ruNames r.vals "under" = some (.int r.under) := by kernel_rfl
theorem ru_up : fldAt ruNames r.vals "up" = some (.bl r.up) := by kernel_rfl
theorem ru_hears : fldAt ruNames r.vals "hears" = some (.str r.hears.s) := by kernel_rfl
theorem ru_cap : fldAt ruNames r.vals "cap" = some (.int r.cap) := by kernel_rfl
theorem ru_ntime : ruNames.contains "time" = false := by kernel_rfl
theorem eqB {o : Option D} {b : Bool} (h : (match o with | some (.bl c) => c == b | _ => false) = true) : o = some (.bl b) := by
  split at h
  · rw [eq_of_beq h]
  · cases h
theorem eq_back (b : Bk) : (eqD m (.str b.s) (.str "trial") = some (.bl (b matches .trial))) ∧ (eqD m (.str b.s) (.str "half") = some (.bl (b matches .half))) := by
  cases b <;> exact ⟨eqB (by kernel_rfl), eqB (by kernel_rfl)⟩
theorem eq_hears (b : Hr) : (eqD m (.str b.s) (.str "no") = some (.bl (b matches .no))) ∧ (eqD m (.str b.s) (.str "out") = some (.bl (b matches .out))) := by
  cases b <;> exact ⟨eqB (by kernel_rfl), eqB (by kernel_rfl)⟩
theorem eq_int {i j : Int} : eqD m (.int i) (.int j) = some (.bl (i == j)) := by
  have hi : ∀ i : Int, pdM m (.int i) = some (.int i) := fun i => by
    have h1 : SeqAt.shaped (PyData.int i) = true := rfl
    simp [pdM, frz, pureD, pd, h1]
  simp [eqD, hi, PyData.eqv]
theorem callP_pure {F : List D → Option D} {ds : List D} (h : pureL ds = true) : callP F m ds = F ds := by unfold callP; rw [if_pos h]
end
def Ru.time (r : Ru) (j : Int) : Int := if r.most < r.base + r.more * (j - 1) then r.most else r.base + r.more * (j - 1)
theorem runP_rt {a n : Nat} {b : SF} {ds : List D} {d : D} {m : M} (e : b (startD n ds) [] = some (.rt d, m)) (hl : ds.length = a) (hp : pureD d = true) : runP a n b ds = some d := by
  unfold runP
  rw [if_pos hl, e]
  show frz m d = some d
  unfold frz
  rw [if_pos hp]
def Ru.leftOut (r : Ru) (t : Int) : Sd := .out (r.time (if r.cap < t + 1 then r.cap else t + 1)) (if r.cap < t + 1 then r.cap else t + 1)
section
variable {r : Ru} {m : M}
theorem sz3' : ([] : List D).length + 1 + 1 + 1 ≤ sizeLine := by decide +kernel
theorem szl {n : Nat} (h : n ≤ 1000) : n ≤ sizeLine := by rw [sizeLine_eq]; omega
def Ru.faults (r : Ru) : Int := if r.back matches .half then r.need - (r.need + 1) / 2 else 0
def Ru.comeBack (r : Ru) (t : Int) : Sd := if r.back matches .trial then .trial t else .inn (List.replicate r.faults.toNat true) t 0
theorem rep_flat (n : Nat) : (List.replicate n [D.bl true]).flatten = (List.replicate n true).map D.bl := by
  induction n with
  | zero => rfl
  | succ n ih => rw [List.replicate_succ, List.flatten_cons, ih, List.replicate_succ]; rfl
theorem pure_bls (w : List Bool) : pureL (w.map D.bl) = true := by
  induction w with
  | nil => rfl
  | cons b w ih => simp [pureL, pureD, ih]
theorem sd_pure (s : Sd) : pureD s.d = true := by
  cases s <;> simp [Sd.d, pureD, pureL, pure_bls]
theorem faults_ok (h : r.Ok) : 0 ≤ r.faults ∧ r.faults ≤ 100 := by
  have := h.n1; have := h.n2; have := h.n3
  unfold Ru.faults
  split <;> omega
def Ru.atTry (r : Ru) (s : Sd) (t : Int) (room : Bool) : Sd × Bool := if room then (r.leftOut t, false) else (s, true)
/-- the last answers -/
def Ru.cut (r : Ru) (w : List Bool) (b : Bool) : List Bool := cutD (w ++ [b]) (some (-r.of)) none
theorem cutD_map {α β : Type} (f : α → β) (xs : List α) (lo hi : Option Int) : cutD (xs.map f) lo hi = (cutD xs lo hi).map f := by
  unfold cutD
  rw [List.length_map, ← List.map_drop, ← List.map_take]
theorem cut_bls (r : Ru) (w : List Bool) (b : Bool) : cutD (w.map D.bl ++ [D.bl b]) (some (-r.of)) none = (r.cut w b).map D.bl := by
  unfold Ru.cut
  rw [← cutD_map, List.map_append]
  rfl
theorem sl_tup {ds : List D} {lo hi : Option Int} : slD m (.tup ds) lo hi = some (.tup (cutD ds lo hi)) := rfl
theorem seq_tup {ds : List D} : seqD m (.tup ds) = some ds := rfl
theorem ix0 {m : M} {w : List Bool} {t c : Int} : ixA m (Sd.inn w t c).d (.int 0) = some (.str "in") := rfl
theorem ix1 {m : M} {w : List Bool} {t c : Int} : ixA m (Sd.inn w t c).d (.int 1) = some (.tup (w.map .bl)) := rfl
theorem ix2 {m : M} {w : List Bool} {t c : Int} : ixA m (Sd.inn w t c).d (.int 2) = some (.int t) := rfl
def Ru.afterOk (r : Ru) (w : List Bool) (t c : Int) : Sd := if (t == 0 || r.calm == 0) = true then .inn (r.cut w false) t 0 else if r.calm ≤ c + 1 then .inn (r.cut w false) 0 0 else .inn (r.cut w false) t (c + 1)
theorem comp_bls {ρ : Ss} (hl : 5 < ρ.length) : ∀ w : List Bool, compGo (.one 5) (tVal (eVar 5)) (eVar 5) ρ (w.map D.bl) m = some ((w.filter id).map D.bl, m)
  | [] => rfl
  | b :: w => by
    have ih := comp_bls hl w
    have hg : (setMany ρ [5] [D.bl b]).getD 5 none = some (.bl b) := by
      simp only [setMany, List.getD_eq_getElem?_getD, List.getElem?_set_self hl, Option.getD_some]
    rw [List.map_cons]
    unfold compGo
    simp only [Tgt.un, Tgt.is, tVal, eVar, hg, pu_go, bd_go]
    cases b
    · simp only [Bool.false_eq_true, if_false, ih]
      rfl
    · simp only [if_true, bd_go, ih]
      rfl
def nTrue (w : List Bool) : Int := ((w.filter id).length : Nat)
def Ru.afterFault (r : Ru) (w : List Bool) (t : Int) (room : Bool) : Sd × Bool := if nTrue (r.cut w true) < r.need then (.inn (r.cut w true) t 0, false) else r.atTry (.inn (r.cut w true) t 0) t room
theorem cut_len (r : Ru) (w : List Bool) (b : Bool) : (r.cut w b).length ≤ w.length + 1 := by
  unfold Ru.cut cutD
  simp
  omega
theorem ixo0 {m : M} {l t : Int} : ixA m (Sd.out l t).d (.int 0) = some (.str "out") := rfl
theorem ixt0 {m : M} {t : Int} : ixA m (Sd.trial t).d (.int 0) = some (.str "trial") := rfl
theorem ixt1 {m : M} {t : Int} : ixA m (Sd.trial t).d (.int 1) = some (.int t) := rfl
theorem eq_in_out : eqD m (.str "in") (.str "out") = some (.bl false) := eqB (by kernel_rfl)
theorem eq_in_trial : eqD m (.str "in") (.str "trial") = some (.bl false) := eqB (by kernel_rfl)
theorem eq_out_out : eqD m (.str "out") (.str "out") = some (.bl true) := eqB (by kernel_rfl)
theorem eq_trial_out : eqD m (.str "trial") (.str "out") = some (.bl false) := eqB (by kernel_rfl)
theorem eq_trial_trial : eqD m (.str "trial") (.str "trial") = some (.bl true) := eqB (by kernel_rfl)
theorem ne_in_in : neD m (.str "in") (.str "in") = some (.bl false) := eqB (by kernel_rfl)
theorem ne_out_in : neD m (.str "out") (.str "in") = some (.bl true) := eqB (by kernel_rfl)
theorem ne_trial_in : neD m (.str "trial") (.str "in") = some (.bl true) := eqB (by kernel_rfl)
/-- how many answers a standing keeps -/
def Sd.wl : Sd → Nat
  | .inn w _ _ => w.length
  | _ => 0
def Ru.afterTurn (r : Ru) (s : Sd) (fault room : Bool) : Sd × Wh × Bool := match s with
  | .out l t => (if l == 1 then r.comeBack t else .out (l - 1) t, if fault then .skip else .missed, false)
  | .trial t => if fault then (r.leftOut t, .felt, false) else (.inn [] t 0, .ok, false)
  | .inn w t c => if fault then ((r.afterFault w t room).1, .felt, (r.afterFault w t room).2) else (r.afterOk w t c, .ok, false)
def tw (x : Sd × Wh × Bool) : D := .tup [x.1.d, .str x.2.1.s, .bl x.2.2]
def Ru.afterWord (r : Ru) (s : Sd) (room : Bool) : Sd × Bool := match s with
  | .inn w t c => if r.hears matches .no then (.inn w t c, false) else if r.hears matches .out then r.atTry (.inn w t c) t room else r.afterFault w t room
  | s => (s, false)
def Ru.room (r : Ru) (full : Bool) : Bool := decide (0 < r.top) && (!full || r.top == r.under)
def Lt.full : Lt → Bool
  | .faultFull => true
  | .toldFull => true
  | _ => false
def Lt.isTold : Lt → Bool
  | .told => true
  | .toldFull => true
  | _ => false
def Lt.isFault : Lt → Bool
  | .fault => true
  | .faultFull => true
  | _ => false
def Lt.word : Lt → Str
  | .fault => "fault"
  | .faultFull => "fault"
  | .ok => "ok"
  | .told => "told"
  | .toldFull => "told"
def Lt.rest : Lt → List D
  | .faultFull => [.str "full"]
  | .toldFull => [.str "full"]
  | _ => []
theorem split_ok (l : Lt) : splitD m (.str l.s) (.str " ") = some (.lst (.str l.word :: l.rest)) := by cases l <;> kernel_rfl
theorem told_ok (l : Lt) : eqD m (.str l.word) (.str "told") = some (.bl l.isTold) := by cases l <;> exact eqB (by kernel_rfl)
theorem flt_ok (l : Lt) : eqD m (.str l.word) (.str "fault") = some (.bl l.isFault) := by cases l <;> exact eqB (by kernel_rfl)
theorem rest_ok (l : Lt) : decide ((0 : Int) < (l.rest.length : Int)) = l.full := by cases l <;> rfl
def Ru.step (r : Ru) (s : Sd) (l : Lt) : Sd × Wh := if l.isTold then ((r.afterWord s (r.room l.full)).1, .told) else ((r.afterTurn s l.isFault (r.room l.full)).1, (r.afterTurn s l.isFault (r.room l.full)).2.1)
def sw (x : Sd × Wh) : D := .tup [x.1.d, .str x.2.s]
end
end L4

namespace L4
open PySem
/-! a rule is made -/
def capOf (base more most : Int) : Int := if more == 0 then 1 else 1 + (most - base + more - 1) / more
/-- arguments that make a rule -/
structure Ru.Va (r : Ru) : Prop where
  a1 : 1 ≤ r.need
  a2 : r.need ≤ r.of
  a3 : 1 ≤ r.base
  a4 : 0 ≤ r.more
  a5 : r.base ≤ r.most
  a6 : 0 ≤ r.calm
  a7 : 0 ≤ r.top
  a8 : 1 ≤ r.under
  a9 : r.top ≤ r.under
  b1 : r.more < 1073741824
  b2 : r.cap = capOf r.base r.more r.most
/-- the arguments as a tuple -/
def Ru.args (r : Ru) : List D := [.int r.need, .int r.of, .int r.base, .int r.more, .int r.most, .int r.calm, .str r.back.s, .int r.top, .int r.under, .bl r.up, .str r.hears.s]
section
variable {r : Ru} {m : M}
theorem isi_int (i : Int) : isiD m [.int i, .ty "int"] = some (.bl true) := by kernel_rfl
theorem isi_intb (i : Int) : isiD m [.int i, .ty "bool"] = some (.bl false) := by kernel_rfl
theorem isi_bl (b : Bool) : isiD m [.bl b, .ty "bool"] = some (.bl true) := by kernel_rfl
theorem isi_str (x : Str) : isiD m [.str x, .ty "str"] = some (.bl true) := by kernel_rfl
theorem isint_ok (i : Int) : F_is_integer [.int i] = some (.bl true) := by
  refine runP_rt (b := f_is_integer) (m := []) ?_ rfl rfl
  show f_is_integer [some (.int i)] [] = _
  simp only [f_is_integer, sRet, eAnd, eNot, eCall, aCons, aNil, eVar, eC, List.getD_cons_zero, pu_go, bd_go, isi_int, isi_intb, Bool.not_false]
theorem isfrom_ok (i j : Int) : F_is_from [.int i, .int j] = some (.bl (decide (j ≤ i))) := by
  have hp : ∀ i : Int, pureL [.int i] = true := fun i => rfl
  refine runP_rt (b := f_is_from) (m := []) ?_ rfl rfl
  show f_is_from [some (.int i), some (.int j)] [] = _
  simp only [f_is_from, sRet, eAnd, eCall, eOp, aCons, aNil, eVar, eC, List.getD_cons_zero, List.getD_cons_succ, pu_go, bd_go, callP_pure (hp _), isint_ok, geD]
theorem isnum_ok (i : Int) : F_is_number [.int i] = some (.bl (decide (0 ≤ i))) := by
  have hp : ∀ i : Int, pureL [.int i] = true := fun i => rfl
  refine runP_rt (b := f_is_number) (m := []) ?_ rfl rfl
  show f_is_number [some (.int i)] [] = _
  simp only [f_is_number, sRet, eAnd, eCall, eOp, aCons, aNil, eVar, eC, List.getD_cons_zero, List.getD_cons_succ, pu_go, bd_go, callP_pure (hp _), isint_ok, geD]
theorem isback_ok (b : Bk) : F_is_word [.str b.s, .tup [.str "half", .str "open", .str "trial"]] = some (.bl true) := by cases b <;> exact eqB (by kernel_rfl)
theorem ishears_ok (b : Hr) : F_is_word [.str b.s, .tup [.str "fault", .str "no", .str "out"]] = some (.bl true) := by cases b <;> exact eqB (by kernel_rfl)
theorem wnum_ok (h : r.Va) : F_wrong_number [.int r.need, .int r.of, .int r.base, .int r.more, .int r.most, .int r.calm] = some .non := by
  have hp : ∀ i : Int, pureL [.int i] = true := fun i => rfl
  have hp2 : ∀ i j : Int, pureL [.int i, .int j] = true := fun i j => rfl
  refine runP_rt (b := f_wrong_number) (m := []) ?_ rfl rfl
  show f_wrong_number [some (.int r.need), some (.int r.of), some (.int r.base), some (.int r.more), some (.int r.most), some (.int r.calm)] [] = _
  simp only [f_wrong_number, f_wrong_number_5, f_wrong_number_4, f_wrong_number_3, f_wrong_number_2, f_wrong_number_1, sSeq, sIf, tNot, tVal, sNop, sRet, eIf, eCall, aCons, aNil, eVar, eC, List.getD_cons_zero, List.getD_cons_succ, pu_go, bd_go, callP_pure (hp _), callP_pure (hp2 _ _), isfrom_ok, isnum_ok, h.a1, h.a2, h.a3, h.a4, h.a5, h.a6, decide_true, Bool.not_true, Bool.false_eq_true, if_false, if_true]
theorem wword_ok (h : r.Va) : F_wrong_word [.str r.back.s, .int r.top, .int r.under, .bl r.up, .str r.hears.s] = some .non := by
  have hp : ∀ i : Int, pureL [.int i] = true := fun i => rfl
  have hp2 : ∀ x : Str, ∀ a b c : Str, pureL [.str x, .tup [.str a, .str b, .str c]] = true := fun x a b c => rfl
  have h1 : ¬ r.under < 1 := by have := h.a8; omega
  have h2 : ¬ r.under < r.top := by have := h.a9; omega
  refine runP_rt (b := f_wrong_word) (m := []) ?_ rfl rfl
  show f_wrong_word [some (.str r.back.s), some (.int r.top), some (.int r.under), some (.bl r.up), some (.str r.hears.s)] [] = _
  simp only [f_wrong_word, f_wrong_word_4, f_wrong_word_3, f_wrong_word_2, f_wrong_word_1, sSeq, sIf, tNot, tOr, tVal, sNop, sRet, eIf, eCall, eOp, aCons, aNil, eVar, eC, List.getD_cons_zero, List.getD_cons_succ, pu_go, bd_go, callP_pure (hp _), callP_pure (hp2 _ _ _ _), isback_ok, ishears_ok, isnum_ok, isint_ok, isi_bl, ltD, cmpI, h1, h2, h.a7, decide_true, decide_false, Bool.not_true, Bool.false_eq_true, if_false, if_true]
theorem runM_nx {a n : Nat} {b : SF} {ds : List D} {ρ : Ss} {m m' : M} (e : b (startD n ds) m = some (.nx ρ, m')) (hl : ds.length = a) : runM a n b ds m = some (.non, m') := by
  unfold runM
  rw [if_pos hl, e]
  rfl
theorem runM_rt {a n : Nat} {b : SF} {ds : List D} {d : D} {m m' : M} (e : b (startD n ds) m = some (.rt d, m')) (hl : ds.length = a) : runM a n b ds m = some (d, m') := by
  unfold runM
  rw [if_pos hl, e]
  rfl
theorem init_put : f_Rule___init___12 [some (.ref 0), some (.int r.need), some (.int r.of), some (.int r.base), some (.int r.more), some (.int r.most), some (.int r.calm), some (.str r.back.s), some (.int r.top), some (.int r.under), some (.bl r.up), some (.str r.hears.s), some .non] [.ins "Rule" [] []] =
    f_Rule___init___1 [some (.ref 0), some (.int r.need), some (.int r.of), some (.int r.base), some (.int r.more), some (.int r.most), some (.int r.calm), some (.str r.back.s), some (.int r.top), some (.int r.under), some (.bl r.up), some (.str r.hears.s), some .non] [.ins "Rule" ["need", "of", "base", "more", "most", "calm", "back", "top", "under", "up", "hears"] r.args] := by kernel_rfl
theorem init_cap (z : D) : putD "cap" z (["need", "of", "base", "more", "most", "calm", "back", "top", "under", "up", "hears"] : List Str) r.args = (ruNames, r.args ++ [z]) := by kernel_rfl
theorem init_gen {f : SF} {Wn Ww : List D → Option D} {m : M} (hn : Wn [.int r.need, .int r.of, .int r.base, .int r.more, .int r.most, .int r.calm] = some .non) (hw : Ww [.str r.back.s, .int r.top, .int r.under, .bl r.up, .str r.hears.s] = some .non) :
    sSeq (sAsg (eCall (callP Wn) (aCons (eVar 1) (aCons (eVar 2) (aCons (eVar 3) (aCons (eVar 4) (aCons (eVar 5) (aCons (eVar 6) (aNil)))))))) (gNm 12)) (sSeq (sIf (tVal (eIsN (eVar 12))) (sAsg (eCall (callP Ww) (aCons (eVar 7) (aCons (eVar 8) (aCons (eVar 9) (aCons (eVar 10) (aCons (eVar 11) (aNil))))))) (gNm 12)) (sNop)) (sSeq (sIf (tVal (eNotN (eVar 12))) (sNo) (sNop)) f)) [some (.ref 0), some (.int r.need), some (.int r.of), some (.int r.base), some (.int r.more), some (.int r.most), some (.int r.calm), some (.str r.back.s), some (.int r.top), some (.int r.under), some (.bl r.up), some (.str r.hears.s), none] m = f [some (.ref 0), some (.int r.need), some (.int r.of), some (.int r.base), some (.int r.more), some (.int r.most), some (.int r.calm), some (.str r.back.s), some (.int r.top), some (.int r.under), some (.bl r.up), some (.str r.hears.s), some .non] m := by
  have hpn : pureL [.int r.need, .int r.of, .int r.base, .int r.more, .int r.most, .int r.calm] = true := rfl
  have hpw : pureL [.str r.back.s, .int r.top, .int r.under, .bl r.up, .str r.hears.s] = true := rfl
  simp only [sSeq, sAsg, sIf, tVal, eIsN, eNotN, isNon, sNop, eCall, aCons, aNil, eVar, gNm, List.getD_cons_zero, List.getD_cons_succ, List.set_cons_succ, List.set_cons_zero, pu_go, bd_go, callP_pure hpn, callP_pure hpw, hn, hw, if_true, Bool.not_true, Bool.false_eq_true, if_false]
theorem init_e1 (h : r.Va) : f_Rule___init__ [some (.ref 0), some (.int r.need), some (.int r.of), some (.int r.base), some (.int r.more), some (.int r.most), some (.int r.calm), some (.str r.back.s), some (.int r.top), some (.int r.under), some (.bl r.up), some (.str r.hears.s), none] [.ins "Rule" [] []] =
      f_Rule___init___12 [some (.ref 0), some (.int r.need), some (.int r.of), some (.int r.base), some (.int r.more), some (.int r.most), some (.int r.calm), some (.str r.back.s), some (.int r.top), some (.int r.under), some (.bl r.up), some (.str r.hears.s), some .non] [.ins "Rule" [] []] :=
  init_gen (f := f_Rule___init___12) (Wn := F_wrong_number) (Ww := F_wrong_word) (wnum_ok h) (wword_ok h)
theorem init_e2 (h : r.Va) : f_Rule___init___1 [some (.ref 0), some (.int r.need), some (.int r.of), some (.int r.base), some (.int r.more), some (.int r.most), some (.int r.calm), some (.str r.back.s), some (.int r.top), some (.int r.under), some (.bl r.up), some (.str r.hears.s), some .non] [.ins "Rule" ["need", "of", "base", "more", "most", "calm", "back", "top", "under", "up", "hears"] r.args] =
      some (.nx [some (.ref 0), some (.int r.need), some (.int r.of), some (.int r.base), some (.int r.more), some (.int r.most), some (.int r.calm), some (.str r.back.s), some (.int r.top), some (.int r.under), some (.bl r.up), some (.str r.hears.s), some .non], [.ins "Rule" ruNames r.vals]) := by
  have hl : r.args.length < 1000 := by show 11 < 1000; decide
  have hv : r.args ++ [.int r.cap] = r.vals := rfl
  by_cases h0 : (r.more == 0) = true
  · have hc : r.cap = 1 := by rw [h.b2]; unfold capOf; rw [if_pos h0]
    simp only [f_Rule___init___1, sFldM, eIf, tVal, eOp, eVar, eC, List.getD_cons_zero, List.getD_cons_succ, pu_go, bd_go, eq_int, h0, if_true, List.getElem?_cons_zero, ru_c1, hl, and_self, init_cap, List.set_cons_zero, ← hc, hv]
  · have h0' : (r.more == 0) = false := by simpa using h0
    have h2 : r.more ≠ 0 := by simpa using h0
    have h3 := h.a4
    have h1 : 0 < r.more ∧ r.more < 1073741824 := ⟨by omega, h.b1⟩
    have hc : r.cap = 1 + (r.most - r.base + r.more - 1) / r.more := by rw [h.b2]; unfold capOf; rw [if_neg h0]
    simp only [f_Rule___init___1, sFldM, eIf, tVal, eOp, eVar, eC, List.getD_cons_zero, List.getD_cons_succ, pu_go, bd_go, eq_int, h0', Bool.false_eq_true, if_false, subD, addD, fdivD, if_pos h1, List.getElem?_cons_zero, ru_c1, hl, and_self, if_true, init_cap, List.set_cons_zero, ← hc, hv]
theorem init_ok (h : r.Va) : F_Rule___init__ (.ref 0 :: r.args) [.ins "Rule" [] []] = some (.non, [.ins "Rule" ruNames r.vals]) :=
  runM_nx (b := f_Rule___init__) (n := 13) (ds := .ref 0 :: r.args) (((init_e1 h).trans init_put).trans (init_e2 h)) rfl
theorem new_ok (h : r.Va) : pureC (newP "Rule" F_Rule___init__) m r.args = some r.d := by
  have hp : pureL r.args = true := rfl
  unfold pureC
  rw [if_pos hp]
  unfold newP
  rw [init_ok h]
  rfl
end
end L4

namespace L4
open PySem
/-! texts of rules: read, written -/
def nS (i : Int) : Str := toString i
theorem w_str_i {m : M} {i : Int} (h0 : 0 ≤ i) (h1 : i < 100) : strT m [.int i] = some (.str (nS i)) := by
  have hz : i.natAbs.log2 < 1920 := by
    have : i.natAbs.log2 ≤ i.natAbs := Nat.log2_le_self _
    omega
  show (if i.natAbs.log2 < 1920 then some (D.str (toString i)) else none) = _
  rw [if_pos hz]
  rfl
def okN (o : Option D) (n : Nat) : Bool := match o with
  | some (.int i) => i == (n : Int)
  | _ => false
theorem okN_eq {o : Option D} {n : Nat} (h : okN o n = true) : o = some (.int n) := by
  unfold okN at h
  split at h
  · rw [eq_of_beq h]
  · cases h
theorem nin_tbl : ((List.range 100).all fun n => okN (F_number_in [.str (nS (n : Nat)), .int 2]) n) = true := by decide +kernel
theorem nsg_tbl : ((List.range 100).all fun n => !(nS (n : Nat)).cps.toList.contains 32 && !(nS (n : Nat)).cps.toList.contains 47 && decide ((nS (n : Nat)).cps.toList.length ≤ 2) && PyData.strOk (nS (n : Nat))) = true := by decide +kernel
theorem nin_ok {i : Int} (h0 : 0 ≤ i) (h1 : i < 100) : F_number_in [.str (nS i), .int 2] = some (.int i) := by
  obtain ⟨n, rfl⟩ := Int.eq_ofNat_of_zero_le h0
  have hn : n < 100 := by omega
  exact okN_eq (List.all_eq_true.mp nin_tbl n (List.mem_range.mpr hn))
structure NSg (i : Int) : Prop where
  b : 32 ∉ (nS i).cps.toList
  s : 47 ∉ (nS i).cps.toList
  l : (nS i).cps.toList.length ≤ 2
  ok : PyData.strOk (nS i) = true
theorem nsg_ok {i : Int} (h0 : 0 ≤ i) (h1 : i < 100) : NSg i := by
  obtain ⟨n, rfl⟩ := Int.eq_ofNat_of_zero_le h0
  have hn : n < 100 := by omega
  have h := List.all_eq_true.mp nsg_tbl n (List.mem_range.mpr hn)
  simp only [Bool.and_eq_true, Bool.not_eq_true', decide_eq_true_eq, List.contains_eq_mem, decide_eq_false_iff_not] at h
  obtain ⟨⟨⟨a, b⟩, c⟩, d⟩ := h
  exact ⟨a, b, c, d⟩
/-- small numbers for texts -/
structure Ru.Tn (r : Ru) : Prop where
  need : 0 ≤ r.need ∧ r.need < 100
  of : 0 ≤ r.of ∧ r.of < 100
  base : 0 ≤ r.base ∧ r.base < 100
  more : 0 ≤ r.more ∧ r.more < 100
  most : 0 ≤ r.most ∧ r.most < 100
  calm : 0 ≤ r.calm ∧ r.calm < 100
  top : 0 ≤ r.top ∧ r.top < 100
  under : 0 ≤ r.under ∧ r.under < 100
def upS (b : Bool) : Str := if b then "up" else "down"
def Ru.share (r : Ru) : Str := catS (catS (nS r.top) "/") (nS r.under)
def Ru.words (r : Ru) : List Str := ["leave", nS r.need, "of", nS r.of, "out", nS r.base, "more", nS r.more, "most", nS r.most, "calm", nS r.calm, "back", r.back.s, "share", r.share, upS r.up, "hears", r.hears.s]
def Ru.txt (r : Ru) : Str := joinT " " r.words
theorem one_blank : (" " : Str).cps.toList = [32] := by kernel_rfl
theorem one_slash : ("/" : Str).cps.toList = [47] := by kernel_rfl
section
variable {r : Ru} {m : M}
theorem nob_lit : 32 ∉ ("leave" : Str).cps.toList ∧ 32 ∉ ("of" : Str).cps.toList ∧ 32 ∉ ("out" : Str).cps.toList ∧ 32 ∉ ("more" : Str).cps.toList ∧ 32 ∉ ("most" : Str).cps.toList ∧ 32 ∉ ("calm" : Str).cps.toList ∧ 32 ∉ ("back" : Str).cps.toList ∧ 32 ∉ ("share" : Str).cps.toList ∧ 32 ∉ ("hears" : Str).cps.toList := by decide +kernel
theorem nob_back (b : Bk) : 32 ∉ b.s.cps.toList := by cases b <;> decide +kernel
theorem nob_hears (b : Hr) : 32 ∉ b.s.cps.toList := by cases b <;> decide +kernel
theorem nob_up (b : Bool) : 32 ∉ (upS b).cps.toList := by cases b <;> decide +kernel
theorem nob_share (h : r.Tn) : 32 ∉ r.share.cps.toList := by
  have h1 := (nsg_ok h.top.1 h.top.2).b
  have h2 := (nsg_ok h.under.1 h.under.2).b
  unfold Ru.share
  rw [catS_l, catS_l, one_slash]
  simp [h1, h2]
theorem words_nob (h : r.Tn) : ∀ w ∈ r.words, 32 ∉ w.cps.toList := by
  obtain ⟨n1, n2, n3, n4, n5, n6, n7, n8, n9⟩ := nob_lit
  intro w hw
  simp only [Ru.words, List.mem_cons, List.not_mem_nil, or_false] at hw
  rcases hw with rfl | rfl | rfl | rfl | rfl | rfl | rfl | rfl | rfl | rfl | rfl | rfl | rfl | rfl | rfl | rfl | rfl | rfl | rfl
  · exact n1
  · exact (nsg_ok h.need.1 h.need.2).b
  · exact n2
  · exact (nsg_ok h.of.1 h.of.2).b
  · exact n3
  · exact (nsg_ok h.base.1 h.base.2).b
  · exact n4
  · exact (nsg_ok h.more.1 h.more.2).b
  · exact n5
  · exact (nsg_ok h.most.1 h.most.2).b
  · exact n6
  · exact (nsg_ok h.calm.1 h.calm.2).b
  · exact n7
  · exact nob_back _
  · exact n8
  · exact nob_share h
  · exact nob_up _
  · exact n9
  · exact nob_hears _
theorem split_words (h : r.Tn) : splitS r.txt 32 = r.words := split_join one_blank (by simp [Ru.words]) (words_nob h)
theorem split_share (h : r.Tn) : splitS r.share 47 = [nS r.top, nS r.under] := by
  have e : r.share = joinT "/" [nS r.top, nS r.under] := str_ext (by
    unfold Ru.share
    rw [catS_l, catS_l, joinT_l]
    simp [TL.joinL])
  rw [e]
  refine split_join one_slash (by simp) fun w hw => ?_
  simp only [List.mem_cons, List.not_mem_nil, or_false] at hw
  rcases hw with rfl | rfl
  · exact (nsg_ok h.top.1 h.top.2).s
  · exact (nsg_ok h.under.1 h.under.2).s
theorem len_back (b : Bk) : b.s.length ≤ 5 := by cases b <;> decide +kernel
theorem len_hears (b : Hr) : b.s.length ≤ 5 := by cases b <;> decide +kernel
theorem len_up (b : Bool) : (upS b).length ≤ 4 := by cases b <;> decide +kernel
theorem len_lit : ("leave" : Str).length = 5 ∧ ("of" : Str).length = 2 ∧ ("out" : Str).length = 3 ∧ ("more" : Str).length = 4 ∧ ("most" : Str).length = 4 ∧ ("calm" : Str).length = 4 ∧ ("back" : Str).length = 4 ∧ ("share" : Str).length = 5 ∧ ("hears" : Str).length = 5 ∧ (" " : Str).length = 1 ∧ ("/" : Str).length = 1 := by decide +kernel
theorem len_nS {i : Int} (h : 0 ≤ i ∧ i < 100) : (nS i).length ≤ 2 := by rw [slen]; exact (nsg_ok h.1 h.2).l
theorem len_share (h : r.Tn) : r.share.length ≤ 5 := by
  have h1 := (nsg_ok h.top.1 h.top.2).l
  have h2 := (nsg_ok h.under.1 h.under.2).l
  rw [slen]
  unfold Ru.share
  rw [catS_l, catS_l, one_slash]
  simp only [List.length_append, List.length_singleton]
  generalize (nS r.top).cps.toList.length = x at *
  generalize (nS r.under).cps.toList.length = y at *
  omega
theorem sum19 {x1 x2 x3 x4 x5 x6 x7 x8 x9 x10 : Nat} (a1 : x1 ≤ 2) (a2 : x2 ≤ 2) (a3 : x3 ≤ 2) (a4 : x4 ≤ 2) (a5 : x5 ≤ 2) (a6 : x6 ≤ 2) (a7 : x7 ≤ 5) (a8 : x8 ≤ 5) (a9 : x9 ≤ 4) (b1 : x10 ≤ 5) : 5 + (x1 + (2 + (x2 + (3 + (x3 + (4 + (x4 + (4 + (x5 + (4 + (x6 + (4 + (x7 + (5 + (x8 + (x9 + (5 + (x10 + 0)))))))))))))))))) ≤ 90 := Nat.le_trans (Nat.add_le_add_left (Nat.add_le_add a1 (Nat.add_le_add_left (Nat.add_le_add a2 (Nat.add_le_add_left (Nat.add_le_add a3 (Nat.add_le_add_left (Nat.add_le_add a4 (Nat.add_le_add_left (Nat.add_le_add a5 (Nat.add_le_add_left (Nat.add_le_add a6 (Nat.add_le_add_left (Nat.add_le_add a7 (Nat.add_le_add_left (Nat.add_le_add a8 (Nat.add_le_add a9 (Nat.add_le_add_left (Nat.add_le_add b1 (Nat.le_refl 0)) _))) _)) _)) _)) _)) _)) _)) _)) _) (by decide)
theorem words_sum (h : r.Tn) : (r.words.map (·.length)).sum ≤ 90 := by
  obtain ⟨n1, n2, n3, n4, n5, n6, n7, n8, n9, n10, n11⟩ := len_lit
  simp only [Ru.words, List.map_cons, List.map_nil, List.sum_cons, List.sum_nil, n1, n2, n3, n4, n5, n6, n7, n8, n9]
  exact sum19 (len_nS h.need) (len_nS h.of) (len_nS h.base) (len_nS h.more) (len_nS h.most) (len_nS h.calm) (len_back r.back) (len_share h) (len_up r.up) (len_hears r.hears)
theorem txt_len (h : r.Tn) : r.txt.length ≤ 200 := by
  have h1 := joinL_len 32 (r.words.map fun y => y.cps.toList)
  have h2 := words_sum h
  rw [slen]
  unfold Ru.txt
  rw [joinT_l, one_blank]
  refine Nat.le_trans h1 ?_
  have e : ((r.words.map fun y => y.cps.toList).map fun w => w.length + 1) = r.words.map fun y => y.length + 1 := by
    rw [List.map_map]
    exact List.map_congr_left fun y _ => by simp [slen]
  rw [e]
  have e2 : ∀ l : List Str, (l.map fun y => y.length + 1).sum = (l.map (·.length)).sum + l.length := fun l => by
    induction l with
    | nil => rfl
    | cons a l ih => simp only [List.map_cons, List.sum_cons, ih, List.length_cons]; omega
  rw [e2]
  have e3 : r.words.length = 19 := rfl
  rw [e3]
  clear h1 e e2 e3
  generalize (r.words.map (·.length)).sum = x at *
  omega
theorem strOk_l (x : Str) : PyData.strOk x = x.cps.toList.all (· < 0x110000) := by
  cases x
  simp [PyData.strOk]
theorem strOk_cat {a b : Str} (ha : PyData.strOk a = true) (hb : PyData.strOk b = true) : PyData.strOk (catS a b) = true := by
  rw [strOk_l] at ha hb ⊢
  rw [catS_l, List.all_append, ha, hb]
  rfl
theorem ok_back (b : Bk) : PyData.strOk b.s = true := by cases b <;> decide +kernel
theorem ok_hears (b : Hr) : PyData.strOk b.s = true := by cases b <;> decide +kernel
theorem ok_up (b : Bool) : PyData.strOk (upS b) = true := by cases b <;> decide +kernel
theorem ok_lit : PyData.strOk "leave" = true ∧ PyData.strOk "of" = true ∧ PyData.strOk "out" = true ∧ PyData.strOk "more" = true ∧ PyData.strOk "most" = true ∧ PyData.strOk "calm" = true ∧ PyData.strOk "back" = true ∧ PyData.strOk "share" = true ∧ PyData.strOk "hears" = true ∧ PyData.strOk "/" = true := by decide +kernel
theorem words_strOk (h : r.Tn) : ∀ w ∈ r.words, PyData.strOk w = true := by
  obtain ⟨n1, n2, n3, n4, n5, n6, n7, n8, n9, n10⟩ := ok_lit
  intro w hw
  simp only [Ru.words, List.mem_cons, List.not_mem_nil, or_false] at hw
  rcases hw with rfl | rfl | rfl | rfl | rfl | rfl | rfl | rfl | rfl | rfl | rfl | rfl | rfl | rfl | rfl | rfl | rfl | rfl | rfl
  · exact n1
  · exact (nsg_ok h.need.1 h.need.2).ok
  · exact n2
  · exact (nsg_ok h.of.1 h.of.2).ok
  · exact n3
  · exact (nsg_ok h.base.1 h.base.2).ok
  · exact n4
  · exact (nsg_ok h.more.1 h.more.2).ok
  · exact n5
  · exact (nsg_ok h.most.1 h.most.2).ok
  · exact n6
  · exact (nsg_ok h.calm.1 h.calm.2).ok
  · exact n7
  · exact ok_back _
  · exact n8
  · exact strOk_cat (strOk_cat (nsg_ok h.top.1 h.top.2).ok n10) (nsg_ok h.under.1 h.under.2).ok
  · exact ok_up _
  · exact n9
  · exact ok_hears _
theorem pdL_strs : ∀ ws : List Str, pdL (ws.map D.str) = some (ws.map PyData.str)
  | [] => rfl
  | w :: ws => by rw [List.map_cons, pdL, pd, pdL_strs ws]; rfl
theorem pureL_strs : ∀ ws : List Str, pureL (ws.map D.str) = true
  | [] => rfl
  | w :: ws => by rw [List.map_cons, pureL, pureD, pureL_strs ws]; rfl
theorem lay_strs : ∀ ws : List Str, (∀ w ∈ ws, PyData.strOk w = true) → PyData.canLayAll0 (ws.map PyData.str) = true ∧ PyData.depthAll (ws.map PyData.str) ≤ 1
  | [], _ => ⟨rfl, by simp [PyData.depthAll]⟩
  | w :: ws, h => by
    obtain ⟨h1, h2⟩ := lay_strs ws fun u hu => h u (List.mem_cons_of_mem _ hu)
    have h3 := h w List.mem_cons_self
    refine ⟨by simp [PyData.canLayAll0, PyData.canLay0, h1, h3], ?_⟩
    simp only [List.map_cons, PyData.depthAll, PyData.depth]
    omega
theorem pdM_ls {ws : List Str} (h : ∀ w ∈ ws, PyData.strOk w = true) : pdM m (.lst (ws.map .str)) = some (.list (ws.map .str)) := by
  obtain ⟨h1, h2⟩ := lay_strs ws h
  have hd : (PyData.list (ws.map .str)).depth ≤ 64 := by simp only [PyData.depth]; omega
  exact pdM_pure (pureL_strs ws) (by rw [pd, pdL_strs]; rfl) (by simp [SeqAt.shaped, PyData.canLay0, h1, hd])
end
end L4

namespace L4
open PySem
/-! a text is read -/
section
variable {r : Ru} {m : M}
theorem pure1s {x : Str} : pureL [.str x] = true := rfl
theorem pure2si {x : Str} {i : Int} : pureL [.str x, .int i] = true := rfl
theorem pure1l {ws : List Str} : pureL [.lst (ws.map .str)] = true := by
  show (pureL (ws.map .str) && true) = true
  rw [pureL_strs]; rfl
theorem pureD_li {is : List Int} : pureD (.lst (is.map .int)) = true := pureL_ints is
theorem pureD_ls {ws : List Str} : pureD (.lst (ws.map .str)) = true := pureL_strs ws
theorem frz_p {x : D} (h : pureD x = true) : frz m x = some x := by unfold frz; rw [if_pos h]
theorem words_between_ok (a1 a2 a3 a4 a5 a6 a7 a8 : Str) (b : Bk) (h : Hr) : F_words_between [.lst ((["leave", a1, "of", a2, "out", a3, "more", a4, "most", a5, "calm", a6, "back", b.s, "share", a7, a8, "hears", h.s] : List Str).map .str)] = some (.lst ((["leave", a1, "of", a2, "out", a3, "more", a4, "most", a5, "calm", a6, "back", b.s, "share", a7, a8, "hears", h.s] : List Str).map .str)) := by
  have key : ∀ (b : Bk) (h : Hr), some (D.lst ((["leave", a1, "of", a2, "out", a3, "more", a4, "most", a5, "calm", a6, "back", b.s, "share", a7, a8, "hears", h.s] : List Str).map .str)) = F_words_between [.lst ((["leave", a1, "of", a2, "out", a3, "more", a4, "most", a5, "calm", a6, "back", b.s, "share", a7, a8, "hears", h.s] : List Str).map .str)] := by
    intro b h
    cases b <;> cases h <;> kernel_rfl
  exact (key b h).symm
theorem rounds_up (b : Bool) : tblGet tb_ROUNDS (.str (upS b)) = some (.bl b) ∧ (tb_ROUNDS.lookup (upS b)).isSome = true := by
  cases b <;> exact ⟨by kernel_rfl, by kernel_rfl⟩
theorem len19 : (r.words.map D.str).length = 19 := rfl
theorem seq_li {is : List Int} : seqD m (.lst (is.map .int)) = some (is.map .int) := rfl
theorem args_eq : (([r.need, r.of, r.base, r.more, r.most, r.calm] : List Int).map D.int) ++ (D.str r.back.s :: ((([r.top, r.under] : List Int).map D.int) ++ [D.bl r.up, D.str r.hears.s])) = r.args := rfl
theorem ne_words (h : r.Tn) : neD m (.lst (r.words.map .str)) (.lst (r.words.map .str)) = some (.bl false) := ne_same (pdM_ls (words_strOk h))
theorem args_pure : pureL r.args = true := rfl
local macro_rules | `(tactic| trivial) => `(tactic| (repeat (first | with_reducible refine WS.seq ?_ | with_reducible refine WS.nx ?_ | with_reducible refine WS.rt ?_ | with_reducible refine WS.asg ?_ | with_reducible refine WS.drop ?_ | with_reducible refine WS.ret ?_ | with_reducible refine WS.nop ?_ | with_reducible refine WS.retN ?_ | with_reducible refine WS.brk ?_ | with_reducible refine WS.cont ?_ | with_reducible refine WS.sif ?_ | with_reducible refine WS.par ?_ | with_reducible refine WG.setA ?_ | with_reducible refine WE.c ?_ | with_reducible refine WE.op ?_ | with_reducible refine WE.call ?_ | with_reducible refine WE.callM ?_ | with_reducible refine WE.un ?_ | with_reducible refine WE.tup ?_ | with_reducible refine WE.lst ?_ | with_reducible refine WE.newL ?_ | with_reducible refine WE.eif ?_ | with_reducible refine WE.sl ?_ | with_reducible refine WE.isN ?_ | with_reducible refine WE.notN ?_ | with_reducible refine WE.not ?_ | with_reducible refine WE.and ?_ | with_reducible refine WE.or ?_ | with_reducible refine WE.app ?_ | with_reducible refine WE.tupR ?_ | with_reducible refine WE.lisR ?_ | with_reducible refine WE.m1 ?_ | with_reducible refine WE.tbl ?_ | with_reducible refine WE.tblNin ?_ | with_reducible refine WE.chain ?_ | with_reducible refine WE.fldF ?_ | with_reducible refine WE.mth ?_ | with_reducible refine WE.disp ?_ | with_reducible refine WE.dicC ?_ | with_reducible refine WP.nil ?_ | with_reducible refine WP.cons ?_ | with_reducible refine WE.upd ?_ | with_reducible refine WA.nil ?_ | with_reducible refine WA.cons ?_ | with_reducible refine WA.star ?_ | with_reducible refine WO.no ?_ | with_reducible refine WO.yes ?_ | with_reducible refine WT.val ?_ | with_reducible refine WT.and ?_ | with_reducible refine WT.or ?_ | with_reducible refine WT.not ?_ | with_reducible refine WT.tt ?_ | with_reducible refine WI.it ?_ | with_reducible refine Kn.add_i ?_ | with_reducible refine Kn.sub ?_ | with_reducible refine Kn.neg ?_ | with_reducible refine Kn.eq_i ?_ | with_reducible refine Kn.ne_i ?_ | with_reducible refine Kn.lt ?_ | with_reducible refine Kn.le ?_ | with_reducible refine Kn.gt ?_ | with_reducible refine Kn.ge ?_ | with_reducible refine Kn.int_i ?_ | with_reducible refine Kn.int_b ?_ | with_reducible refine Kn.abs ?_ | with_reducible refine Kn.min2 ?_ | with_reducible refine Kn.max2 ?_ | with_reducible refine Kn.len_t ?_ | with_reducible refine Kn.len_l ?_ | with_reducible refine Kn.len_s ?_ | with_reducible refine Kn.tup_t ?_ | with_reducible refine Kn.tup_l ?_ | with_reducible refine Kn.lis_t ?_ | with_reducible refine Kn.lis_l ?_ | with_reducible refine Kn.seq_t ?_ | with_reducible refine Kn.seq_l ?_ | with_reducible refine Kn.it_t ?_ | with_reducible refine Kn.it_l ?_ | with_reducible refine Kn.it_s ?_ | with_reducible refine Kn.str_s ?_ | with_reducible refine Kn.sl_t ?_ | with_reducible refine Kn.sl_l ?_ | with_reducible refine Kn.sl_rt ?_ | with_reducible refine Kn.ix_rt1 ?_ | with_reducible refine Kn.ix_rt2 ?_ | with_reducible refine Kn.kx_need ?_ | with_reducible refine Kn.kx_of ?_ | with_reducible refine Kn.kx_base ?_ | with_reducible refine Kn.kx_more ?_ | with_reducible refine Kn.kx_most ?_ | with_reducible refine Kn.kx_calm ?_ | with_reducible refine Kn.kx_back ?_ | with_reducible refine Kn.kx_under ?_ | with_reducible refine Kn.kx_top ?_ | with_reducible refine Kn.kx_up ?_ | with_reducible refine Kn.kx_hears ?_ | with_reducible refine Fld.need ?_ | with_reducible refine Fld.of ?_ | with_reducible refine Fld.base ?_ | with_reducible refine Fld.more ?_ | with_reducible refine Fld.most ?_ | with_reducible refine Fld.calm ?_ | with_reducible refine Fld.back ?_ | with_reducible refine Fld.top ?_ | with_reducible refine Fld.under ?_ | with_reducible refine Fld.up ?_ | with_reducible refine Fld.hears ?_ | with_reducible refine Fld.cap ?_ | with_reducible refine Mth.time ?_ | ((with_reducible refine WG.nm ?_); dsimp only [setMany, List.set_cons_succ, List.set_cons_zero]) | ((with_reducible refine WG.one ?_); dsimp only [setMany, List.set_cons_succ, List.set_cons_zero]) | ((with_reducible refine WG.tup ?_ ?_); exact rfl; dsimp only [setMany, List.set_cons_succ, List.set_cons_zero]) | ((with_reducible apply WE.var); exact rfl) | ((with_reducible apply WS.aug); exact rfl) | ((with_reducible apply WE.newPL); exact rfl) | ((with_reducible refine WS.ite_t ?_ ?_); exact rfl) | ((with_reducible refine WS.ite_f ?_ ?_); exact rfl) | ((with_reducible refine WE.ite_t ?_ ?_); exact rfl) | ((with_reducible refine WE.ite_f ?_ ?_); exact rfl) | ((with_reducible refine w_and_t ?_ ?_); exact rfl) | ((with_reducible refine w_and_f ?_ ?_); exact rfl) | ((with_reducible refine w_or_t ?_ ?_); exact rfl) | ((with_reducible refine w_or_f ?_ ?_); exact rfl) | ((with_reducible refine Kn.fdiv ?_ ?_); exact ⟨by decide, by decide⟩) | ((with_reducible refine Kn.mod ?_ ?_); decide) | ((with_reducible refine And.intro (a := (_ && _) = true) ?_ ?_); exact rfl) | ((with_reducible refine And.intro (a := List.length _ = List.length _) ?_ ?_); exact rfl; dsimp only [setMany, List.set_cons_succ, List.set_cons_zero]) | ((with_reducible refine ⟨wsz ?_, ?_⟩); first | decide | (show (_ : Nat) ≤ 1000; simp only [List.length_cons, List.length_nil]; decide)) | with_reducible refine ⟨_, rfl, ?_⟩)))
/-- a list of numbers that are written -/
theorem numbers_ok (is : List Int) (hl : is.length ≤ 100) (h : ∀ i ∈ is, 0 ≤ i ∧ i < 100) : F_numbers_in [.lst ((is.map nS).map .str)] = some (.lst (is.map .int)) := by
  refine WS.runP (n := 3) (b := f_numbers_in) ?_ rfl
  show WS _ [some (.lst ((is.map nS).map .str)), none, none] [] _
  trivial
  refine WE.lcM (fun i : Int => .str (nS i)) (fun i => .int i) (xs := is) ?_ (by omega) (fun i hi => ?_) ?_
  · trivial
    exact ⟨by rw [List.map_map]; rfl, rfl⟩
  · dsimp only [List.set_cons_succ, List.set_cons_zero]
    trivial
    refine Kn.call pure2si (nin_ok (h i hi).1 (h i hi).2) ?_
    exact ⟨rfl, rfl⟩
  · trivial
    refine Kn.mk in_non ?_
    trivial
    exact frz_p pureD_li
theorem share_ok (h : r.Tn) : F_share_in [.str r.share] = some (.lst (([r.top, r.under] : List Int).map .int)) := by
  have hs := len_share h
  refine WS.runP (n := 2) (b := f_share_in) ?_ rfl
  show WS _ [some (.str r.share), none] [] _
  trivial
  refine Kn.split one_slash (by decide) (wsz (by omega)) (split_share h) ?_
  trivial
  refine Kn.call (pure1l (ws := [nS r.top, nS r.under])) (numbers_ok [r.top, r.under] (by show 2 ≤ 100; decide) fun i hi => ?_) ?_
  · simp only [List.mem_cons, List.not_mem_nil, or_false] at hi
    rcases hi with rfl | rfl
    · exact h.top
    · exact h.under
  trivial
  exact frz_p pureD_li
theorem read_ok (h : r.Tn) (hv : r.Va) : F_Rule_read [.glo "Rule", .str r.txt] = some r.d := by
  have hs := txt_len h
  refine WS.runP (n := 9) (b := f_Rule_read) ?_ rfl
  show WS _ [some (.glo "Rule"), some (.str r.txt), none, none, none, none, none, none, none] [] _
  trivial
  refine Kn.split one_blank (by decide) (wsz (by omega)) (split_words h) ?_
  trivial
  refine WE.lcM (fun i : Nat => .int (i : Nat)) (fun i => .str (r.words.getD i "")) (xs := [1, 3, 5, 7, 9, 11]) ?_ (by show 6 ≤ 1000000; decide) (fun i hi => ?_) ?_
  · trivial
    exact ⟨rfl, rfl⟩
  · dsimp only [List.set_cons_succ, List.set_cons_zero]
    trivial
    simp only [List.mem_cons, List.not_mem_nil, or_false] at hi
    rcases hi with rfl | rfl | rfl | rfl | rfl | rfl <;> exact Kn.ix_l rfl ⟨rfl, rfl⟩
  trivial
  refine Kn.call (pure1l (ws := ([1, 3, 5, 7, 9, 11] : List Nat).map fun i => r.words.getD i "")) (numbers_ok [r.need, r.of, r.base, r.more, r.most, r.calm] (by show 6 ≤ 100; decide) fun i hi => ?_) ?_
  · simp only [List.mem_cons, List.not_mem_nil, or_false] at hi
    rcases hi with rfl | rfl | rfl | rfl | rfl | rfl
    · exact h.need
    · exact h.of
    · exact h.base
    · exact h.more
    · exact h.most
    · exact h.calm
  trivial
  refine Kn.ix_l (i := 15) (d := .str r.share) rfl ?_
  trivial
  refine Kn.call pure1s (share_ok h) ?_
  trivial
  refine Kn.ix_l (i := 16) (d := .str (upS r.up)) rfl ?_
  trivial
  rw [(rounds_up r.up).2]
  trivial
  refine Kn.call (pure1l (ws := r.words)) (words_between_ok _ _ _ _ _ _ _ _ r.back r.hears) ?_
  refine Kn.mk (ne_words h) ?_
  trivial
  refine Kn.ix_l (i := 13) (d := .str r.back.s) rfl ?_
  trivial
  refine Kn.ix_l (i := 16) (d := .str (upS r.up)) rfl ?_
  refine Kn.mk (rounds_up r.up).1 ?_
  trivial
  refine Kn.ix_l (i := 18) (d := .str r.hears.s) rfl ?_
  trivial
  refine Kn.mk (new_ok hv) ?_
  trivial
  exact frz_p ru_pure
end
end L4

namespace L4
open PySem
/-! draws of the family deal, draw, pick -/
def isT : Option D → Bool
  | some (.bl true) => true
  | _ => false
theorem isT_eq {o : Option D} (h : true = (isT o == true)) : o = some (.bl true) := by
  have h := eq_of_beq h.symm
  unfold isT at h
  split at h
  · rfl
  · cases h
theorem pure_ints : ∀ ns : List Int, pureL (ns.map D.int) = true
  | [] => rfl
  | n :: ns => by simp [pureL, pureD, pure_ints ns]
theorem cut_ints (ns : List Int) (lo hi : Option Int) : ∃ ms : List Int, cutD (ns.map D.int) lo hi = ms.map D.int ∧ ms.length ≤ ns.length := by
  refine ⟨(ns.drop (HT.sIx ns.length 0 lo)).take (HT.sIx ns.length ns.length hi - HT.sIx ns.length 0 lo), ?_, ?_⟩
  · unfold cutD
    rw [List.length_map, ← List.map_drop, ← List.map_take]
  · simp; omega
abbrev dKS : List D := [.str "great", .str "now", .str "mixed", .str "turn"]
abbrev dSt (gs : List Int) (a b c : Int) (rest : M) : M := .lst (gs.map D.int) :: .dic dKS [.ref 0, .int a, .int b, .int c] :: rest
section
variable {gs : List Int} {a b c k : Int} {rest : M} {d : D}
theorem dx_great : ixA (dSt gs a b c rest) (.ref 1) (.str "great") = some (.ref 0) := by kernel_rfl
theorem dx_now : ixA (dSt gs a b c rest) (.ref 1) (.str "now") = some (.int a) := by kernel_rfl
theorem dx_mixed : ixA (dSt gs a b c rest) (.ref 1) (.str "mixed") = some (.int b) := by kernel_rfl
theorem dx_turn : ixA (dSt gs a b c rest) (.ref 1) (.str "turn") = some (.int c) := by kernel_rfl
theorem ds_now : setM (dSt gs a b c rest) (.ref 1) (.str "now") (.int k) = some (dSt gs k b c rest) := by kernel_rfl
theorem ds_mixed : setM (dSt gs a b c rest) (.ref 1) (.str "mixed") (.int k) = some (dSt gs a k c rest) := by kernel_rfl
theorem ds_turn : setM (dSt gs a b c rest) (.ref 1) (.str "turn") (.int k) = some (dSt gs a b k rest) := by kernel_rfl
theorem dl_great {m : M} : lenD (.lst (gs.map D.int) :: m) [.ref 0] = some (.int gs.length) := by simp [lenD, lstR, lstOf, lstO]
theorem dr_while {k : Option D} {x y z : Option D} (ha : 0 ≤ a) (hg : ∀ g ∈ gs, 0 ≤ g) : ∀ n : Nat, gs.length < n → ∃ (gs' : List Int) (a' : Int), 0 ≤ a' ∧ (∀ g ∈ gs', 0 ≤ g) ∧ gs'.length ≤ gs.length ∧
    sWhile n (tAnd (tVal (eOp eqD (eOp ixA (eVar 0) (eC (.str "now"))) (eC (.int 0)))) (tVal (eOp gtD (eCall lenD (aCons (eOp ixA (eVar 0) (eC (.str "great"))) (aNil))) (eC (.int 0))))) f__law_draw_1 [some (.ref 1), k, x, y, z] (dSt gs a b c rest) = some (.nx [some (.ref 1), k, x, y, z], dSt gs' a' b c rest) := by
  intro n
  induction n generalizing gs a with
  | zero => intro h; omega
  | succ n ih =>
    intro hn
    by_cases h0 : a = 0
    · subst h0
      cases hgs : gs.reverse with
      | nil =>
        have : gs = [] := by simpa using hgs
        subst this
        refine ⟨[], 0, by omega, by simp, by simp, ?_⟩
        simp [sWhile, tAnd, tVal, eOp, eVar, eC, eCall, aCons, aNil, dx_now, dx_great, eq_int, dl_great, gtD]
      | cons g r =>
        have e : gs = r.reverse ++ [g] := by
          have := congrArg List.reverse hgs
          simpa using this
        subst e
        have h1 : ∀ g' ∈ r.reverse, 0 ≤ g' := fun g' h => hg g' (List.mem_append_left _ h)
        have h2 : 0 ≤ g := hg g (by simp)
        obtain ⟨gs', a', q1, q2, q3, q4⟩ := ih (gs := r.reverse) (a := g) h2 h1 (by simp at hn ⊢; omega)
        refine ⟨gs', a', q1, q2, by simp at q3 ⊢; omega, ?_⟩
        unfold sWhile
        have hc : (tAnd (tVal (eOp eqD (eOp ixA (eVar 0) (eC (.str "now"))) (eC (.int 0)))) (tVal (eOp gtD (eCall lenD (aCons (eOp ixA (eVar 0) (eC (.str "great"))) (aNil))) (eC (.int 0)))))
            [some (.ref 1), k, x, y, z] (dSt (r.reverse ++ [g]) 0 b c rest) = some (true, dSt (r.reverse ++ [g]) 0 b c rest) := by
          have hl : (0 : Int) < ((r.reverse ++ [g]).length : Int) := by
            rw [List.length_append, List.length_singleton]; omega
          simp only [tAnd, tVal, eOp, eVar, eC, eCall, aCons, aNil, List.getD_cons_zero, pu_go, bd_go, dx_now, dx_great, eq_int, dl_great, gtD]
          simp [hl]
        have hb : f__law_draw_1 [some (.ref 1), k, x, y, z] (dSt (r.reverse ++ [g]) 0 b c rest) = some (.nx [some (.ref 1), k, x, y, z], dSt r.reverse g b c rest) := by
          have hp : popL ((r.reverse ++ [g]).map D.int) [] = some (.int g, r.reverse.map D.int) := by simp [popL]
          simp only [f__law_draw_1, sAsg, eLm0, eOp, eVar, eC, aNil, List.getD_cons_zero, pu_go, bd_go, dx_great, List.getElem?_cons_zero, hp, List.set_cons_zero, gSetA, Option.map_some, Option.bind_some, lstO]
          rw [show (O.lst (List.map D.int r.reverse) :: O.dic dKS [.ref 0, .int 0, .int b, .int c] :: rest : M) = dSt r.reverse 0 b c rest from rfl, ds_now]
          rfl
        simp only [hc, bd_go, if_true, hb, q4]
    · refine ⟨gs, a, ha, hg, Nat.le_refl _, ?_⟩
      have : (a == 0) = false := by simpa using h0
      simp [sWhile, tAnd, tVal, eOp, eVar, eC, dx_now, eq_int, this]
theorem draw_ok (ha : 0 ≤ a) (hg : ∀ g ∈ gs, 0 ≤ g) (hl : gs.length < 1000) (h1 : 1 ≤ k) (h2 : k < 1073741824) : ∃ (r : Int) (gs' : List Int) (a' b' c' : Int), 0 ≤ r ∧ r < k ∧ 0 ≤ a' ∧ (∀ g ∈ gs', 0 ≤ g) ∧ gs'.length ≤ gs.length ∧
    F__law_draw [.ref 1, .int k] (dSt gs a b c rest) = some (.int r, dSt gs' a' b' c' rest) := by
  obtain ⟨gs1, a1, p1, p2, p3, p4⟩ := dr_while (b := b) (c := c) (rest := rest) (k := some (.int k)) (x := none) (y := none) (z := none) ha hg big (by unfold big; omega)
  have key : ∃ (r : Int) (a' b' c' : Int), 0 ≤ r ∧ r < k ∧ 0 ≤ a' ∧ f__law_draw_8 [some (.ref 1), some (.int k), none, none, none] (dSt gs1 a1 b c rest) = some (.rt (.int r), dSt gs1 a' b' c' rest) := by
    by_cases h : 0 < a1
    · refine ⟨a1 % k, a1 / k, b, c, Int.emod_nonneg _ (by omega), Int.emod_lt_of_pos _ (by omega), Int.ediv_nonneg p1 (by omega), ?_⟩
      have hk : 0 < k := by omega
      simp only [f__law_draw_8, f__law_draw_2, sSeq, sIf, tVal, sAsg, sRet, eOp, eVar, eC, eCall, aCons, aNil, gNm, gSetA, List.getD_cons_zero, List.getD_cons_succ, List.set_cons_succ, List.set_cons_zero, pu_go, bd_go, dx_now, gtD, h, decide_true, if_true, intD, modD, hk, fdivD, h2, and_self]
      rw [ds_now]
      rfl
    · have e0 : a1 = 0 := by omega
      subst e0
      let f : Int := (b * 48271 + (c + 1) * 69621) % 2147483629
      let s : Int := (f * f + (c + 1) * 7919) % 2147483563
      have f1 : 0 ≤ f := Int.emod_nonneg _ (by decide)
      have f2 : f < 2147483629 := Int.emod_lt_of_pos _ (by decide)
      refine ⟨(s / 4096 + f) % k, 0, (s * 40692 + f) % 2147483647 + 1, c + 1, Int.emod_nonneg _ (by omega), Int.emod_lt_of_pos _ (by omega), by omega, ?_⟩
      have hk : 0 < k := by omega
      have hm : ∀ i j : Int, (-(2 ^ 64) < j ∧ j < 2 ^ 64) → mulD (dSt gs1 0 b (c + 1) rest) (.int i) (.int j) = some (.int (i * j)) := fun i j h => by
        simp only [mulD]
        rw [if_pos (Or.inr h)]
      have hm0 : ∀ i j : Int, (-(2 ^ 64) < j ∧ j < 2 ^ 64) → mulD (dSt gs1 0 ((s * 40692 + f) % 2147483647 + 1) (c + 1) rest) (.int i) (.int j) = some (.int (i * j)) := fun i j h => by
        simp only [mulD]
        rw [if_pos (Or.inr h)]
      have st7 : f__law_draw_8 [some (.ref 1), some (.int k), none, none, none] (dSt gs1 0 b c rest) = f__law_draw_6 [some (.ref 1), some (.int k), none, none, none] (dSt gs1 0 b (c + 1) rest) := by
        simp only [f__law_draw_8, f__law_draw_7, sSeq, sIf, tVal, sAsg, sNop, eOp, eVar, eC, gSetA, List.getD_cons_zero, pu_go, bd_go, dx_now, gtD, Int.lt_irrefl, decide_false, Bool.false_eq_true, if_false, dx_turn, addD]
        rw [ds_turn]
        rfl
      have st6 : f__law_draw_6 [some (.ref 1), some (.int k), none, none, none] (dSt gs1 0 b (c + 1) rest) = f__law_draw_5 [some (.ref 1), some (.int k), none, some (.int f), none] (dSt gs1 0 b (c + 1) rest) := by
        simp only [f__law_draw_6, sSeq, sAsg, eOp, eVar, eC, eCall, aCons, aNil, gNm, List.getD_cons_zero, pu_go, bd_go, dx_mixed, dx_turn, hm _ 48271 (by decide), hm _ 69621 (by decide), addD, intD, modD]
        rw [if_pos (by decide)]
        rfl
      have st5 : f__law_draw_5 [some (.ref 1), some (.int k), none, some (.int f), none] (dSt gs1 0 b (c + 1) rest) = f__law_draw_4 [some (.ref 1), some (.int k), none, some (.int f), some (.int s)] (dSt gs1 0 b (c + 1) rest) := by
        simp only [f__law_draw_5, sSeq, sAsg, eOp, eVar, eC, eCall, aCons, aNil, gNm, List.getD_cons_zero, List.getD_cons_succ, pu_go, bd_go, dx_turn, hm _ f ⟨by omega, by omega⟩, hm _ 7919 (by decide), addD, intD, modD]
        rw [if_pos (by decide)]
        rfl
      have st4 : f__law_draw_4 [some (.ref 1), some (.int k), none, some (.int f), some (.int s)] (dSt gs1 0 b (c + 1) rest) = f__law_draw_3 [some (.ref 1), some (.int k), none, some (.int f), some (.int s)] (dSt gs1 0 ((s * 40692 + f) % 2147483647 + 1) (c + 1) rest) := by
        simp only [f__law_draw_4, sSeq, sAsg, eOp, eVar, eC, eCall, aCons, aNil, gSetA, List.getD_cons_zero, List.getD_cons_succ, pu_go, bd_go, hm _ 40692 (by decide), addD, intD, modD]
        rw [if_pos (by decide)]
        simp only [pu_go, bd_go]
        rw [ds_mixed]
        rfl
      rw [st7, st6, st5, st4]
      simp only [f__law_draw_3, sRet, eOp, eVar, eC, eCall, aCons, aNil, List.getD_cons_zero, List.getD_cons_succ, pu_go, bd_go, fdivD, addD, intD, modD, hk, if_true]
      rw [if_pos (by decide)]
      simp only [pu_go, bd_go, hk, if_true]
  obtain ⟨r, a', b', c', q1, q2, q3, q4⟩ := key
  refine ⟨r, gs1, a', b', c', q1, q2, q3, p2, p3, ?_⟩
  have e : f__law_draw (startD 5 [.ref 1, .int k]) (dSt gs a b c rest) = some (.rt (.int r), dSt gs1 a' b' c' rest) := by
    show bd (sWhile big _ f__law_draw_1 [some (.ref 1), some (.int k), none, none, none] (dSt gs a b c rest)) _ = _
    rw [p4]
    exact q4
  unfold F__law_draw runM
  rw [if_pos (by rfl), e]
  rfl
theorem deal_mix {xs : List Int} {s : D} {b e g : Option D} {m : M} : ∃ (r : Int) (c : Option D), forGo (gTgt (.one 2)) f__law_deal_1 (xs.map D.int) [some s, b, e, g, some (.int a), none] m = some (.nx [some s, b, c, g, some (.int r), none], m) := by
  obtain ⟨ρ', m', e', h1, r, c, h2⟩ := forGo_inv (f := gTgt (.one 2)) (b := f__law_deal_1) (fun _ ρ m' => m' = m ∧ ∃ (r : Int) (c : Option D), ρ = [some s, b, c, g, some (.int r), none]) (xs.map D.int) 0 [some s, b, e, g, some (.int a), none] m ⟨rfl, a, e, rfl⟩ (by
    rintro j x ρ m' hx ⟨rfl, r, c, rfl⟩
    rw [List.getElem?_map] at hx
    obtain ⟨i, hi, rfl⟩ := Option.map_eq_some_iff.mp hx
    refine ⟨_, _, rfl, ?_⟩
    refine ⟨.nx [some s, b, some (.int i), g, some (.int ((r * 16807 + i) % 2147483647)), none], m', ?_, _, .inl rfl, rfl, _, _, rfl⟩
    simp [f__law_deal_1, sAsg, gNm, eOp, eCall, eVar, eC, aCons, aNil, setMany, Tgt.is, modD, intD, addD, mulD, pu])
  subst h1 h2
  exact ⟨r, c, e'⟩
theorem deal_abs {ρ : Ss} {m : M} (hρ : 2 < ρ.length) : ∀ ms : List Int, compGo (.one 2) tTrue (eCall absD (aCons (eVar 2) (aNil))) ρ (ms.map D.int) m = some ((ms.map fun i => if i < 0 then -i else i).map D.int, m)
  | [] => rfl
  | i :: ms => by
    have e1 : (setMany ρ [2] [D.int i]).getD 2 none = some (.int i) := by simp [setMany, hρ]
    simp only [List.map_cons, compGo, Tgt.un, Tgt.is, tTrue, bd_go, if_true, eCall, aCons, aNil, eVar, e1, pu_go, absD, deal_abs hρ ms]
theorem deal_great {ρ : Ss} {m : M} (hρ : 2 < ρ.length) : ∀ ms : List Int, ∃ gs : List Int, (∀ g ∈ gs, 0 ≤ g) ∧ gs.length ≤ ms.length ∧ compGo (.one 2) (tVal (eOp geD (eVar 2) (eOp powD (eC (.int 10)) (eC (.int 18))))) (eVar 2) ρ (ms.map D.int) m = some (gs.map D.int, m)
  | [] => ⟨[], by simp, by simp, rfl⟩
  | i :: ms => by
    obtain ⟨gs, h1, h2, h3⟩ := deal_great (ρ := ρ) (m := m) hρ ms
    have e1 : (setMany ρ [2] [D.int i]).getD 2 none = some (.int i) := by simp [setMany, hρ]
    by_cases hi : i ≥ 1000000000000000000
    · refine ⟨i :: gs, fun g hg => ?_, by simp; omega, ?_⟩
      · rcases List.mem_cons.mp hg with rfl | hg
        · omega
        · exact h1 g hg
      · simp only [List.map_cons, compGo, Tgt.un, Tgt.is, tVal, eOp, eVar, eC, e1, pu_go, bd_go, pow18, geD, h3, if_true, decide_eq_true hi]
    · refine ⟨gs, h1, by simp; omega, ?_⟩
      simp only [List.map_cons, compGo, Tgt.un, Tgt.is, tVal, eOp, eVar, eC, e1, pu_go, bd_go, pow18, geD, h3, decide_eq_false hi, Bool.false_eq_true, if_false]
theorem deal_ok (ns : List Int) (hn : ns.length ≤ 63) (b0 : Int) : ∃ (gs : List Int) (b : Int), (∀ g ∈ gs, 0 ≤ g) ∧ gs.length < 1000 ∧ F__law_deal [.scr (ns.map D.int), .int b0] [] = some (.ref 1, dSt gs 0 b 0 []) := by
  obtain ⟨ms, hms, hml⟩ := cut_ints ns (some b0) (some 63)
  let xs := ms.map fun i => if i < 0 then -i else i
  obtain ⟨r, c, hmix⟩ := deal_mix (a := 15485863 + b0) (xs := xs) (s := .scr (ns.map D.int)) (b := some (.int b0)) (e := none) (g := some (.lst (xs.map D.int))) (m := [])
  obtain ⟨gs, g1, g2, g3⟩ := deal_great (ρ := [some (.scr (ns.map D.int)), some (.int b0), c, some (.lst (xs.map D.int)), some (.int r), none]) (m := []) (by simp) xs
  have hxl : xs.length = ms.length := by simp [xs]
  refine ⟨gs.reverse, r + 1, fun g hg => g1 g (by simpa using hg), by simp; omega, ?_⟩
  have e1 : f__law_deal (startD 6 [.scr (ns.map D.int), .int b0]) [] = f__law_deal_5 [some (.scr (ns.map D.int)), some (.int b0), none, some (.lst (xs.map D.int)), none, none] [] := by
    have hz : (ms.map D.int).length ≤ 1000000 := by simp; omega
    have ha := deal_abs (ρ := [some (.scr (ns.map D.int)), some (.int b0), none, none, none, none]) (m := []) (by simp) ms
    simp only [f__law_deal, sSeq, sAsg, eLcK, iIt, eSl, oYes, eVar, eC, startD, List.map, List.length_cons, List.length_nil, List.replicate, List.cons_append, List.nil_append, List.getD_cons_zero, List.getD_cons_succ, pu_go, bd_go, slD, lstR, Option.map_some, hms, items, hz, if_true, ha, cond_false, gNm, List.set_cons_succ, List.set_cons_zero]
    rfl
  have e2 : f__law_deal_5 [some (.scr (ns.map D.int)), some (.int b0), none, some (.lst (xs.map D.int)), none, none] [] = f__law_deal_3 [some (.scr (ns.map D.int)), some (.int b0), c, some (.lst (xs.map D.int)), some (.int r), none] [] := by
    simp only [f__law_deal_5, f__law_deal_4, sSeq, sAsg, sForA, eOp, eVar, eC, gNm, List.getD_cons_zero, List.getD_cons_succ, List.set_cons_succ, List.set_cons_zero, pu_go, bd_go, addD, items, hmix]
  have e3 : f__law_deal_3 [some (.scr (ns.map D.int)), some (.int b0), c, some (.lst (xs.map D.int)), some (.int r), none] [] = some (.rt (.ref 1), dSt gs.reverse 0 (r + 1) 0 []) := by
    have hz : (xs.map D.int).length ≤ 1000000 := by simp [hxl]; omega
    have hf : ∀ a b c d : D, (([(D.str "great", a), (D.str "now", b), (D.str "mixed", c), (D.str "turn", d)] : List (D × D)).all fun q => isFlat q.1) && decide (4 ≤ 15) = true := fun a b c d => rfl
    have hmg : ∀ a b c d : D, mergeD [(D.str "great", a), (D.str "now", b), (D.str "mixed", c), (D.str "turn", d)] ([], []) = (dKS, [a, b, c, d]) := fun a b c d => by kernel_rfl
    simp only [f__law_deal_3, f__law_deal_2, sSeq, sAsg, sRet, eLcK, iIt, eVar, eC, gNm, List.getD_cons_zero, List.getD_cons_succ, List.set_cons_succ, List.set_cons_zero, pu_go, bd_go, items, hz, if_true, g3, cond_false, eDisp, pairsF, eRev, lstR, lstOf, cond_true, eOp, addD, List.nil_append, List.length_nil, List.map_reverse, hmg]
    rw [if_pos (by rfl)]
    simp
  unfold F__law_deal runM
  rw [if_pos (by rfl), e1, e2, e3]
  rfl
end
end L4

namespace L4
open PySem
/-! family A: draws in walks -/
section
variable {m : M} {rest : M} {Q : D → M → Prop}
def AX (rest m : M) : Prop := ∃ gs a b c, m = dSt gs a b c rest ∧ 0 ≤ a ∧ (∀ g ∈ gs, 0 ≤ g) ∧ gs.length < 1000
theorem deal_a (ns : List Int) (hn : ns.length ≤ 63) (b0 : Int) (q : ∀ m', AX [] m' → Q (.ref 1) m') : Wr (F__law_deal [.scr (ns.map D.int), .int b0] []) Q := by
  obtain ⟨gs, b, h1, h2, e⟩ := deal_ok ns hn b0
  exact ⟨_, _, e, q _ ⟨gs, 0, b, 0, rfl, Int.le_refl 0, h1, h2⟩⟩
theorem draw_a (h : AX rest m) {k : Int} (h1 : 1 ≤ k) (h2 : k < 1073741824) (q : ∀ (r : Int) m', 0 ≤ r → r < k → AX rest m' → Q (.int r) m') : Wr (F__law_draw [.ref 1, .int k] m) Q := by
  obtain ⟨gs, a, b, c, rfl, ha, hg, hl⟩ := h
  obtain ⟨r, gs', a', b', c', k1, k2, k3, k4, k5, e⟩ := draw_ok (b := b) (c := c) (rest := rest) ha hg hl h1 h2
  exact ⟨_, _, e, q r _ k1 k2 ⟨gs', a', b', c', rfl, k3, k4, by omega⟩⟩
local macro_rules | `(tactic| trivial) => `(tactic| (repeat (first | with_reducible refine WS.seq ?_ | with_reducible refine WS.nx ?_ | with_reducible refine WS.rt ?_ | with_reducible refine WS.asg ?_ | with_reducible refine WS.drop ?_ | with_reducible refine WS.ret ?_ | with_reducible refine WS.nop ?_ | with_reducible refine WS.retN ?_ | with_reducible refine WS.brk ?_ | with_reducible refine WS.cont ?_ | with_reducible refine WS.sif ?_ | with_reducible refine WS.par ?_ | with_reducible refine WG.setA ?_ | with_reducible refine WE.c ?_ | with_reducible refine WE.op ?_ | with_reducible refine WE.call ?_ | with_reducible refine WE.callM ?_ | with_reducible refine WE.un ?_ | with_reducible refine WE.tup ?_ | with_reducible refine WE.lst ?_ | with_reducible refine WE.newL ?_ | with_reducible refine WE.eif ?_ | with_reducible refine WE.sl ?_ | with_reducible refine WE.isN ?_ | with_reducible refine WE.notN ?_ | with_reducible refine WE.not ?_ | with_reducible refine WE.and ?_ | with_reducible refine WE.or ?_ | with_reducible refine WE.app ?_ | with_reducible refine WE.tupR ?_ | with_reducible refine WE.lisR ?_ | with_reducible refine WE.m1 ?_ | with_reducible refine WE.tbl ?_ | with_reducible refine WE.tblNin ?_ | with_reducible refine WE.chain ?_ | with_reducible refine WE.fldF ?_ | with_reducible refine WE.mth ?_ | with_reducible refine WE.disp ?_ | with_reducible refine WE.dicC ?_ | with_reducible refine WP.nil ?_ | with_reducible refine WP.cons ?_ | with_reducible refine WE.upd ?_ | with_reducible refine WA.nil ?_ | with_reducible refine WA.cons ?_ | with_reducible refine WA.star ?_ | with_reducible refine WO.no ?_ | with_reducible refine WO.yes ?_ | with_reducible refine WT.val ?_ | with_reducible refine WT.and ?_ | with_reducible refine WT.or ?_ | with_reducible refine WT.not ?_ | with_reducible refine WT.tt ?_ | with_reducible refine WI.it ?_ | with_reducible refine Kn.add_i ?_ | with_reducible refine Kn.sub ?_ | with_reducible refine Kn.neg ?_ | with_reducible refine Kn.eq_i ?_ | with_reducible refine Kn.ne_i ?_ | with_reducible refine Kn.lt ?_ | with_reducible refine Kn.le ?_ | with_reducible refine Kn.gt ?_ | with_reducible refine Kn.ge ?_ | with_reducible refine Kn.int_i ?_ | with_reducible refine Kn.int_b ?_ | with_reducible refine Kn.abs ?_ | with_reducible refine Kn.min2 ?_ | with_reducible refine Kn.max2 ?_ | with_reducible refine Kn.len_t ?_ | with_reducible refine Kn.len_l ?_ | with_reducible refine Kn.len_s ?_ | with_reducible refine Kn.tup_t ?_ | with_reducible refine Kn.tup_l ?_ | with_reducible refine Kn.lis_t ?_ | with_reducible refine Kn.lis_l ?_ | with_reducible refine Kn.seq_t ?_ | with_reducible refine Kn.seq_l ?_ | with_reducible refine Kn.it_t ?_ | with_reducible refine Kn.it_l ?_ | with_reducible refine Kn.it_s ?_ | with_reducible refine Kn.str_s ?_ | with_reducible refine Kn.sl_t ?_ | with_reducible refine Kn.sl_l ?_ | with_reducible refine Kn.sl_rt ?_ | with_reducible refine Kn.ix_rt1 ?_ | with_reducible refine Kn.ix_rt2 ?_ | with_reducible refine Kn.kx_need ?_ | with_reducible refine Kn.kx_of ?_ | with_reducible refine Kn.kx_base ?_ | with_reducible refine Kn.kx_more ?_ | with_reducible refine Kn.kx_most ?_ | with_reducible refine Kn.kx_calm ?_ | with_reducible refine Kn.kx_back ?_ | with_reducible refine Kn.kx_under ?_ | with_reducible refine Kn.kx_top ?_ | with_reducible refine Kn.kx_up ?_ | with_reducible refine Kn.kx_hears ?_ | with_reducible refine Fld.need ?_ | with_reducible refine Fld.of ?_ | with_reducible refine Fld.base ?_ | with_reducible refine Fld.more ?_ | with_reducible refine Fld.most ?_ | with_reducible refine Fld.calm ?_ | with_reducible refine Fld.back ?_ | with_reducible refine Fld.top ?_ | with_reducible refine Fld.under ?_ | with_reducible refine Fld.up ?_ | with_reducible refine Fld.hears ?_ | with_reducible refine Fld.cap ?_ | with_reducible refine Mth.time ?_ | ((with_reducible refine WG.nm ?_); dsimp only [setMany, List.set_cons_succ, List.set_cons_zero]) | ((with_reducible refine WG.one ?_); dsimp only [setMany, List.set_cons_succ, List.set_cons_zero]) | ((with_reducible refine WG.tup ?_ ?_); exact rfl; dsimp only [setMany, List.set_cons_succ, List.set_cons_zero]) | ((with_reducible apply WE.var); exact rfl) | ((with_reducible apply WS.aug); exact rfl) | ((with_reducible apply WE.newPL); exact rfl) | ((with_reducible refine WS.ite_t ?_ ?_); exact rfl) | ((with_reducible refine WS.ite_f ?_ ?_); exact rfl) | ((with_reducible refine WE.ite_t ?_ ?_); exact rfl) | ((with_reducible refine WE.ite_f ?_ ?_); exact rfl) | ((with_reducible refine w_and_t ?_ ?_); exact rfl) | ((with_reducible refine w_and_f ?_ ?_); exact rfl) | ((with_reducible refine w_or_t ?_ ?_); exact rfl) | ((with_reducible refine w_or_f ?_ ?_); exact rfl) | ((with_reducible refine Kn.fdiv ?_ ?_); exact ⟨by decide, by decide⟩) | ((with_reducible refine Kn.mod ?_ ?_); decide) | ((with_reducible refine And.intro (a := (_ && _) = true) ?_ ?_); exact rfl) | ((with_reducible refine And.intro (a := List.length _ = List.length _) ?_ ?_); exact rfl; dsimp only [setMany, List.set_cons_succ, List.set_cons_zero]) | ((with_reducible refine ⟨wsz ?_, ?_⟩); first | decide | (show (_ : Nat) ≤ 1000; simp only [List.length_cons, List.length_nil]; decide)) | with_reducible refine ⟨_, rfl, ?_⟩)))
theorem pick_a (h : AX rest m) {ds : List D} (h1 : 1 ≤ ds.length) (h2 : ds.length < 1000) (q : ∀ d m', d ∈ ds → AX rest m' → Q d m') : Wr (F__law_pick [.ref 1, .lst ds] m) Q := by
  refine WS.runM (b := f__law_pick) (n := 2) ?_ rfl
  show WS _ [some (.ref 1), some (.lst ds)] m _
  trivial
  refine draw_a h (by omega) (by omega) fun r m' r0 r1 h => ?_
  obtain ⟨j, rfl⟩ := Int.eq_ofNat_of_zero_le r0
  have hj : j < ds.length := by omega
  refine Kn.ix_l (i := j) (List.getElem?_eq_getElem hj) ?_
  trivial
  exact .inl ⟨_, rfl, q _ _ (List.getElem_mem hj) h⟩
end
end L4

namespace L4
open PySem
/-! fields of a rule, in walks -/
section
variable {m : M} {r : Ru} {Q : D → Prop}
theorem Fld.need (q : Q (.int r.need)) : Fld m r.d ["Rule"] "need" Q := ⟨_, _, _, _, ru_ins, ru_c1, ru_need, q⟩
theorem Fld.of (q : Q (.int r.of)) : Fld m r.d ["Rule"] "of" Q := ⟨_, _, _, _, ru_ins, ru_c1, ru_of, q⟩
theorem Fld.base (q : Q (.int r.base)) : Fld m r.d ["Rule"] "base" Q := ⟨_, _, _, _, ru_ins, ru_c1, ru_base, q⟩
theorem Fld.more (q : Q (.int r.more)) : Fld m r.d ["Rule"] "more" Q := ⟨_, _, _, _, ru_ins, ru_c1, ru_more, q⟩
theorem Fld.most (q : Q (.int r.most)) : Fld m r.d ["Rule"] "most" Q := ⟨_, _, _, _, ru_ins, ru_c1, ru_most, q⟩
theorem Fld.calm (q : Q (.int r.calm)) : Fld m r.d ["Rule"] "calm" Q := ⟨_, _, _, _, ru_ins, ru_c1, ru_calm, q⟩
theorem Fld.back (q : Q (.str r.back.s)) : Fld m r.d ["Rule"] "back" Q := ⟨_, _, _, _, ru_ins, ru_c1, ru_back, q⟩
theorem Fld.top (q : Q (.int r.top)) : Fld m r.d ["Rule"] "top" Q := ⟨_, _, _, _, ru_ins, ru_c1, ru_top, q⟩
theorem Fld.under (q : Q (.int r.under)) : Fld m r.d ["Rule"] "under" Q := ⟨_, _, _, _, ru_ins, ru_c1, ru_under, q⟩
theorem Fld.up (q : Q (.bl r.up)) : Fld m r.d ["Rule"] "up" Q := ⟨_, _, _, _, ru_ins, ru_c1, ru_up, q⟩
theorem Fld.hears (q : Q (.str r.hears.s)) : Fld m r.d ["Rule"] "hears" Q := ⟨_, _, _, _, ru_ins, ru_c1, ru_hears, q⟩
theorem Fld.cap (q : Q (.int r.cap)) : Fld m r.d ["Rule"] "cap" Q := ⟨_, _, _, _, ru_ins, ru_c1, ru_cap, q⟩
theorem Mth.time {P : List Str → List D → Prop} (q : P ruNames r.vals) : ∃ ns vs, insOf m r.d = some (("Rule" : Str), ns, vs) ∧ ns.contains "time" = false ∧ P ns vs := ⟨_, _, ru_ins, ru_ntime, q⟩
end
end L4

namespace L4
open PySem
/-! str(rule), rule == rule -/
section
variable {m : M} {ρ : Ss} {r q : Ru}
/-- parts of an f-string, one after another -/
inductive JW (ρ : Ss) (m : M) : List EF → List Str → Prop where
  | nil : JW ρ m [] []
  | cons {f : EF} {w : Str} {fs : List EF} {ws : List Str} (h : f ρ m = some (.str w, m)) (t : JW ρ m fs ws) : JW ρ m (f :: fs) (w :: ws)
def lsum (ws : List Str) : Nat := (ws.map fun w => w.cps.toList.length).sum
theorem join_all {fs : List EF} {ws : List Str} (h : JW ρ m fs ws) : ∀ acc : Str, acc.cps.toList.length + lsum ws ≤ 1000 → joinF fs acc ρ m = some (.str (ws.foldl catS acc), m) := by
  induction h with
  | nil => exact fun acc _ => rfl
  | @cons f w fs ws h t ih =>
    intro acc hl
    have e : (catS acc w).cps.toList.length = acc.cps.toList.length + w.cps.toList.length := by rw [catS_l, List.length_append]
    have hs : lsum (w :: ws) = w.cps.toList.length + lsum ws := rfl
    show bd (f ρ m) _ = _
    rw [h]
    show (if (catS acc w).length ≤ sizeLine then joinF fs (catS acc w) ρ m else none) = _
    rw [if_pos (wsz (by rw [slen]; omega))]
    exact ih (catS acc w) (by omega)
theorem fold_l (ws : List Str) : ∀ acc : Str, (ws.foldl catS acc).cps.toList = acc.cps.toList ++ (ws.map fun w => w.cps.toList).flatten := by
  induction ws with
  | nil => intro acc; simp
  | cons w ws ih => intro acc; rw [List.foldl_cons, ih, catS_l, List.map_cons, List.flatten_cons, List.append_assoc]
theorem fmt_n {e : EF} {i : Int} (h : e ρ m = some (.int i, m)) (h0 : 0 ≤ i ∧ i < 100) : eFmt e ρ m = some (.str (nS i), m) := by
  have hz : i.natAbs.log2 < 1920 := by
    have : i.natAbs.log2 ≤ i.natAbs := Nat.log2_le_self _
    omega
  have e1 : fmtD (.int i) = some (nS i) := if_pos hz
  unfold eFmt
  rw [h]
  show pu ((fmtD (.int i)).map D.str) m = _
  rw [e1]
  rfl
theorem fmt_s {e : EF} {z : Str} (h : e ρ m = some (.str z, m)) (hz : z.length ≤ 1000) : eFmt e ρ m = some (.str z, m) := by
  have e1 : fmtD (.str z) = some z := if_pos (wsz hz)
  unfold eFmt
  rw [h]
  show pu ((fmtD (.str z)).map D.str) m = _
  rw [e1]
  rfl
def Ru.front (r : Ru) : List Str := ["leave ", nS r.need, " of ", nS r.of, " out ", nS r.base, " more ", nS r.more, " most ", nS r.most, " calm ", nS r.calm]
def Ru.rear (r : Ru) : List Str := [" back ", r.back.s, " share ", nS r.top, "/", nS r.under, " ", upS r.up, " hears ", r.hears.s]
theorem lit_l : ("leave " : Str).cps.toList = ("leave" : Str).cps.toList ++ [32] ∧ (" of " : Str).cps.toList = 32 :: (("of" : Str).cps.toList ++ [32]) ∧ (" out " : Str).cps.toList = 32 :: (("out" : Str).cps.toList ++ [32]) ∧ (" more " : Str).cps.toList = 32 :: (("more" : Str).cps.toList ++ [32]) ∧ (" most " : Str).cps.toList = 32 :: (("most" : Str).cps.toList ++ [32]) ∧ (" calm " : Str).cps.toList = 32 :: (("calm" : Str).cps.toList ++ [32]) ∧ (" back " : Str).cps.toList = 32 :: (("back" : Str).cps.toList ++ [32]) ∧ (" share " : Str).cps.toList = 32 :: (("share" : Str).cps.toList ++ [32]) ∧ (" hears " : Str).cps.toList = 32 :: (("hears" : Str).cps.toList ++ [32]) := by decide +kernel
theorem txt_parts : r.txt.cps.toList = (r.front.map fun w => w.cps.toList).flatten ++ (r.rear.map fun w => w.cps.toList).flatten := by
  obtain ⟨a1, a2, a3, a4, a5, a6, a7, a8, a9⟩ := lit_l
  unfold Ru.txt
  rw [joinT_l]
  simp only [Ru.words, Ru.front, Ru.rear, Ru.share, List.map_cons, List.map_nil, List.flatten_cons, List.flatten_nil, TL.joinL, one_blank, one_slash, a1, a2, a3, a4, a5, a6, a7, a8, a9, catS_l, List.append_assoc, List.cons_append, List.nil_append, List.append_nil]
theorem flat_len (ws : List Str) : (ws.map fun w => w.cps.toList).flatten.length = lsum ws := by
  rw [List.length_flatten, List.map_map]
  rfl
theorem part_len (h : r.Tn) : lsum r.front + lsum r.rear ≤ 200 := by
  have h1 := txt_len h
  rw [slen, txt_parts, List.length_append, flat_len, flat_len] at h1
  exact h1
theorem fld_ev {f : Str} {v : D} {t : Ss} (h : fldAt ruNames r.vals f = some v) : eFld ["Rule"] f (eVar 0) (some r.d :: t) m = some (v, m) := by
  simp only [eFld, eVar, List.getD_cons_zero, bd_go, pu_go, ru_ins, ru_c1, if_true, h]
theorem empty_l : Str.empty.cps.toList = [] := rfl
local macro_rules | `(tactic| trivial) => `(tactic| (repeat (first | with_reducible refine WS.seq ?_ | with_reducible refine WS.nx ?_ | with_reducible refine WS.rt ?_ | with_reducible refine WS.asg ?_ | with_reducible refine WS.drop ?_ | with_reducible refine WS.ret ?_ | with_reducible refine WS.nop ?_ | with_reducible refine WS.retN ?_ | with_reducible refine WS.brk ?_ | with_reducible refine WS.cont ?_ | with_reducible refine WS.sif ?_ | with_reducible refine WS.par ?_ | with_reducible refine WG.setA ?_ | with_reducible refine WE.c ?_ | with_reducible refine WE.op ?_ | with_reducible refine WE.call ?_ | with_reducible refine WE.callM ?_ | with_reducible refine WE.un ?_ | with_reducible refine WE.tup ?_ | with_reducible refine WE.lst ?_ | with_reducible refine WE.newL ?_ | with_reducible refine WE.eif ?_ | with_reducible refine WE.sl ?_ | with_reducible refine WE.isN ?_ | with_reducible refine WE.notN ?_ | with_reducible refine WE.not ?_ | with_reducible refine WE.and ?_ | with_reducible refine WE.or ?_ | with_reducible refine WE.app ?_ | with_reducible refine WE.tupR ?_ | with_reducible refine WE.lisR ?_ | with_reducible refine WE.m1 ?_ | with_reducible refine WE.tbl ?_ | with_reducible refine WE.tblNin ?_ | with_reducible refine WE.chain ?_ | with_reducible refine WE.fldF ?_ | with_reducible refine WE.mth ?_ | with_reducible refine WE.disp ?_ | with_reducible refine WE.dicC ?_ | with_reducible refine WP.nil ?_ | with_reducible refine WP.cons ?_ | with_reducible refine WE.upd ?_ | with_reducible refine WA.nil ?_ | with_reducible refine WA.cons ?_ | with_reducible refine WA.star ?_ | with_reducible refine WO.no ?_ | with_reducible refine WO.yes ?_ | with_reducible refine WT.val ?_ | with_reducible refine WT.and ?_ | with_reducible refine WT.or ?_ | with_reducible refine WT.not ?_ | with_reducible refine WT.tt ?_ | with_reducible refine WI.it ?_ | with_reducible refine Kn.add_i ?_ | with_reducible refine Kn.sub ?_ | with_reducible refine Kn.neg ?_ | with_reducible refine Kn.eq_i ?_ | with_reducible refine Kn.ne_i ?_ | with_reducible refine Kn.lt ?_ | with_reducible refine Kn.le ?_ | with_reducible refine Kn.gt ?_ | with_reducible refine Kn.ge ?_ | with_reducible refine Kn.int_i ?_ | with_reducible refine Kn.int_b ?_ | with_reducible refine Kn.abs ?_ | with_reducible refine Kn.min2 ?_ | with_reducible refine Kn.max2 ?_ | with_reducible refine Kn.len_t ?_ | with_reducible refine Kn.len_l ?_ | with_reducible refine Kn.len_s ?_ | with_reducible refine Kn.tup_t ?_ | with_reducible refine Kn.tup_l ?_ | with_reducible refine Kn.lis_t ?_ | with_reducible refine Kn.lis_l ?_ | with_reducible refine Kn.seq_t ?_ | with_reducible refine Kn.seq_l ?_ | with_reducible refine Kn.it_t ?_ | with_reducible refine Kn.it_l ?_ | with_reducible refine Kn.it_s ?_ | with_reducible refine Kn.str_s ?_ | with_reducible refine Kn.sl_t ?_ | with_reducible refine Kn.sl_l ?_ | with_reducible refine Kn.sl_rt ?_ | with_reducible refine Kn.ix_rt1 ?_ | with_reducible refine Kn.ix_rt2 ?_ | with_reducible refine Kn.kx_need ?_ | with_reducible refine Kn.kx_of ?_ | with_reducible refine Kn.kx_base ?_ | with_reducible refine Kn.kx_more ?_ | with_reducible refine Kn.kx_most ?_ | with_reducible refine Kn.kx_calm ?_ | with_reducible refine Kn.kx_back ?_ | with_reducible refine Kn.kx_under ?_ | with_reducible refine Kn.kx_top ?_ | with_reducible refine Kn.kx_up ?_ | with_reducible refine Kn.kx_hears ?_ | with_reducible refine Fld.need ?_ | with_reducible refine Fld.of ?_ | with_reducible refine Fld.base ?_ | with_reducible refine Fld.more ?_ | with_reducible refine Fld.most ?_ | with_reducible refine Fld.calm ?_ | with_reducible refine Fld.back ?_ | with_reducible refine Fld.top ?_ | with_reducible refine Fld.under ?_ | with_reducible refine Fld.up ?_ | with_reducible refine Fld.hears ?_ | with_reducible refine Fld.cap ?_ | with_reducible refine Mth.time ?_ | ((with_reducible refine WG.nm ?_); dsimp only [setMany, List.set_cons_succ, List.set_cons_zero]) | ((with_reducible refine WG.one ?_); dsimp only [setMany, List.set_cons_succ, List.set_cons_zero]) | ((with_reducible refine WG.tup ?_ ?_); exact rfl; dsimp only [setMany, List.set_cons_succ, List.set_cons_zero]) | ((with_reducible apply WE.var); exact rfl) | ((with_reducible apply WS.aug); exact rfl) | ((with_reducible apply WE.newPL); exact rfl) | ((with_reducible refine WS.ite_t ?_ ?_); exact rfl) | ((with_reducible refine WS.ite_f ?_ ?_); exact rfl) | ((with_reducible refine WE.ite_t ?_ ?_); exact rfl) | ((with_reducible refine WE.ite_f ?_ ?_); exact rfl) | ((with_reducible refine w_and_t ?_ ?_); exact rfl) | ((with_reducible refine w_and_f ?_ ?_); exact rfl) | ((with_reducible refine w_or_t ?_ ?_); exact rfl) | ((with_reducible refine w_or_f ?_ ?_); exact rfl) | ((with_reducible refine Kn.fdiv ?_ ?_); exact ⟨by decide, by decide⟩) | ((with_reducible refine Kn.mod ?_ ?_); decide) | ((with_reducible refine And.intro (a := (_ && _) = true) ?_ ?_); exact rfl) | ((with_reducible refine And.intro (a := List.length _ = List.length _) ?_ ?_); exact rfl; dsimp only [setMany, List.set_cons_succ, List.set_cons_zero]) | ((with_reducible refine ⟨wsz ?_, ?_⟩); first | decide | (show (_ : Nat) ≤ 1000; simp only [List.length_cons, List.length_nil]; decide)) | with_reducible refine ⟨_, rfl, ?_⟩)))
theorem str_ok (h : r.Tn) : F_Rule___str__ [r.d] = some (.str r.txt) := by
  have hl := part_len h
  have hA : (r.front.foldl catS Str.empty).cps.toList = (r.front.map fun w => w.cps.toList).flatten := by rw [fold_l, empty_l, List.nil_append]
  have hAl : (r.front.foldl catS Str.empty).cps.toList.length = lsum r.front := by rw [hA, flat_len]
  refine WS.runP (n := 3) (b := f_Rule___str__) ?_ rfl
  show WS _ [some r.d, none, none] [] _
  trivial
  refine ⟨_, _, join_all (ws := r.front) (.cons rfl (.cons (fmt_n (fld_ev ru_need) h.need) (.cons rfl (.cons (fmt_n (fld_ev ru_of) h.of) (.cons rfl (.cons (fmt_n (fld_ev ru_base) h.base) (.cons rfl (.cons (fmt_n (fld_ev ru_more) h.more) (.cons rfl (.cons (fmt_n (fld_ev ru_most) h.most) (.cons rfl (.cons (fmt_n (fld_ev ru_calm) h.calm) .nil)))))))))))) _ (by rw [empty_l]; simp only [List.length_nil]; omega), ?_⟩
  generalize hB : r.front.foldl catS Str.empty = A at *
  trivial
  have fin : ∀ (x : Str), x = upS r.up → WE (if r.up = true then eC (.str "up") else eC (.str "down")) [some r.d, some (.str A), none] [] (fun d m' => d = .str x ∧ m' = []) := fun x hx => by
    subst hx
    cases hu : r.up
    · trivial
      exact ⟨rfl, rfl⟩
    · trivial
      exact ⟨rfl, rfl⟩
  obtain ⟨dd, mm, e1, rfl, rfl⟩ := fin _ rfl
  refine ⟨_, _, e1, ?_⟩
  trivial
  have e2 : A.length ≤ 1000 := by rw [slen, hAl]; omega
  have k1 : r.back.s.length ≤ 1000 := by have := len_back r.back; omega
  have k2 : (upS r.up).length ≤ 1000 := by have := len_up r.up; omega
  have k3 : r.hears.s.length ≤ 1000 := by have := len_hears r.hears; omega
  refine ⟨_, _, join_all (ws := A :: r.rear) (.cons (fmt_s rfl e2) (.cons rfl (.cons (fmt_s (fld_ev ru_back) k1) (.cons rfl (.cons (fmt_n (fld_ev ru_top) h.top) (.cons rfl (.cons (fmt_n (fld_ev ru_under) h.under) (.cons rfl (.cons (fmt_s rfl k2) (.cons rfl (.cons (fmt_s (fld_ev ru_hears) k3) .nil))))))))))) _ ?_, ?_⟩
  · have : lsum (A :: r.rear) = A.cps.toList.length + lsum r.rear := rfl
    rw [empty_l, this, hAl]
    simp only [List.length_nil]
    omega
  · have e3 : (A :: r.rear).foldl catS Str.empty = r.txt := by
      refine str_ext ?_
      rw [fold_l, empty_l, List.nil_append, List.map_cons, List.flatten_cons, hA, txt_parts]
    rw [e3]
    trivial
    exact frz_p rfl
end
section
variable {m : M} {r q : Ru}
theorem join_allp {p : Nat → Bool} {c : Nat} (hc : p c = true) : ∀ ws : List (List Nat), (∀ w ∈ ws, w.all p = true) → (TL.joinL [c] ws).all p = true
  | [], _ => rfl
  | [w], h => h w (List.mem_cons_self ..)
  | w :: v :: ws, h => by
    have ih := join_allp hc (v :: ws) fun x hx => h x (List.mem_cons_of_mem _ hx)
    have h1 := h w (List.mem_cons_self ..)
    rw [TL.joinL, List.all_append, List.all_append, h1, ih]
    simp [hc]
theorem txt_strOk (h : r.Tn) : PyData.strOk r.txt = true := by
  rw [strOk_l]
  unfold Ru.txt
  rw [joinT_l, one_blank]
  refine join_allp (by decide) _ fun w hw => ?_
  obtain ⟨x, hx, rfl⟩ := List.mem_map.mp hw
  have := words_strOk h x hx
  rwa [strOk_l] at this
theorem pdM_s {z : Str} (h : PyData.strOk z = true) : pdM m (.str z) = some (.str z) := pdM_pure rfl rfl (by simp [SeqAt.shaped, PyData.canLay0, h, PyData.depth])
theorem eq_strs {a b : Str} (ha : PyData.strOk a = true) (hb : PyData.strOk b = true) : eqD m (.str a) (.str b) = some (.bl (a == b)) := by
  unfold eqD
  rw [pdM_s ha, pdM_s hb]
  rfl
theorem ne_strs {a b : Str} (ha : PyData.strOk a = true) (hb : PyData.strOk b = true) : neD m (.str a) (.str b) = some (.bl (!(a == b))) := by
  unfold neD
  rw [pdM_s ha, pdM_s hb]
  rfl
theorem isiC_ok : isiC "Rule" m [q.d, .glo "Rule"] = some (.bl true) := by
  show (match insOf m q.d with
    | some (c1, _, _) => if c1 = ("Rule" : Str) ∧ ("Rule" : Str) = "Rule" then some (D.bl true) else none
    | none => none) = _
  rw [ru_ins]
  exact if_pos ⟨rfl, rfl⟩
theorem strO_ok (h : r.Tn) : strOD "Rule" F_Rule___str__ m [r.d] = some (.str r.txt) := by
  have hp : pureL [r.d] = true := rfl
  have e : callP F_Rule___str__ m [r.d] = some (.str r.txt) := by unfold callP; rw [if_pos hp]; exact str_ok h
  show (match insOf m r.d with
    | some (c', _, _) => if c' = ("Rule" : Str) then match callP F_Rule___str__ m [r.d] with
      | some (.str y) => some (D.str y)
      | _ => none
      else none
    | none => none) = _
  rw [ru_ins, e]
  exact if_pos rfl
local macro_rules | `(tactic| trivial) => `(tactic| (repeat (first | with_reducible refine WS.seq ?_ | with_reducible refine WS.nx ?_ | with_reducible refine WS.rt ?_ | with_reducible refine WS.asg ?_ | with_reducible refine WS.drop ?_ | with_reducible refine WS.ret ?_ | with_reducible refine WS.nop ?_ | with_reducible refine WS.retN ?_ | with_reducible refine WS.brk ?_ | with_reducible refine WS.cont ?_ | with_reducible refine WS.sif ?_ | with_reducible refine WS.par ?_ | with_reducible refine WG.setA ?_ | with_reducible refine WE.c ?_ | with_reducible refine WE.op ?_ | with_reducible refine WE.call ?_ | with_reducible refine WE.callM ?_ | with_reducible refine WE.un ?_ | with_reducible refine WE.tup ?_ | with_reducible refine WE.lst ?_ | with_reducible refine WE.newL ?_ | with_reducible refine WE.eif ?_ | with_reducible refine WE.sl ?_ | with_reducible refine WE.isN ?_ | with_reducible refine WE.notN ?_ | with_reducible refine WE.not ?_ | with_reducible refine WE.and ?_ | with_reducible refine WE.or ?_ | with_reducible refine WE.app ?_ | with_reducible refine WE.tupR ?_ | with_reducible refine WE.lisR ?_ | with_reducible refine WE.m1 ?_ | with_reducible refine WE.tbl ?_ | with_reducible refine WE.tblNin ?_ | with_reducible refine WE.chain ?_ | with_reducible refine WE.fldF ?_ | with_reducible refine WE.mth ?_ | with_reducible refine WE.disp ?_ | with_reducible refine WE.dicC ?_ | with_reducible refine WP.nil ?_ | with_reducible refine WP.cons ?_ | with_reducible refine WE.upd ?_ | with_reducible refine WA.nil ?_ | with_reducible refine WA.cons ?_ | with_reducible refine WA.star ?_ | with_reducible refine WO.no ?_ | with_reducible refine WO.yes ?_ | with_reducible refine WT.val ?_ | with_reducible refine WT.and ?_ | with_reducible refine WT.or ?_ | with_reducible refine WT.not ?_ | with_reducible refine WT.tt ?_ | with_reducible refine WI.it ?_ | with_reducible refine Kn.add_i ?_ | with_reducible refine Kn.sub ?_ | with_reducible refine Kn.neg ?_ | with_reducible refine Kn.eq_i ?_ | with_reducible refine Kn.ne_i ?_ | with_reducible refine Kn.lt ?_ | with_reducible refine Kn.le ?_ | with_reducible refine Kn.gt ?_ | with_reducible refine Kn.ge ?_ | with_reducible refine Kn.int_i ?_ | with_reducible refine Kn.int_b ?_ | with_reducible refine Kn.abs ?_ | with_reducible refine Kn.min2 ?_ | with_reducible refine Kn.max2 ?_ | with_reducible refine Kn.len_t ?_ | with_reducible refine Kn.len_l ?_ | with_reducible refine Kn.len_s ?_ | with_reducible refine Kn.tup_t ?_ | with_reducible refine Kn.tup_l ?_ | with_reducible refine Kn.lis_t ?_ | with_reducible refine Kn.lis_l ?_ | with_reducible refine Kn.seq_t ?_ | with_reducible refine Kn.seq_l ?_ | with_reducible refine Kn.it_t ?_ | with_reducible refine Kn.it_l ?_ | with_reducible refine Kn.it_s ?_ | with_reducible refine Kn.str_s ?_ | with_reducible refine Kn.sl_t ?_ | with_reducible refine Kn.sl_l ?_ | with_reducible refine Kn.sl_rt ?_ | with_reducible refine Kn.ix_rt1 ?_ | with_reducible refine Kn.ix_rt2 ?_ | with_reducible refine Kn.kx_need ?_ | with_reducible refine Kn.kx_of ?_ | with_reducible refine Kn.kx_base ?_ | with_reducible refine Kn.kx_more ?_ | with_reducible refine Kn.kx_most ?_ | with_reducible refine Kn.kx_calm ?_ | with_reducible refine Kn.kx_back ?_ | with_reducible refine Kn.kx_under ?_ | with_reducible refine Kn.kx_top ?_ | with_reducible refine Kn.kx_up ?_ | with_reducible refine Kn.kx_hears ?_ | with_reducible refine Fld.need ?_ | with_reducible refine Fld.of ?_ | with_reducible refine Fld.base ?_ | with_reducible refine Fld.more ?_ | with_reducible refine Fld.most ?_ | with_reducible refine Fld.calm ?_ | with_reducible refine Fld.back ?_ | with_reducible refine Fld.top ?_ | with_reducible refine Fld.under ?_ | with_reducible refine Fld.up ?_ | with_reducible refine Fld.hears ?_ | with_reducible refine Fld.cap ?_ | with_reducible refine Mth.time ?_ | ((with_reducible refine WG.nm ?_); dsimp only [setMany, List.set_cons_succ, List.set_cons_zero]) | ((with_reducible refine WG.one ?_); dsimp only [setMany, List.set_cons_succ, List.set_cons_zero]) | ((with_reducible refine WG.tup ?_ ?_); exact rfl; dsimp only [setMany, List.set_cons_succ, List.set_cons_zero]) | ((with_reducible apply WE.var); exact rfl) | ((with_reducible apply WS.aug); exact rfl) | ((with_reducible apply WE.newPL); exact rfl) | ((with_reducible refine WS.ite_t ?_ ?_); exact rfl) | ((with_reducible refine WS.ite_f ?_ ?_); exact rfl) | ((with_reducible refine WE.ite_t ?_ ?_); exact rfl) | ((with_reducible refine WE.ite_f ?_ ?_); exact rfl) | ((with_reducible refine w_and_t ?_ ?_); exact rfl) | ((with_reducible refine w_and_f ?_ ?_); exact rfl) | ((with_reducible refine w_or_t ?_ ?_); exact rfl) | ((with_reducible refine w_or_f ?_ ?_); exact rfl) | ((with_reducible refine Kn.fdiv ?_ ?_); exact ⟨by decide, by decide⟩) | ((with_reducible refine Kn.mod ?_ ?_); decide) | ((with_reducible refine And.intro (a := (_ && _) = true) ?_ ?_); exact rfl) | ((with_reducible refine And.intro (a := List.length _ = List.length _) ?_ ?_); exact rfl; dsimp only [setMany, List.set_cons_succ, List.set_cons_zero]) | ((with_reducible refine ⟨wsz ?_, ?_⟩); first | decide | (show (_ : Nat) ≤ 1000; simp only [List.length_cons, List.length_nil]; decide)) | with_reducible refine ⟨_, rfl, ?_⟩)))
theorem eq_ok (h : r.Tn) (k : q.Tn) : F_Rule___eq__ [r.d, q.d] = some (.bl (r.txt == q.txt)) := by
  refine WS.runP (n := 2) (b := f_Rule___eq__) ?_ rfl
  show WS _ [some r.d, some q.d] [] _
  trivial
  refine Kn.mk isiC_ok ?_
  trivial
  refine Kn.mk (strO_ok h) ?_
  trivial
  refine Kn.mk (strO_ok k) ?_
  refine Kn.mk (eq_strs (txt_strOk h) (txt_strOk k)) ?_
  trivial
  exact frz_p rfl
theorem eqO_ok (h : r.Tn) (k : q.Tn) : eqO "Rule" F_Rule___eq__ m r.d q.d = some (r.txt == q.txt) := by
  have hp : pureL [r.d, q.d] = true := rfl
  have e : callP F_Rule___eq__ m [r.d, q.d] = some (.bl (r.txt == q.txt)) := by unfold callP; rw [if_pos hp]; exact eq_ok h k
  unfold eqO
  rw [ru_ins, ru_ins]
  show (if ("Rule" : Str) = "Rule" ∧ ("Rule" : Str) = "Rule" then _ else none) = _
  rw [if_pos ⟨rfl, rfl⟩, e]
theorem eqOD_ok (h : r.Tn) (k : q.Tn) : eqOD "Rule" F_Rule___eq__ m r.d q.d = some (.bl (r.txt == q.txt)) := by unfold eqOD; rw [eqO_ok h k]; rfl
theorem neOD_ok (h : r.Tn) (k : q.Tn) : neOD "Rule" F_Rule___eq__ m r.d q.d = some (.bl (!(r.txt == q.txt))) := by unfold neOD; rw [eqO_ok h k]; rfl
/-- a text tells its rule -/
theorem txt_inj (h : r.Tn) (k : q.Tn) (hv : r.Va) (kv : q.Va) (e : r.txt = q.txt) : r.d = q.d := by
  have h1 := read_ok h hv
  rw [e, read_ok k kv] at h1
  exact (Option.some.inj h1).symm
end
end L4

namespace L4
open PySem
/-! family A: drawn rules, made, their texts -/
section
variable {m : M} {rest : M} {Q : D → M → Prop} {r : Ru}
theorem hr_a {d : D} (h : d ∈ ([.str "fault", .str "no", .str "out"] : List D)) : ∃ b : Hr, d = .str b.s := by
  simp only [List.mem_cons, List.not_mem_nil, or_false] at h
  rcases h with rfl | rfl | rfl
  · exact ⟨.fault, rfl⟩
  · exact ⟨.no, rfl⟩
  · exact ⟨.out, rfl⟩
theorem bk_a {d : D} (h : d ∈ ([.str "half", .str "open", .str "trial"] : List D)) : ∃ b : Bk, d = .str b.s := by
  simp only [List.mem_cons, List.not_mem_nil, or_false] at h
  rcases h with rfl | rfl | rfl
  · exact ⟨.half, rfl⟩
  · exact ⟨.opn, rfl⟩
  · exact ⟨.trial, rfl⟩
theorem top_a {d : D} {a b u : Int} (ha : 0 ≤ a ∧ a < u + 1) (hb : 0 ≤ b ∧ b < u + 1) (hu : 1 ≤ u) (h : d ∈ ([.int a, .int b, .int u, .int 1] : List D)) : ∃ i : Int, d = .int i ∧ 0 ≤ i ∧ i ≤ u := by
  simp only [List.mem_cons, List.not_mem_nil, or_false] at h
  rcases h with rfl | rfl | rfl | rfl
  · exact ⟨_, rfl, by omega, by omega⟩
  · exact ⟨_, rfl, by omega, by omega⟩
  · exact ⟨_, rfl, by omega, by omega⟩
  · exact ⟨_, rfl, by omega, by omega⟩
/-- what is drawn -/
structure Ru.Dr (r : Ru) : Prop where
  va : r.Va
  of : r.of ≤ 4
  base : r.base ≤ 3
  more : r.more ≤ 3
  most : r.most ≤ 8
  calm : r.calm ≤ 3
  under : r.under ≤ 40
theorem Ru.Dr.tn (h : r.Dr) : r.Tn := by
  obtain ⟨⟨a1, a2, a3, a4, a5, a6, a7, a8, a9, _, _⟩, b1, b2, b3, b4, b5, b6⟩ := h
  exact ⟨by omega, by omega, by omega, by omega, by omega, by omega, by omega, by omega⟩
theorem lslA {ds : List D} : lstOf m (.lst ds) = some ds := rfl
theorem words_joinA (h : r.Tn) : (r.words.map (·.length)).sum + r.words.length * (" " : Str).length ≤ 16777216 := by
  have h1 := words_sum h
  have e1 : (" " : Str).length = 1 := len_lit.2.2.2.2.2.2.2.2.2.1
  have e2 : r.words.length = 19 := rfl
  rw [e1, e2]
  generalize (r.words.map (·.length)).sum = x at *
  omega
theorem sl1A (h : r.Tn) : (nS r.top).length + ("/" : Str).length ≤ sizeLine := by
  have h1 := len_nS h.top
  have h2 : ("/" : Str).length = 1 := len_lit.2.2.2.2.2.2.2.2.2.2
  rw [h2]
  generalize (nS r.top).length = x at *
  exact wsz (by omega)
theorem sl2A (h : r.Tn) : (catS (nS r.top) "/").length + (nS r.under).length ≤ sizeLine := by
  have h1 := len_share h
  have e : (catS (nS r.top) "/").length + (nS r.under).length = r.share.length := by
    rw [slen, slen, slen]
    unfold Ru.share
    simp only [catS_l, List.length_append]
  rw [e]
  generalize r.share.length = x at *
  exact wsz (by omega)
local macro_rules | `(tactic| trivial) => `(tactic| (repeat (first | with_reducible refine WS.seq ?_ | with_reducible refine WS.nx ?_ | with_reducible refine WS.rt ?_ | with_reducible refine WS.asg ?_ | with_reducible refine WS.drop ?_ | with_reducible refine WS.ret ?_ | with_reducible refine WS.nop ?_ | with_reducible refine WS.retN ?_ | with_reducible refine WS.brk ?_ | with_reducible refine WS.cont ?_ | with_reducible refine WS.sif ?_ | with_reducible refine WS.par ?_ | with_reducible refine WG.setA ?_ | with_reducible refine WE.c ?_ | with_reducible refine WE.op ?_ | with_reducible refine WE.call ?_ | with_reducible refine WE.callM ?_ | with_reducible refine WE.un ?_ | with_reducible refine WE.tup ?_ | with_reducible refine WE.lst ?_ | with_reducible refine WE.newL ?_ | with_reducible refine WE.eif ?_ | with_reducible refine WE.sl ?_ | with_reducible refine WE.isN ?_ | with_reducible refine WE.notN ?_ | with_reducible refine WE.not ?_ | with_reducible refine WE.and ?_ | with_reducible refine WE.or ?_ | with_reducible refine WE.app ?_ | with_reducible refine WE.tupR ?_ | with_reducible refine WE.lisR ?_ | with_reducible refine WE.m1 ?_ | with_reducible refine WE.tbl ?_ | with_reducible refine WE.tblNin ?_ | with_reducible refine WE.chain ?_ | with_reducible refine WE.fldF ?_ | with_reducible refine WE.mth ?_ | with_reducible refine WE.disp ?_ | with_reducible refine WE.dicC ?_ | with_reducible refine WP.nil ?_ | with_reducible refine WP.cons ?_ | with_reducible refine WE.upd ?_ | with_reducible refine WA.nil ?_ | with_reducible refine WA.cons ?_ | with_reducible refine WA.star ?_ | with_reducible refine WO.no ?_ | with_reducible refine WO.yes ?_ | with_reducible refine WT.val ?_ | with_reducible refine WT.and ?_ | with_reducible refine WT.or ?_ | with_reducible refine WT.not ?_ | with_reducible refine WT.tt ?_ | with_reducible refine WI.it ?_ | with_reducible refine Kn.add_i ?_ | with_reducible refine Kn.sub ?_ | with_reducible refine Kn.neg ?_ | with_reducible refine Kn.eq_i ?_ | with_reducible refine Kn.ne_i ?_ | with_reducible refine Kn.lt ?_ | with_reducible refine Kn.le ?_ | with_reducible refine Kn.gt ?_ | with_reducible refine Kn.ge ?_ | with_reducible refine Kn.int_i ?_ | with_reducible refine Kn.int_b ?_ | with_reducible refine Kn.abs ?_ | with_reducible refine Kn.min2 ?_ | with_reducible refine Kn.max2 ?_ | with_reducible refine Kn.len_t ?_ | with_reducible refine Kn.len_l ?_ | with_reducible refine Kn.len_s ?_ | with_reducible refine Kn.tup_t ?_ | with_reducible refine Kn.tup_l ?_ | with_reducible refine Kn.lis_t ?_ | with_reducible refine Kn.lis_l ?_ | with_reducible refine Kn.seq_t ?_ | with_reducible refine Kn.seq_l ?_ | with_reducible refine Kn.it_t ?_ | with_reducible refine Kn.it_l ?_ | with_reducible refine Kn.it_s ?_ | with_reducible refine Kn.str_s ?_ | with_reducible refine Kn.sl_t ?_ | with_reducible refine Kn.sl_l ?_ | with_reducible refine Kn.sl_rt ?_ | with_reducible refine Kn.ix_rt1 ?_ | with_reducible refine Kn.ix_rt2 ?_ | with_reducible refine Kn.kx_need ?_ | with_reducible refine Kn.kx_of ?_ | with_reducible refine Kn.kx_base ?_ | with_reducible refine Kn.kx_more ?_ | with_reducible refine Kn.kx_most ?_ | with_reducible refine Kn.kx_calm ?_ | with_reducible refine Kn.kx_back ?_ | with_reducible refine Kn.kx_under ?_ | with_reducible refine Kn.kx_top ?_ | with_reducible refine Kn.kx_up ?_ | with_reducible refine Kn.kx_hears ?_ | with_reducible refine Fld.need ?_ | with_reducible refine Fld.of ?_ | with_reducible refine Fld.base ?_ | with_reducible refine Fld.more ?_ | with_reducible refine Fld.most ?_ | with_reducible refine Fld.calm ?_ | with_reducible refine Fld.back ?_ | with_reducible refine Fld.top ?_ | with_reducible refine Fld.under ?_ | with_reducible refine Fld.up ?_ | with_reducible refine Fld.hears ?_ | with_reducible refine Fld.cap ?_ | with_reducible refine Mth.time ?_ | ((with_reducible refine WG.nm ?_); dsimp only [setMany, List.set_cons_succ, List.set_cons_zero]) | ((with_reducible refine WG.one ?_); dsimp only [setMany, List.set_cons_succ, List.set_cons_zero]) | ((with_reducible refine WG.tup ?_ ?_); exact rfl; dsimp only [setMany, List.set_cons_succ, List.set_cons_zero]) | ((with_reducible apply WE.var); exact rfl) | ((with_reducible apply WS.aug); exact rfl) | ((with_reducible apply WE.newPL); exact rfl) | ((with_reducible refine WS.ite_t ?_ ?_); exact rfl) | ((with_reducible refine WS.ite_f ?_ ?_); exact rfl) | ((with_reducible refine WE.ite_t ?_ ?_); exact rfl) | ((with_reducible refine WE.ite_f ?_ ?_); exact rfl) | ((with_reducible refine w_and_t ?_ ?_); exact rfl) | ((with_reducible refine w_and_f ?_ ?_); exact rfl) | ((with_reducible refine w_or_t ?_ ?_); exact rfl) | ((with_reducible refine w_or_f ?_ ?_); exact rfl) | ((with_reducible refine Kn.fdiv ?_ ?_); exact ⟨by decide, by decide⟩) | ((with_reducible refine Kn.mod ?_ ?_); decide) | ((with_reducible refine And.intro (a := (_ && _) = true) ?_ ?_); exact rfl) | ((with_reducible refine And.intro (a := List.length _ = List.length _) ?_ ?_); exact rfl; dsimp only [setMany, List.set_cons_succ, List.set_cons_zero]) | ((with_reducible refine ⟨wsz ?_, ?_⟩); first | decide | (show (_ : Nat) ≤ 1000; simp only [List.length_cons, List.length_nil]; decide)) | with_reducible refine ⟨_, rfl, ?_⟩)))
theorem drawn_a (h : AX rest m) (q : ∀ (r : Ru) m', r.Dr → r.under ≤ 6 → AX rest m' → Q (.tup r.args) m') : Wr (F__law_drawn_rule [.ref 1] m) Q := by
  refine WS.runM (b := f__law_drawn_rule) (n := 8) ?_ rfl
  show WS _ [some (.ref 1), none, none, none, none, none, none, none] m _
  trivial
  refine draw_a h (by decide) (by decide) fun w m a1 b1 h => ?_
  trivial
  refine draw_a h (by decide) (by decide) fun ba m a2 b2 h => ?_
  trivial
  refine draw_a h (by decide) (by decide) fun un m a3 b3 h => ?_
  trivial
  refine draw_a h (by omega) (by omega) fun ne m a4 b4 h => ?_
  trivial
  refine draw_a h (by decide) (by decide) fun mo m a5 b5 h => ?_
  trivial
  refine draw_a h (by decide) (by decide) fun ms m a6 b6 h => ?_
  trivial
  refine draw_a h (by decide) (by decide) fun ca m a7 b7 h => ?_
  trivial
  refine Kn.add_t (wsz (by show 6 ≤ 1000; decide)) ?_
  trivial
  refine draw_a h (by omega) (by omega) fun t1 m a8 b8 h => ?_
  trivial
  refine draw_a h (by omega) (by omega) fun t2 m a9 b9 h => ?_
  trivial
  refine pick_a h (by show 1 ≤ 4; decide) (by show 4 < 1000; decide) fun d m hd h => ?_
  obtain ⟨tp, rfl, p1, p2⟩ := top_a ⟨a8, by omega⟩ ⟨a9, by omega⟩ (by omega) hd
  trivial
  refine pick_a h (by show 1 ≤ 3; decide) (by show 3 < 1000; decide) fun d m hd h => ?_
  obtain ⟨bk, rfl⟩ := bk_a hd
  trivial
  refine pick_a h (by show 1 ≤ 3; decide) (by show 3 < 1000; decide) fun d m hd h => ?_
  obtain ⟨hh, rfl⟩ := hr_a hd
  trivial
  refine draw_a h (by decide) (by decide) fun up m c1 c2 h => ?_
  trivial
  refine Kn.add_t (wsz (by show 11 ≤ 1000; decide)) ?_
  trivial
  exact .inl ⟨_, rfl, q ⟨1 + ne, 1 + w, 1 + ba, mo, 1 + ba + ms, ca, bk, tp, 1 + un, up == 0, hh, capOf (1 + ba) mo (1 + ba + ms)⟩ _ ⟨⟨by show 1 ≤ 1 + ne; omega, by show 1 + ne ≤ 1 + w; omega, by show 1 ≤ 1 + ba; omega, a5, by show 1 + ba ≤ 1 + ba + ms; omega, a7, p1, by show 1 ≤ 1 + un; omega, p2, by show mo < 1073741824; omega, rfl⟩, by show 1 + w ≤ 4; omega, by show 1 + ba ≤ 3; omega, by show mo ≤ 3; omega, by show 1 + ba + ms ≤ 8; omega, by show ca ≤ 3; omega, by show 1 + un ≤ 40; omega⟩ (by show 1 + un ≤ 6; omega) h⟩
theorem made_a (h : r.Va) : F__law_made [.tup r.args] = some r.d := by
  refine WS.runP (n := 1) (b := f__law_made) ?_ rfl
  show WS _ [some (.tup r.args)] [] _
  trivial
  refine Kn.ix_t (i := 0) rfl ?_
  trivial
  refine Kn.ix_t (i := 1) rfl ?_
  trivial
  refine Kn.ix_t (i := 2) rfl ?_
  trivial
  refine Kn.ix_t (i := 3) rfl ?_
  trivial
  refine Kn.ix_t (i := 4) rfl ?_
  trivial
  refine Kn.ix_t (i := 5) rfl ?_
  trivial
  refine Kn.ix_t (i := 6) rfl ?_
  trivial
  refine Kn.ix_t (i := 7) rfl ?_
  trivial
  refine Kn.ix_t (i := 8) rfl ?_
  trivial
  refine Kn.ix_t (i := 9) rfl ?_
  trivial
  refine Kn.ix_t (i := 10) rfl ?_
  trivial
  refine Kn.mk (new_ok h) ?_
  exact ⟨_, rfl, frz_p ru_pure⟩
theorem text_a (h : r.Tn) : F__law_rule_text [.tup r.args] = some (.str r.txt) := by
  refine WS.runP (n := 2) (b := f__law_rule_text) ?_ rfl
  show WS _ [some (.tup r.args), none] [] _
  trivial
  refine Kn.ix_t (i := 0) rfl ?_
  trivial
  refine Kn.mk (w_str_i h.need.1 h.need.2) ?_
  trivial
  refine Kn.ix_t (i := 1) rfl ?_
  trivial
  refine Kn.mk (w_str_i h.of.1 h.of.2) ?_
  trivial
  refine Kn.ix_t (i := 2) rfl ?_
  trivial
  refine Kn.mk (w_str_i h.base.1 h.base.2) ?_
  trivial
  refine Kn.ix_t (i := 3) rfl ?_
  trivial
  refine Kn.mk (w_str_i h.more.1 h.more.2) ?_
  trivial
  refine Kn.ix_t (i := 4) rfl ?_
  trivial
  refine Kn.mk (w_str_i h.most.1 h.most.2) ?_
  trivial
  refine Kn.ix_t (i := 5) rfl ?_
  trivial
  refine Kn.mk (w_str_i h.calm.1 h.calm.2) ?_
  trivial
  refine Kn.ix_t (i := 6) rfl ?_
  trivial
  refine Kn.ix_t (i := 7) rfl ?_
  trivial
  refine Kn.mk (w_str_i h.top.1 h.top.2) ?_
  trivial
  refine Kn.add_s (sl1A h) ?_
  trivial
  refine Kn.ix_t (i := 8) rfl ?_
  trivial
  refine Kn.mk (w_str_i h.under.1 h.under.2) ?_
  refine Kn.add_s (sl2A h) ?_
  trivial
  refine Kn.add_l lslA lslA (wsz (by show 16 ≤ 1000; decide)) ?_
  trivial
  refine Kn.ix_t (i := 9) rfl ?_
  trivial
  have fin : ∀ (x : Str) (ρ : Ss), x = upS r.up → WE (if r.up = true then eC (.str "up") else eC (.str "down")) ρ [] (fun d m' => d = .str x ∧ m' = []) := fun x ρ hx => by
    subst hx
    cases hu : r.up
    · trivial
      exact ⟨rfl, rfl⟩
    · trivial
      exact ⟨rfl, rfl⟩
  obtain ⟨dd, mm, e1, rfl, rfl⟩ := fin _ _ rfl
  refine ⟨_, _, e1, ?_⟩
  trivial
  refine Kn.ix_t (i := 10) rfl ?_
  trivial
  refine Kn.add_l lslA lslA (wsz (by show 19 ≤ 1000; decide)) ?_
  refine Kn.join (ws := r.words) rfl (words_joinA h) ?_
  trivial
  exact frz_p rfl
end
end L4

namespace L4
open PySem
section
variable {m : M} {r q : Ru}
def Ru.pds (r : Ru) : List PyData := [.int r.need, .int r.of, .int r.base, .int r.more, .int r.most, .int r.calm, .str r.back.s, .int r.top, .int r.under, .bool r.up, .str r.hears.s]
theorem pdM_args : pdM m (.tup r.args) = some (.tuple r.pds) := by
  refine pdM_pure rfl rfl ?_
  have h1 := ok_back r.back
  have h2 := ok_hears r.hears
  have h3 : (PyData.tuple r.pds).depth ≤ 64 := by simp [Ru.pds, PyData.depth, PyData.depthAll]
  have h4 : (PyData.tuple r.pds).canLay0 = true := by simp [Ru.pds, PyData.canLay0, PyData.canLayAll0, h1, h2]
  simp [SeqAt.shaped, h3, h4]
def Same (q r : Ru) : Prop := q.need = r.need ∧ q.of = r.of ∧ q.base = r.base ∧ q.more = r.more ∧ q.most = r.most ∧ q.calm = r.calm ∧ q.back.s = r.back.s ∧ q.top = r.top ∧ q.under = r.under ∧ q.up = r.up ∧ q.hears.s = r.hears.s
theorem eqv_args : PyData.eqv (.tuple q.pds) (.tuple r.pds) = true ↔ Same q r := by
  simp [Ru.pds, PyData.eqv, PyData.eqvAll, Same]
theorem txt_same (hq : q.Tn) (hr : r.Tn) (vq : q.Va) (vr : r.Va) : q.txt = r.txt ↔ Same q r := by
  constructor
  · intro e
    have h := txt_inj hq hr vq vr e
    simp only [Ru.d, D.obj.injEq, Ru.vals, List.cons.injEq, D.int.injEq, D.str.injEq, D.bl.injEq, true_and, and_true] at h
    obtain ⟨a1, a2, a3, a4, a5, a6, a7, a8, a9, b1, b2, _⟩ := h
    exact ⟨a1, a2, a3, a4, a5, a6, a7, a8, a9, b1, b2⟩
  · rintro ⟨a1, a2, a3, a4, a5, a6, a7, a8, a9, b1, b2⟩
    simp only [Ru.txt, Ru.words, Ru.share, a1, a2, a3, a4, a5, a6, a7, a8, a9, b1, b2]
theorem eq_args (hq : q.Tn) (hr : r.Tn) (vq : q.Va) (vr : r.Va) : eqD m (.tup q.args) (.tup r.args) = some (.bl (q.txt == r.txt)) := by
  unfold eqD
  rw [pdM_args, pdM_args]
  show some (D.bl (PyData.eqv (.tuple q.pds) (.tuple r.pds))) = _
  congr 2
  rw [Bool.eq_iff_iff, eqv_args, beq_iff_eq]
  exact (txt_same hq hr vq vr).symm
end
end L4

namespace L4
open PySem
section
variable {m : M} {r q : Ru}
theorem strOk_app {a b : Str} (ha : PyData.strOk a = true) (hb : PyData.strOk b = true) : PyData.strOk (a ++ b) = true := by
  have e : (a ++ b).cps = a.cps ++ b.cps := rfl
  unfold PyData.strOk at *
  rw [e, Array.all_append, ha, hb]
  rfl
theorem strOk_join {c : Str} (hc : PyData.strOk c = true) : ∀ ts : List Str, (∀ t ∈ ts, PyData.strOk t = true) → PyData.strOk (Str.join c ts) = true
  | [], _ => (by decide +kernel : PyData.strOk Str.empty = true)
  | [x], h => h x (List.mem_cons_self ..)
  | x :: y :: ts, h => strOk_app (strOk_app (h x (List.mem_cons_self ..)) hc) (strOk_join hc (y :: ts) fun t ht => h t (List.mem_cons_of_mem _ ht))
theorem rep_back (b : Bk) : (reprText b.s).length ≤ 9 ∧ PyData.strOk (reprText b.s) = true := by cases b <;> decide +kernel
theorem rep_hears (b : Hr) : (reprText b.s).length ≤ 9 ∧ PyData.strOk (reprText b.s) = true := by cases b <;> decide +kernel
theorem rep_bool (b : Bool) : (PyData.shown (.bool b)).length ≤ 9 ∧ PyData.strOk (PyData.shown (.bool b)) = true := by cases b <;> decide +kernel
theorem small_log {i : Int} (h : 0 ≤ i ∧ i < 100) : decide (i.natAbs.log2 < 1920) = true := by
  have : i.natAbs.log2 ≤ i.natAbs := Nat.log2_le_self _
  exact decide_eq_true (by omega)
theorem rep_args (h : r.Tn) : ∃ z, reprG m [.tup r.args] = some (.str z) ∧ PyData.strOk z = true := by
  have nums : ∀ i : Int, 0 ≤ i ∧ i < 100 → (PyData.shown (.int i)).length ≤ 9 ∧ PyData.strOk (PyData.shown (.int i)) = true := fun i hi =>
    ⟨Nat.le_trans (len_nS hi) (by decide), (nsg_ok hi.1 hi.2).ok⟩
  have key : ∀ t ∈ PyData.shownAll r.pds, t.length ≤ 9 ∧ PyData.strOk t = true := by
    intro t ht
    simp only [Ru.pds, PyData.shownAll, List.mem_cons, List.not_mem_nil, or_false] at ht
    rcases ht with rfl | rfl | rfl | rfl | rfl | rfl | rfl | rfl | rfl | rfl | rfl
    · exact nums _ h.need
    · exact nums _ h.of
    · exact nums _ h.base
    · exact nums _ h.more
    · exact nums _ h.most
    · exact nums _ h.calm
    · exact rep_back _
    · exact nums _ h.top
    · exact nums _ h.under
    · exact rep_bool _
    · exact rep_hears _
  have hlen : (PyData.shownAll r.pds).length = 11 := rfl
  have hsh : (PyData.tuple r.pds).shown = tupleText (PyData.shownAll r.pds) := rfl
  have hok : PyData.strOk (PyData.tuple r.pds).shown = true := by
    rw [hsh]
    refine strOk_app (strOk_app (by decide +kernel) (strOk_join (by decide +kernel) _ fun t ht => (key t ht).2)) ?_
    rw [hlen]
    decide +kernel
  have hpl : ∀ ts : List Str, (∀ t ∈ ts, t.length ≤ 9) → piled ts ≤ 11 * ts.length := fun ts => by
    induction ts with
    | nil => intro _; simp [piled]
    | cons t ts ih =>
      intro ht
      have h1 := ih fun x hx => ht x (List.mem_cons_of_mem _ hx)
      have h2 := ht t (List.mem_cons_self ..)
      rw [piled_cons, List.length_cons]
      omega
  have hz : (PyData.tuple r.pds).shown.length ≤ 1000 := by
    have h1 := join_length_add (PyData.shownAll r.pds) (by intro e; rw [e] at hlen; cases hlen)
    have h2 := hpl (PyData.shownAll r.pds) fun t ht => (key t ht).1
    rw [hlen] at h2
    rw [hsh]
    unfold tupleText
    rw [strLen_append, strLen_append, hlen]
    have e1 : (("(" : String) : Str).length = 1 := by decide +kernel
    have e2 : ((if (11 : Nat) == 1 then ",)" else ")" : String) : Str).length = 1 := by decide +kernel
    rw [e1, e2]
    omega
  have hs : (PyData.tuple r.pds).showable = true := by
    simp only [PyData.showable, Ru.pds, PyData.showableAll, small_log h.need, small_log h.of, small_log h.base, small_log h.more, small_log h.most, small_log h.calm, small_log h.top, small_log h.under, Bool.and_true]
  refine ⟨_, ?_, hok⟩
  have h0 : reprT m [.tup r.args] = none := rfl
  unfold reprG
  rw [h0]
  show (pdM m (.tup r.args)).bind reprP = _
  rw [pdM_args]
  show (if (isSeqP (PyData.tuple r.pds) && (PyData.tuple r.pds).showable && decide ((PyData.tuple r.pds).shown.length ≤ sizeLine)) = true then some (D.str (PyData.tuple r.pds).shown) else none) = _
  rw [hs, decide_eq_true (wsz hz)]
  rfl
end
end L4

namespace L4
open PySem
section
variable {m : M} {r q : Ru} {Q : D → Prop}
theorem Kn.callKa {F : List D → Option D} {xs : List D} {d : D} (hp : pureL xs = true) (e : F xs = some d) (q : Q d) : Kn (L4.callK F m xs) Q := ⟨d, by
  unfold L4.callK
  rw [hp]
  exact e, q⟩
theorem pure_a : pureL [.tup r.args] = true := rfl
theorem ne_bla (a : Bool) : neD m (.bl a) (.bl a) = some (.bl false) := ne_same (pdM_pure rfl rfl rfl)
local macro_rules | `(tactic| trivial) => `(tactic| (repeat (first | with_reducible refine WS.seq ?_ | with_reducible refine WS.nx ?_ | with_reducible refine WS.rt ?_ | with_reducible refine WS.asg ?_ | with_reducible refine WS.drop ?_ | with_reducible refine WS.ret ?_ | with_reducible refine WS.nop ?_ | with_reducible refine WS.retN ?_ | with_reducible refine WS.brk ?_ | with_reducible refine WS.cont ?_ | with_reducible refine WS.sif ?_ | with_reducible refine WS.par ?_ | with_reducible refine WG.setA ?_ | with_reducible refine WE.c ?_ | with_reducible refine WE.op ?_ | with_reducible refine WE.call ?_ | with_reducible refine WE.callM ?_ | with_reducible refine WE.un ?_ | with_reducible refine WE.tup ?_ | with_reducible refine WE.lst ?_ | with_reducible refine WE.newL ?_ | with_reducible refine WE.eif ?_ | with_reducible refine WE.sl ?_ | with_reducible refine WE.isN ?_ | with_reducible refine WE.notN ?_ | with_reducible refine WE.not ?_ | with_reducible refine WE.and ?_ | with_reducible refine WE.or ?_ | with_reducible refine WE.app ?_ | with_reducible refine WE.tupR ?_ | with_reducible refine WE.lisR ?_ | with_reducible refine WE.m1 ?_ | with_reducible refine WE.tbl ?_ | with_reducible refine WE.tblNin ?_ | with_reducible refine WE.chain ?_ | with_reducible refine WE.fldF ?_ | with_reducible refine WE.mth ?_ | with_reducible refine WE.disp ?_ | with_reducible refine WE.dicC ?_ | with_reducible refine WP.nil ?_ | with_reducible refine WP.cons ?_ | with_reducible refine WE.upd ?_ | with_reducible refine WA.nil ?_ | with_reducible refine WA.cons ?_ | with_reducible refine WA.star ?_ | with_reducible refine WO.no ?_ | with_reducible refine WO.yes ?_ | with_reducible refine WT.val ?_ | with_reducible refine WT.and ?_ | with_reducible refine WT.or ?_ | with_reducible refine WT.not ?_ | with_reducible refine WT.tt ?_ | with_reducible refine WI.it ?_ | with_reducible refine Kn.add_i ?_ | with_reducible refine Kn.sub ?_ | with_reducible refine Kn.neg ?_ | with_reducible refine Kn.eq_i ?_ | with_reducible refine Kn.ne_i ?_ | with_reducible refine Kn.lt ?_ | with_reducible refine Kn.le ?_ | with_reducible refine Kn.gt ?_ | with_reducible refine Kn.ge ?_ | with_reducible refine Kn.int_i ?_ | with_reducible refine Kn.int_b ?_ | with_reducible refine Kn.abs ?_ | with_reducible refine Kn.min2 ?_ | with_reducible refine Kn.max2 ?_ | with_reducible refine Kn.len_t ?_ | with_reducible refine Kn.len_l ?_ | with_reducible refine Kn.len_s ?_ | with_reducible refine Kn.tup_t ?_ | with_reducible refine Kn.tup_l ?_ | with_reducible refine Kn.lis_t ?_ | with_reducible refine Kn.lis_l ?_ | with_reducible refine Kn.seq_t ?_ | with_reducible refine Kn.seq_l ?_ | with_reducible refine Kn.it_t ?_ | with_reducible refine Kn.it_l ?_ | with_reducible refine Kn.it_s ?_ | with_reducible refine Kn.str_s ?_ | with_reducible refine Kn.sl_t ?_ | with_reducible refine Kn.sl_l ?_ | with_reducible refine Kn.sl_rt ?_ | with_reducible refine Kn.ix_rt1 ?_ | with_reducible refine Kn.ix_rt2 ?_ | with_reducible refine Kn.kx_need ?_ | with_reducible refine Kn.kx_of ?_ | with_reducible refine Kn.kx_base ?_ | with_reducible refine Kn.kx_more ?_ | with_reducible refine Kn.kx_most ?_ | with_reducible refine Kn.kx_calm ?_ | with_reducible refine Kn.kx_back ?_ | with_reducible refine Kn.kx_under ?_ | with_reducible refine Kn.kx_top ?_ | with_reducible refine Kn.kx_up ?_ | with_reducible refine Kn.kx_hears ?_ | with_reducible refine Fld.need ?_ | with_reducible refine Fld.of ?_ | with_reducible refine Fld.base ?_ | with_reducible refine Fld.more ?_ | with_reducible refine Fld.most ?_ | with_reducible refine Fld.calm ?_ | with_reducible refine Fld.back ?_ | with_reducible refine Fld.top ?_ | with_reducible refine Fld.under ?_ | with_reducible refine Fld.up ?_ | with_reducible refine Fld.hears ?_ | with_reducible refine Fld.cap ?_ | with_reducible refine Mth.time ?_ | ((with_reducible refine WG.nm ?_); dsimp only [setMany, List.set_cons_succ, List.set_cons_zero]) | ((with_reducible refine WG.one ?_); dsimp only [setMany, List.set_cons_succ, List.set_cons_zero]) | ((with_reducible refine WG.tup ?_ ?_); exact rfl; dsimp only [setMany, List.set_cons_succ, List.set_cons_zero]) | ((with_reducible apply WE.var); exact rfl) | ((with_reducible apply WS.aug); exact rfl) | ((with_reducible apply WE.newPL); exact rfl) | ((with_reducible refine WS.ite_t ?_ ?_); exact rfl) | ((with_reducible refine WS.ite_f ?_ ?_); exact rfl) | ((with_reducible refine WE.ite_t ?_ ?_); exact rfl) | ((with_reducible refine WE.ite_f ?_ ?_); exact rfl) | ((with_reducible refine w_and_t ?_ ?_); exact rfl) | ((with_reducible refine w_and_f ?_ ?_); exact rfl) | ((with_reducible refine w_or_t ?_ ?_); exact rfl) | ((with_reducible refine w_or_f ?_ ?_); exact rfl) | ((with_reducible refine Kn.fdiv ?_ ?_); exact ⟨by decide, by decide⟩) | ((with_reducible refine Kn.mod ?_ ?_); decide) | ((with_reducible refine And.intro (a := (_ && _) = true) ?_ ?_); exact rfl) | ((with_reducible refine And.intro (a := List.length _ = List.length _) ?_ ?_); exact rfl; dsimp only [setMany, List.set_cons_succ, List.set_cons_zero]) | ((with_reducible refine ⟨wsz ?_, ?_⟩); first | decide | (show (_ : Nat) ≤ 1000; simp only [List.length_cons, List.length_nil]; decide)) | with_reducible refine ⟨_, rfl, ?_⟩)))
theorem all06 (hr : r.Dr) (hq : q.Dr) (x0 x1 x2 x5 x6 x7 x8 x9 : Option D) : WS f_law_7 [x0, x1, x2, some (.tup r.args), some (.tup q.args), x5, x6, x7, x8, x9] m fun rr m' => m' = m ∧ ∃ y5 y6 y7 y8, rr = .nx [x0, x1, x2, some (.tup r.args), some (.tup q.args), y5, y6, y7, y8, x9] := by
  have hn := hr.tn
  have kn := hq.tn
  unfold f_law_7
  trivial
  refine Kn.callKa pure_a (made_a hr.va) ?_
  trivial
  refine Kn.callKa pure_a (text_a hn) ?_
  trivial
  refine Kn.call pure1s (read_ok hn hr.va) ?_
  trivial
  unfold f_law_5
  trivial
  refine Kn.mk (strO_ok hn) ?_
  trivial
  refine Kn.mk (ne_strs (txt_strOk hn) (txt_strOk hn)) ?_
  rw [beq_self_eq_true]
  trivial
  refine Kn.mk (strO_ok hn) ?_
  trivial
  refine Kn.mk (ne_strs (txt_strOk hn) (txt_strOk hn)) ?_
  rw [beq_self_eq_true]
  trivial
  refine Kn.mk (neOD_ok hn hn) ?_
  rw [beq_self_eq_true]
  trivial
  unfold f_law_3
  obtain ⟨z, hz, hzo⟩ := rep_args (m := m) hn
  trivial
  refine Kn.add_t (wsz (by show 11 ≤ 1000; decide)) ?_
  trivial
  refine Kn.mk hz ?_
  trivial
  refine Kn.mk hz ?_
  refine Kn.mk (ne_strs hzo hzo) ?_
  rw [beq_self_eq_true]
  trivial
  rw [beq_self_eq_true]
  trivial
  refine Kn.callKa pure_a (made_a hq.va) ?_
  trivial
  refine Kn.mk (strO_ok kn) ?_
  trivial
  refine Kn.mk (eq_strs (txt_strOk kn) (txt_strOk hn)) ?_
  trivial
  refine Kn.mk (eq_args kn hn hq.va hr.va) ?_
  refine Kn.mk (ne_bla _) ?_
  trivial
  refine Kn.callKa pure_a (text_a kn) ?_
  trivial
  refine Kn.call pure1s (read_ok kn hq.va) ?_
  trivial
  refine Kn.mk (eqOD_ok kn hn) ?_
  trivial
  refine Kn.mk (eq_args kn hn hq.va hr.va) ?_
  refine Kn.mk (ne_bla _) ?_
  trivial
  exact ⟨rfl, _, _, _, _, rfl⟩
end
end L4

namespace L4
open PySem
section
variable {m : M} {r q : Ru}
def I06 (s : D) (m : M) (ρ : Ss) : Prop := AX [] m ∧ ∃ x2 x3 x4 x5 x6 x7 x8 x9, ρ = [some s, some (.ref 1), x2, x3, x4, x5, x6, x7, x8, x9]
def Ru.more10 (r : Ru) (i : Int) : Ru := { r with under := r.under + 10 + i }
theorem more10_dr {i : Int} (h : r.Dr) (hu : r.under ≤ 6) (h0 : 0 ≤ i) (h5 : i < 5) : (r.more10 i).Dr := by
  obtain ⟨⟨a1, a2, a3, a4, a5, a6, a7, a8, a9, b1, b2⟩, c1, c2, c3, c4, c5, c6⟩ := h
  exact ⟨⟨a1, a2, a3, a4, a5, a6, a7, by show 1 ≤ r.under + 10 + i; omega, by show r.top ≤ r.under + 10 + i; omega, b1, b2⟩, c1, c2, c3, c4, c5, by show r.under + 10 + i ≤ 40; omega⟩
def rPlain : Ru := ⟨2, 3, 4, 0, 9, 6, .half, 0, 20, false, .out, 1⟩
theorem plain_va : rPlain.Va := ⟨by decide, by decide, by decide, by decide, by decide, by decide, by decide, by decide, by decide, by decide, rfl⟩
theorem plain_tn : rPlain.Tn := ⟨by decide, by decide, by decide, by decide, by decide, by decide, by decide, by decide⟩
theorem plain_eq : eqD m (.str rPlain.txt) (.str "leave 2 of 3 out 4 more 0 most 9 calm 6 back half share 0/20 down hears out") = some (.bl true) := eqB (by kernel_rfl)
local macro_rules | `(tactic| trivial) => `(tactic| (repeat (first | with_reducible refine WS.seq ?_ | with_reducible refine WS.nx ?_ | with_reducible refine WS.rt ?_ | with_reducible refine WS.asg ?_ | with_reducible refine WS.drop ?_ | with_reducible refine WS.ret ?_ | with_reducible refine WS.nop ?_ | with_reducible refine WS.retN ?_ | with_reducible refine WS.brk ?_ | with_reducible refine WS.cont ?_ | with_reducible refine WS.sif ?_ | with_reducible refine WS.par ?_ | with_reducible refine WG.setA ?_ | with_reducible refine WE.c ?_ | with_reducible refine WE.op ?_ | with_reducible refine WE.call ?_ | with_reducible refine WE.callM ?_ | with_reducible refine WE.un ?_ | with_reducible refine WE.tup ?_ | with_reducible refine WE.lst ?_ | with_reducible refine WE.newL ?_ | with_reducible refine WE.eif ?_ | with_reducible refine WE.sl ?_ | with_reducible refine WE.isN ?_ | with_reducible refine WE.notN ?_ | with_reducible refine WE.not ?_ | with_reducible refine WE.and ?_ | with_reducible refine WE.or ?_ | with_reducible refine WE.app ?_ | with_reducible refine WE.tupR ?_ | with_reducible refine WE.lisR ?_ | with_reducible refine WE.m1 ?_ | with_reducible refine WE.tbl ?_ | with_reducible refine WE.tblNin ?_ | with_reducible refine WE.chain ?_ | with_reducible refine WE.fldF ?_ | with_reducible refine WE.mth ?_ | with_reducible refine WE.disp ?_ | with_reducible refine WE.dicC ?_ | with_reducible refine WP.nil ?_ | with_reducible refine WP.cons ?_ | with_reducible refine WE.upd ?_ | with_reducible refine WA.nil ?_ | with_reducible refine WA.cons ?_ | with_reducible refine WA.star ?_ | with_reducible refine WO.no ?_ | with_reducible refine WO.yes ?_ | with_reducible refine WT.val ?_ | with_reducible refine WT.and ?_ | with_reducible refine WT.or ?_ | with_reducible refine WT.not ?_ | with_reducible refine WT.tt ?_ | with_reducible refine WI.it ?_ | with_reducible refine Kn.add_i ?_ | with_reducible refine Kn.sub ?_ | with_reducible refine Kn.neg ?_ | with_reducible refine Kn.eq_i ?_ | with_reducible refine Kn.ne_i ?_ | with_reducible refine Kn.lt ?_ | with_reducible refine Kn.le ?_ | with_reducible refine Kn.gt ?_ | with_reducible refine Kn.ge ?_ | with_reducible refine Kn.int_i ?_ | with_reducible refine Kn.int_b ?_ | with_reducible refine Kn.abs ?_ | with_reducible refine Kn.min2 ?_ | with_reducible refine Kn.max2 ?_ | with_reducible refine Kn.len_t ?_ | with_reducible refine Kn.len_l ?_ | with_reducible refine Kn.len_s ?_ | with_reducible refine Kn.tup_t ?_ | with_reducible refine Kn.tup_l ?_ | with_reducible refine Kn.lis_t ?_ | with_reducible refine Kn.lis_l ?_ | with_reducible refine Kn.seq_t ?_ | with_reducible refine Kn.seq_l ?_ | with_reducible refine Kn.it_t ?_ | with_reducible refine Kn.it_l ?_ | with_reducible refine Kn.it_s ?_ | with_reducible refine Kn.str_s ?_ | with_reducible refine Kn.sl_t ?_ | with_reducible refine Kn.sl_l ?_ | with_reducible refine Kn.sl_rt ?_ | with_reducible refine Kn.ix_rt1 ?_ | with_reducible refine Kn.ix_rt2 ?_ | with_reducible refine Kn.kx_need ?_ | with_reducible refine Kn.kx_of ?_ | with_reducible refine Kn.kx_base ?_ | with_reducible refine Kn.kx_more ?_ | with_reducible refine Kn.kx_most ?_ | with_reducible refine Kn.kx_calm ?_ | with_reducible refine Kn.kx_back ?_ | with_reducible refine Kn.kx_under ?_ | with_reducible refine Kn.kx_top ?_ | with_reducible refine Kn.kx_up ?_ | with_reducible refine Kn.kx_hears ?_ | with_reducible refine Fld.need ?_ | with_reducible refine Fld.of ?_ | with_reducible refine Fld.base ?_ | with_reducible refine Fld.more ?_ | with_reducible refine Fld.most ?_ | with_reducible refine Fld.calm ?_ | with_reducible refine Fld.back ?_ | with_reducible refine Fld.top ?_ | with_reducible refine Fld.under ?_ | with_reducible refine Fld.up ?_ | with_reducible refine Fld.hears ?_ | with_reducible refine Fld.cap ?_ | with_reducible refine Mth.time ?_ | ((with_reducible refine WG.nm ?_); dsimp only [setMany, List.set_cons_succ, List.set_cons_zero]) | ((with_reducible refine WG.one ?_); dsimp only [setMany, List.set_cons_succ, List.set_cons_zero]) | ((with_reducible refine WG.tup ?_ ?_); exact rfl; dsimp only [setMany, List.set_cons_succ, List.set_cons_zero]) | ((with_reducible apply WE.var); exact rfl) | ((with_reducible apply WS.aug); exact rfl) | ((with_reducible apply WE.newPL); exact rfl) | ((with_reducible refine WS.ite_t ?_ ?_); exact rfl) | ((with_reducible refine WS.ite_f ?_ ?_); exact rfl) | ((with_reducible refine WE.ite_t ?_ ?_); exact rfl) | ((with_reducible refine WE.ite_f ?_ ?_); exact rfl) | ((with_reducible refine w_and_t ?_ ?_); exact rfl) | ((with_reducible refine w_and_f ?_ ?_); exact rfl) | ((with_reducible refine w_or_t ?_ ?_); exact rfl) | ((with_reducible refine w_or_f ?_ ?_); exact rfl) | ((with_reducible refine Kn.fdiv ?_ ?_); exact ⟨by decide, by decide⟩) | ((with_reducible refine Kn.mod ?_ ?_); decide) | ((with_reducible refine And.intro (a := (_ && _) = true) ?_ ?_); exact rfl) | ((with_reducible refine And.intro (a := List.length _ = List.length _) ?_ ?_); exact rfl; dsimp only [setMany, List.set_cons_succ, List.set_cons_zero]) | ((with_reducible refine ⟨wsz ?_, ?_⟩); first | decide | (show (_ : Nat) ≤ 1000; simp only [List.length_cons, List.length_nil]; decide)) | with_reducible refine ⟨_, rfl, ?_⟩)))
theorem turn06 {s : D} (h : AX [] m) (x2 x3 x4 x5 x6 x7 x8 x9 : Option D) : WS f_law_10 [some s, some (.ref 1), x2, x3, x4, x5, x6, x7, x8, x9] m fun rr m' => ∃ ρ, rr = .nx ρ ∧ I06 s m' ρ := by
  have fin : ∀ (r : Ru) (m : M), r.Dr → AX [] m → WS f_law_8 [some s, some (.ref 1), x2, some (.tup r.args), x4, x5, x6, x7, x8, x9] m fun rr m' => ∃ ρ, rr = .nx ρ ∧ I06 s m' ρ := fun r m hr h => by
    unfold f_law_8
    trivial
    refine drawn_a h fun q m1 hq _ h => ?_
    trivial
    refine WS.mono (all06 hr hq _ _ _ _ _ _ _ _) ?_
    rintro _ _ ⟨rfl, y5, y6, y7, y8, rfl⟩
    exact ⟨_, rfl, h, _, _, _, _, _, _, _, _, rfl⟩
  unfold f_law_10
  refine WS.seq (WS.asg (WE.callM ?_))
  trivial
  refine drawn_a h fun r m1 hr hu h => ?_
  refine WG.nm ?_
  dsimp only [List.set_cons_succ, List.set_cons_zero]
  refine WS.nx ?_
  unfold f_law_9
  refine WS.seq (WS.sif ?_)
  trivial
  refine draw_a h (by decide) (by decide) fun i m2 i0 i1 h => ?_
  trivial
  cases hi : (i == 0)
  · refine WS.ite_f rfl ?_
    refine WS.nop ?_
    refine WS.nx ?_
    exact fin r m2 hr h
  · refine WS.ite_t rfl ?_
    trivial
    refine Kn.ix_t (i := 8) (ds := r.args) rfl ?_
    trivial
    refine draw_a h (by decide) (by decide) fun j m3 j0 j1 h => ?_
    refine Kn.add_i ?_
    refine WA.nil ?_
    refine ⟨wsz (by show 1 ≤ 1000; decide), ?_⟩
    refine Kn.add_t (wsz (by show 9 ≤ 1000; decide)) ?_
    trivial
    refine Kn.add_t (wsz (by show 11 ≤ 1000; decide)) ?_
    refine WG.nm ?_
    refine WS.nx ?_
    exact fin (r.more10 j) m3 (more10_dr hr hu j0 j1) h
theorem law_plain : ∀ ns : List Int, ns.length ≤ 63 → F_law [.scr (ns.map D.int)] = some (.bl true) := by
  intro ns hn
  refine WS.runP (n := 10) (b := f_law) ?_ rfl
  show WS _ [some (.scr (ns.map D.int)), none, none, none, none, none, none, none, none, none] [] _
  trivial
  refine deal_a ns hn _ fun m h => ?_
  trivial
  refine WS.forI (fun i ρ m' => I06 (.scr (ns.map D.int)) m' ρ) ?_
  refine WI.r1 ?_
  trivial
  refine ⟨by omega, ⟨h, _, _, _, _, _, _, _, _, rfl⟩, ?_, ?_⟩
  · rintro i x ρ m1 hi ⟨h, x2, x3, x4, x5, x6, x7, x8, x9, rfl⟩
    trivial
    refine WS.mono (turn06 h _ _ _ _ _ _ _ _) ?_
    rintro _ m3 ⟨ρ, rfl, h1⟩
    exact ⟨ρ, .inl rfl, h1⟩
  · rintro ρ m1 ⟨h, x2, x3, x4, x5, x6, x7, x8, x9, rfl⟩
    trivial
    unfold f_law_12
    trivial
    refine Kn.mk (new_ok plain_va) ?_
    trivial
    refine Kn.mk (strO_ok plain_tn) ?_
    trivial
    refine Kn.mk plain_eq ?_
    trivial
    exact frz_p rfl
end
end L4

namespace L4
open PySem L2 TL
open L3 (Df Md Ki Cmd)
def top (i : Nat) : Stmt := PySem.Challenge.pw_sitout_k06_texts_of_rules.main.body.getD i (.Pass ⟨0, 0, 0, 0⟩)
abbrev s__law_deal : Stmt := top 23
theorem sc__law_deal : FnScope ["_law_script", "_law_base", "_law_cell", "_law_cells", "_law_mixed", "_law_great"] ["_law_script", "_law_base"] (defScope s__law_deal) := ⟨rfl, rfl, rfl, by decide +kernel, rfl, by decide +kernel, by decide +kernel⟩
abbrev s__law_draw : Stmt := top 24
theorem sc__law_draw : FnScope ["_law_deal_here", "_law_many", "_law_digit", "_law_first", "_law_second"] ["_law_deal_here", "_law_many"] (defScope s__law_draw) := ⟨rfl, rfl, rfl, by decide +kernel, rfl, by decide +kernel, by decide +kernel⟩
abbrev s__law_pick : Stmt := top 25
theorem sc__law_pick : FnScope ["_law_deal_here", "_law_some"] ["_law_deal_here", "_law_some"] (defScope s__law_pick) := ⟨rfl, rfl, rfl, by decide +kernel, rfl, by decide +kernel, by decide +kernel⟩
abbrev s__law_drawn_rule : Stmt := top 26
theorem sc__law_drawn_rule : FnScope ["_law_deal_here", "_law_window", "_law_base", "_law_under", "_law_first", "_law_top", "_law_back", "_law_hears"] ["_law_deal_here"] (defScope s__law_drawn_rule) := ⟨rfl, rfl, rfl, by decide +kernel, rfl, by decide +kernel, by decide +kernel⟩
abbrev s__law_rule_text : Stmt := top 28
theorem sc__law_rule_text : FnScope ["_law_one", "_law_words"] ["_law_one"] (defScope s__law_rule_text) := ⟨rfl, rfl, rfl, by decide +kernel, rfl, by decide +kernel, by decide +kernel⟩
abbrev s_is_integer : Stmt := top 7
theorem sc_is_integer : FnScope ["value"] ["value"] (defScope s_is_integer) := ⟨rfl, rfl, rfl, by decide +kernel, rfl, by decide +kernel, by decide +kernel⟩
abbrev s_is_from : Stmt := top 9
theorem sc_is_from : FnScope ["value", "least"] ["value", "least"] (defScope s_is_from) := ⟨rfl, rfl, rfl, by decide +kernel, rfl, by decide +kernel, by decide +kernel⟩
abbrev s_is_number : Stmt := top 8
theorem sc_is_number : FnScope ["value"] ["value"] (defScope s_is_number) := ⟨rfl, rfl, rfl, by decide +kernel, rfl, by decide +kernel, by decide +kernel⟩
abbrev s_wrong_number : Stmt := top 16
theorem sc_wrong_number : FnScope ["need", "of", "base", "more", "most", "calm"] ["need", "of", "base", "more", "most", "calm"] (defScope s_wrong_number) := ⟨rfl, rfl, rfl, by decide +kernel, rfl, by decide +kernel, by decide +kernel⟩
abbrev s_is_word : Stmt := top 10
theorem sc_is_word : FnScope ["value", "some"] ["value", "some"] (defScope s_is_word) := ⟨rfl, rfl, rfl, by decide +kernel, rfl, by decide +kernel, by decide +kernel⟩
abbrev s_wrong_word : Stmt := top 17
theorem sc_wrong_word : FnScope ["back", "top", "under", "up", "hears"] ["back", "top", "under", "up", "hears"] (defScope s_wrong_word) := ⟨rfl, rfl, rfl, by decide +kernel, rfl, by decide +kernel, by decide +kernel⟩
abbrev s_Rule___init__ : Stmt := inClass (top 20) 0
theorem sc_Rule___init__ : FnScope ["self", "need", "of", "base", "more", "most", "calm", "back", "top", "under", "up", "hears", "word"] ["self", "need", "of", "base", "more", "most", "calm", "back", "top", "under", "up", "hears"] (defScope s_Rule___init__) := ⟨rfl, rfl, rfl, by decide +kernel, rfl, by decide +kernel, by decide +kernel⟩
abbrev s__law_made : Stmt := top 27
theorem sc__law_made : FnScope ["_law_one"] ["_law_one"] (defScope s__law_made) := ⟨rfl, rfl, rfl, by decide +kernel, rfl, by decide +kernel, by decide +kernel⟩
abbrev s_number_in : Stmt := top 11
theorem sc_number_in : FnScope ["word", "most", "sign"] ["word", "most"] (defScope s_number_in) := ⟨rfl, rfl, rfl, by decide +kernel, rfl, by decide +kernel, by decide +kernel⟩
abbrev s_numbers_in : Stmt := top 18
theorem sc_numbers_in : FnScope ["words", "found", "word"] ["words"] (defScope s_numbers_in) := ⟨rfl, rfl, rfl, by decide +kernel, rfl, by decide +kernel, by decide +kernel⟩
abbrev s_share_in : Stmt := top 19
theorem sc_share_in : FnScope ["word", "parts"] ["word"] (defScope s_share_in) := ⟨rfl, rfl, rfl, by decide +kernel, rfl, by decide +kernel, by decide +kernel⟩
abbrev s_words_between : Stmt := top 21
theorem sc_words_between : FnScope ["words", "found", "at", "word"] ["words"] (defScope s_words_between) := ⟨rfl, rfl, rfl, by decide +kernel, rfl, by decide +kernel, by decide +kernel⟩
abbrev s_Rule_read : Stmt := inClass (top 20) 1
theorem sc_Rule_read : FnScope ["cls", "text", "words", "plain", "share", "back", "up", "hears", "at"] ["cls", "text"] (defScope s_Rule_read) := ⟨rfl, rfl, rfl, by decide +kernel, rfl, by decide +kernel, by decide +kernel⟩
abbrev s_Rule___str__ : Stmt := inClass (top 20) 6
theorem sc_Rule___str__ : FnScope ["self", "numbers", "way"] ["self"] (defScope s_Rule___str__) := ⟨rfl, rfl, rfl, by decide +kernel, rfl, by decide +kernel, by decide +kernel⟩
abbrev s_Rule___eq__ : Stmt := inClass (top 20) 5
theorem sc_Rule___eq__ : FnScope ["self", "other"] ["self", "other"] (defScope s_Rule___eq__) := ⟨rfl, rfl, rfl, by decide +kernel, rfl, by decide +kernel, by decide +kernel⟩
abbrev s_law : Stmt := top 29
theorem sc_law : FnScope ["_law_script", "_law_deal_here", "_law_turn", "_law_one", "_law_other", "_law_made_here", "_law_text", "_law_again", "_law_told", "_law_plain"] ["_law_script"] (defScope s_law) := ⟨rfl, rfl, rfl, by decide +kernel, rfl, by decide +kernel, by decide +kernel⟩
structure Tx (w : World) (K : PySem.W.Frag) (mg : Str → Option Value) : Prop where
  b_abs : mg "abs" = none
  b_all : mg "all" = none
  b_bool : mg "bool" = none
  b_int : mg "int" = none
  b_isinstance : mg "isinstance" = none
  b_len : mg "len" = none
  b_list : mg "list" = none
  b_range : mg "range" = none
  b_repr : mg "repr" = none
  b_str : mg "str" = none
  b_zip : mg "zip" = none
  c_Rule : Cls K (He.ga K "Rule")
  n_Rule_back : NoAttr K (He.ga K "Rule") "back"
  n_Rule_base : NoAttr K (He.ga K "Rule") "base"
  n_Rule_calm : NoAttr K (He.ga K "Rule") "calm"
  n_Rule_cap : NoAttr K (He.ga K "Rule") "cap"
  n_Rule_hears : NoAttr K (He.ga K "Rule") "hears"
  n_Rule_more : NoAttr K (He.ga K "Rule") "more"
  n_Rule_most : NoAttr K (He.ga K "Rule") "most"
  n_Rule_need : NoAttr K (He.ga K "Rule") "need"
  n_Rule_of : NoAttr K (He.ga K "Rule") "of"
  n_Rule_top : NoAttr K (He.ga K "Rule") "top"
  n_Rule_under : NoAttr K (He.ga K "Rule") "under"
  n_Rule_up : NoAttr K (He.ga K "Rule") "up"
  ic_Rule : C8.InsC K (He.ga K "Rule")
  ne_Rule : L3.NeC K (He.ga K "Rule")
  g_Rule : mg "Rule" = some (.ref (He.ga K "Rule"))
  g_BACKS : mg "BACKS" = some (.ref (He.ga K "BACKS"))
  t_BACKS : ∀ H, SqT K H (He.ga K "BACKS") [.str "half", .str "open", .str "trial"]
  g_DIGITS : ∃ t, mg "DIGITS" = some (.str "0123456789" t)
  g_HEARD : mg "HEARD" = some (.ref (He.ga K "HEARD"))
  t_HEARD : ∀ H, SqT K H (He.ga K "HEARD") [.str "fault", .str "no", .str "out"]
  g_ROUNDS : mg "ROUNDS" = some (.ref (He.ga K "ROUNDS"))
  tbl_ROUNDS : ∀ X : Cx, X.K = K → X.w = w → Tbl X "ROUNDS" tb_ROUNDS
  d__law_deal : Df K mg "_law_deal" s__law_deal
  d__law_draw : Df K mg "_law_draw" s__law_draw
  d__law_pick : Df K mg "_law_pick" s__law_pick
  d__law_drawn_rule : Df K mg "_law_drawn_rule" s__law_drawn_rule
  d__law_rule_text : Df K mg "_law_rule_text" s__law_rule_text
  d_is_integer : Df K mg "is_integer" s_is_integer
  d_is_from : Df K mg "is_from" s_is_from
  d_is_number : Df K mg "is_number" s_is_number
  d_wrong_number : Df K mg "wrong_number" s_wrong_number
  d_is_word : Df K mg "is_word" s_is_word
  d_wrong_word : Df K mg "wrong_word" s_wrong_word
  k_Rule : Ki K mg "Rule" (He.ga K "Rule") "Rule.__init__" s_Rule___init__
  d__law_made : Df K mg "_law_made" s__law_made
  d_number_in : Df K mg "number_in" s_number_in
  d_numbers_in : Df K mg "numbers_in" s_numbers_in
  d_share_in : Df K mg "share_in" s_share_in
  d_words_between : Df K mg "words_between" s_words_between
  cd_Rule_read : Cmd K (He.ga K "Rule") "read" "Rule.read" s_Rule_read
  d_Rule___str__ : Md K (He.ga K "Rule") "__str__" "Rule.__str__" s_Rule___str__
  d_Rule___eq__ : Md K (He.ga K "Rule") "__eq__" "Rule.__eq__" s_Rule___eq__
  d_law : Df K mg "law" s_law
section
variable {P : Program} {w : World} {K : PySem.W.Frag} {mg : Str → Option Value} {base : Heap}
theorem Tx.F__law_deal (T : Tx w K mg) : MFn P w K mg base 1 "_law_deal" 2 F__law_deal :=
  mfn_df T.d__law_deal (k := 0) (b := f__law_deal) sc__law_deal (fun _ _ _ _ _ _ us hl => match us, hl with | [_, _], _ => rfl) fun f cdv A outer s H E gd =>
    dss_cons (ds_setLc (i := 3) rfl sc__law_deal.nd rfl rfl (sw_true rfl rfl rfl (by decide +kernel)) (di_any (de_sl (dv 0) (dp_yes (dv 1)) (dp_yes (de_int)))) (blkOk_by (own := [("_law_cell", 2)]) (N := ["_law_script", "_law_base", "_law_cell", "_law_cells", "_law_mixed", "_law_great"]) (sc := defScope s__law_deal) (by decide +kernel)) (fun _ _ _ _ _ => dgn_name (i := 2) sc__law_deal.nd rfl (Or.inl rfl)) (fun _ _ _ _ _ => dts_nil) (fun _ _ _ _ _ => de_callB call_abs' (by rfl) T.b_abs (by decide +kernel) (da_cons (dv 2) (da_nil))))
    (dss_cons (ds_set (i := 4) sc__law_deal.nd rfl (Or.inl rfl) (de_op op_add' (de_int) (dv 1)))
    (dss_cons (ds_forA big PassesOwn.never rfl (dv 3) (dg_of (dgn_name (i := 2) sc__law_deal.nd rfl (Or.inl rfl))) (dss_one (ds_set (i := 4) sc__law_deal.nd rfl (Or.inl rfl) (de_op op_mod' (de_callT call_int' (by rfl) T.b_int (by decide +kernel) (da_cons (de_op op_add' (de_op op_mul' (dv 4) (de_int)) (dv 2)) (da_nil))) (de_int)))))
    (dss_cons (ds_setLc (i := 5) rfl sc__law_deal.nd rfl rfl (sw_true rfl rfl rfl (by decide +kernel)) (di_any (dv 3)) (blkOk_by (own := [("_law_cell", 2)]) (N := ["_law_script", "_law_base", "_law_cell", "_law_cells", "_law_mixed", "_law_great"]) (sc := defScope s__law_deal) (by decide +kernel)) (fun _ _ _ _ _ => dgn_name (i := 2) sc__law_deal.nd rfl (Or.inl rfl)) (fun _ _ _ _ _ => dts_one (dt_cmp op_ge' (dv 2) (de_op op_pow' (de_int) (de_int)) (nomark _))) (fun _ _ _ _ _ => dv 2))
    (dss_one (ds_ret (de_disp (dps_cons (de_str) (de_rev (dv 5)) (dps_cons (de_str) (de_int) (dps_cons (de_str) (de_op op_add' (dv 4) (de_int)) (dps_cons (de_str) (de_int) (dps_nil)))))))))))
theorem Tx.F__law_draw (T : Tx w K mg) : MFn P w K mg base 1 "_law_draw" 2 F__law_draw :=
  mfn_df T.d__law_draw (k := 0) (b := f__law_draw) sc__law_draw (fun _ _ _ _ _ _ us hl => match us, hl with | [_, _], _ => rfl) fun f cdv A outer s H E gd =>
    dss_cons (ds_while big PassesOwn.never (dt_w (dw_and (dt_cmp (op_eq' gd) (de_ixA gd (dv 0) (de_str)) (de_int) (nomark _)) (dw_and1 (dt_cmp op_gt' (de_callB call_len' (by rfl) T.b_len (by decide +kernel) (da_cons (de_ixA gd (dv 0) (de_str)) (da_nil))) (de_int) (nomark _))))) (dss_one (ds_asg (de_pop (de_ixA gd (dv 0) (de_str))) (dg_subA gd (dv 0) (de_str)))))
    (dss_cons (ds_if (dt_cmp op_gt' (de_ixA gd (dv 0) (de_str)) (de_int) (nomark _)) (dss_cons (ds_set (i := 2) sc__law_draw.nd rfl (Or.inl rfl) (de_op op_mod' (de_callT call_int' (by rfl) T.b_int (by decide +kernel) (da_cons (de_ixA gd (dv 0) (de_str)) (da_nil))) (dv 1)))
    (dss_cons (ds_asg (de_op op_fdiv' (de_ixA gd (dv 0) (de_str)) (dv 1)) (dg_subA gd (dv 0) (de_str)))
    (dss_one (ds_ret (dv 2))))) (dss_nil))
    (dss_cons (ds_asg (de_op op_add' (de_ixA gd (dv 0) (de_str)) (de_int)) (dg_subA gd (dv 0) (de_str)))
    (dss_cons (ds_set (i := 3) sc__law_draw.nd rfl (Or.inl rfl) (de_op op_mod' (de_callT call_int' (by rfl) T.b_int (by decide +kernel) (da_cons (de_op op_add' (de_op op_mul' (de_ixA gd (dv 0) (de_str)) (de_int)) (de_op op_mul' (de_ixA gd (dv 0) (de_str)) (de_int))) (da_nil))) (de_int)))
    (dss_cons (ds_set (i := 4) sc__law_draw.nd rfl (Or.inl rfl) (de_op op_mod' (de_callT call_int' (by rfl) T.b_int (by decide +kernel) (da_cons (de_op op_add' (de_op op_mul' (dv 3) (dv 3)) (de_op op_mul' (de_ixA gd (dv 0) (de_str)) (de_int))) (da_nil))) (de_int)))
    (dss_cons (ds_asg (de_op op_add' (de_op op_mod' (de_callT call_int' (by rfl) T.b_int (by decide +kernel) (da_cons (de_op op_add' (de_op op_mul' (dv 4) (de_int)) (dv 3)) (da_nil))) (de_int)) (de_int)) (dg_subA gd (dv 0) (de_str)))
    (dss_one (ds_ret (de_op op_mod' (de_callT call_int' (by rfl) T.b_int (by decide +kernel) (da_cons (de_op op_add' (de_op op_fdiv' (dv 4) (de_int)) (dv 3)) (da_nil))) (dv 1)))))))))
theorem Tx.F__law_pick (T : Tx w K mg) : MFn P w K mg base 2 "_law_pick" 2 F__law_pick :=
  mfn_df T.d__law_pick (k := 1) (b := f__law_pick) sc__law_pick (fun _ _ _ _ _ _ us hl => match us, hl with | [_, _], _ => rfl) fun f cdv A outer s H E gd =>
    dss_one (ds_ret (de_ixA gd (dv 1) (de_mfn T.F__law_draw (gd.mono (by decide)) (by rfl) (da_cons (dv 0) (da_cons (de_callB call_len' (by rfl) T.b_len (by decide +kernel) (da_cons (dv 1) (da_nil))) (da_nil))))))
theorem Tx.F__law_drawn_rule (T : Tx w K mg) : MFn P w K mg base 3 "_law_drawn_rule" 1 F__law_drawn_rule :=
  mfn_df T.d__law_drawn_rule (k := 2) (b := f__law_drawn_rule) sc__law_drawn_rule (fun _ _ _ _ _ _ us hl => match us, hl with | [_], _ => rfl) fun f cdv A outer s H E gd =>
    dss_cons (ds_set (i := 1) sc__law_drawn_rule.nd rfl (Or.inl rfl) (de_op op_add' (de_int) (de_mfn T.F__law_draw (gd.mono (by decide)) (by rfl) (da_cons (dv 0) (da_cons (de_int) (da_nil))))))
    (dss_cons (ds_par (by rfl) sc__law_drawn_rule.nd (i := 2) (j := 3) rfl rfl (by decide) rfl rfl (da_cons (de_op op_add' (de_int) (de_mfn T.F__law_draw (gd.mono (by decide)) (by rfl) (da_cons (dv 0) (da_cons (de_int) (da_nil))))) (da_cons (de_op op_add' (de_int) (de_mfn T.F__law_draw (gd.mono (by decide)) (by rfl) (da_cons (dv 0) (da_cons (de_int) (da_nil))))) (da_nil))) (by rfl))
    (dss_cons (ds_set (i := 4) sc__law_drawn_rule.nd rfl (Or.inl rfl) (de_tup (da_cons (de_op op_add' (de_int) (de_mfn T.F__law_draw (gd.mono (by decide)) (by rfl) (da_cons (dv 0) (da_cons (dv 1) (da_nil))))) (da_cons (dv 1) (da_cons (dv 2) (da_cons (de_mfn T.F__law_draw (gd.mono (by decide)) (by rfl) (da_cons (dv 0) (da_cons (de_int) (da_nil)))) (da_cons (de_op op_add' (dv 2) (de_mfn T.F__law_draw (gd.mono (by decide)) (by rfl) (da_cons (dv 0) (da_cons (de_int) (da_nil))))) (da_nil))))))))
    (dss_cons (ds_set (i := 4) sc__law_drawn_rule.nd rfl (Or.inl rfl) (de_op op_add' (dv 4) (de_tup (da_cons (de_mfn T.F__law_draw (gd.mono (by decide)) (by rfl) (da_cons (dv 0) (da_cons (de_int) (da_nil)))) (da_nil)))))
    (dss_cons (ds_set (i := 5) sc__law_drawn_rule.nd rfl (Or.inl rfl) (de_mfn T.F__law_pick (gd.mono (by decide)) (by rfl) (da_cons (dv 0) (da_cons (de_lst (da_cons (de_mfn T.F__law_draw (gd.mono (by decide)) (by rfl) (da_cons (dv 0) (da_cons (de_op op_add' (dv 3) (de_int)) (da_nil)))) (da_cons (de_mfn T.F__law_draw (gd.mono (by decide)) (by rfl) (da_cons (dv 0) (da_cons (de_op op_add' (dv 3) (de_int)) (da_nil)))) (da_cons (dv 3) (da_cons (de_int) (da_nil)))))) (da_nil)))))
    (dss_cons (ds_par (by rfl) sc__law_drawn_rule.nd (i := 6) (j := 7) rfl rfl (by decide) rfl rfl (da_cons (de_mfn T.F__law_pick (gd.mono (by decide)) (by rfl) (da_cons (dv 0) (da_cons (de_lst (da_cons (de_str) (da_cons (de_str) (da_cons (de_str) (da_nil))))) (da_nil)))) (da_cons (de_mfn T.F__law_pick (gd.mono (by decide)) (by rfl) (da_cons (dv 0) (da_cons (de_lst (da_cons (de_str) (da_cons (de_str) (da_cons (de_str) (da_nil))))) (da_nil)))) (da_nil))) (by rfl))
    (dss_one (ds_ret (de_op op_add' (dv 4) (de_tup (da_cons (dv 6) (da_cons (dv 5) (da_cons (dv 3) (da_cons (de_cmp (op_eq' gd) (de_mfn T.F__law_draw (gd.mono (by decide)) (by rfl) (da_cons (dv 0) (da_cons (de_int) (da_nil)))) (de_int) (nomark _)) (da_cons (dv 7) (da_nil)))))))))))))))
theorem Tx.F__law_rule_text (T : Tx w K mg) : PFn P w K mg base 1 "_law_rule_text" 1 F__law_rule_text :=
  pfn_df T.d__law_rule_text (k := 0) (b := f__law_rule_text) sc__law_rule_text (fun _ _ _ _ _ _ us hl => match us, hl with | [_], _ => rfl) fun f cdv A outer s H E gd =>
    dss_cons (ds_set (i := 1) sc__law_rule_text.nd rfl (Or.inl rfl) (de_lst (da_cons (de_str) (da_cons (de_callT call_strT' (by rfl) T.b_str (by decide +kernel) (da_cons (de_ixA gd (dv 0) (de_int)) (da_nil))) (da_cons (de_str) (da_cons (de_callT call_strT' (by rfl) T.b_str (by decide +kernel) (da_cons (de_ixA gd (dv 0) (de_int)) (da_nil))) (da_cons (de_str) (da_cons (de_callT call_strT' (by rfl) T.b_str (by decide +kernel) (da_cons (de_ixA gd (dv 0) (de_int)) (da_nil))) (da_cons (de_str) (da_cons (de_callT call_strT' (by rfl) T.b_str (by decide +kernel) (da_cons (de_ixA gd (dv 0) (de_int)) (da_nil))) (da_cons (de_str) (da_cons (de_callT call_strT' (by rfl) T.b_str (by decide +kernel) (da_cons (de_ixA gd (dv 0) (de_int)) (da_nil))) (da_nil)))))))))))))
    (dss_cons (ds_set (i := 1) sc__law_rule_text.nd rfl (Or.inl rfl) (de_op op_add' (dv 1) (de_lst (da_cons (de_str) (da_cons (de_callT call_strT' (by rfl) T.b_str (by decide +kernel) (da_cons (de_ixA gd (dv 0) (de_int)) (da_nil))) (da_cons (de_str) (da_cons (de_ixA gd (dv 0) (de_int)) (da_cons (de_str) (da_cons (de_op op_add' (de_op op_add' (de_callT call_strT' (by rfl) T.b_str (by decide +kernel) (da_cons (de_ixA gd (dv 0) (de_int)) (da_nil))) (de_str)) (de_callT call_strT' (by rfl) T.b_str (by decide +kernel) (da_cons (de_ixA gd (dv 0) (de_int)) (da_nil)))) (da_nil))))))))))
    (dss_one (ds_ret (de_join (de_str) (de_op op_add' (dv 1) (de_lst (da_cons (de_if (dt_val (de_ixA gd (dv 0) (de_int))) (de_str) (de_str)) (da_cons (de_str) (da_cons (de_ixA gd (dv 0) (de_int)) (da_nil))))))))))
theorem Tx.F_is_integer (T : Tx w K mg) : PFn P w K mg base 1 "is_integer" 1 F_is_integer :=
  pfn_df T.d_is_integer (k := 0) (b := f_is_integer) sc_is_integer (fun _ _ _ _ _ _ us hl => match us, hl with | [_], _ => rfl) fun f cdv A outer s H E gd =>
    dss_one (ds_ret (de_and (de_callB call_isi' (by rfl) T.b_isinstance (by decide +kernel) (da_cons (dv 0) (da_cons (de_ty (t := "int") (by rfl) T.b_int (by decide +kernel)) (da_nil)))) (de_one (de_not (de_callB call_isi' (by rfl) T.b_isinstance (by decide +kernel) (da_cons (dv 0) (da_cons (de_ty (t := "bool") (by rfl) T.b_bool (by decide +kernel)) (da_nil))))))))
theorem Tx.F_is_from (T : Tx w K mg) : PFn P w K mg base 2 "is_from" 2 F_is_from :=
  pfn_df T.d_is_from (k := 1) (b := f_is_from) sc_is_from (fun _ _ _ _ _ _ us hl => match us, hl with | [_, _], _ => rfl) fun f cdv A outer s H E gd =>
    dss_one (ds_ret (de_and (de_pfn T.F_is_integer (gd.mono (by decide)) (by rfl) (da_cons (dv 0) (da_nil))) (de_one (de_cmp op_ge' (dv 0) (dv 1) (nomark _)))))
theorem Tx.F_is_number (T : Tx w K mg) : PFn P w K mg base 2 "is_number" 1 F_is_number :=
  pfn_df T.d_is_number (k := 1) (b := f_is_number) sc_is_number (fun _ _ _ _ _ _ us hl => match us, hl with | [_], _ => rfl) fun f cdv A outer s H E gd =>
    dss_one (ds_ret (de_and (de_pfn T.F_is_integer (gd.mono (by decide)) (by rfl) (da_cons (dv 0) (da_nil))) (de_one (de_cmp op_ge' (dv 0) (de_int) (nomark _)))))
theorem Tx.F_wrong_number (T : Tx w K mg) : PFn P w K mg base 3 "wrong_number" 6 F_wrong_number :=
  pfn_df T.d_wrong_number (k := 2) (b := f_wrong_number) sc_wrong_number (fun _ _ _ _ _ _ us hl => match us, hl with | [_, _, _, _, _, _], _ => rfl) fun f cdv A outer s H E gd =>
    dss_cons (ds_if (dt_not (dt_val (de_pfn T.F_is_from (gd.mono (by decide)) (by rfl) (da_cons (dv 0) (da_cons (de_int) (da_nil)))))) (dss_one (ds_ret (de_str))) (dss_nil))
    (dss_cons (ds_if (dt_not (dt_val (de_pfn T.F_is_from (gd.mono (by decide)) (by rfl) (da_cons (dv 1) (da_cons (dv 0) (da_nil)))))) (dss_one (ds_ret (de_str))) (dss_nil))
    (dss_cons (ds_if (dt_not (dt_val (de_pfn T.F_is_from (gd.mono (by decide)) (by rfl) (da_cons (dv 2) (da_cons (de_int) (da_nil)))))) (dss_one (ds_ret (de_str))) (dss_nil))
    (dss_cons (ds_if (dt_not (dt_val (de_pfn T.F_is_number (gd.mono (by decide)) (by rfl) (da_cons (dv 3) (da_nil))))) (dss_one (ds_ret (de_str))) (dss_nil))
    (dss_cons (ds_if (dt_not (dt_val (de_pfn T.F_is_from (gd.mono (by decide)) (by rfl) (da_cons (dv 4) (da_cons (dv 2) (da_nil)))))) (dss_one (ds_ret (de_str))) (dss_nil))
    (dss_one (ds_ret (de_if (dt_val (de_pfn T.F_is_number (gd.mono (by decide)) (by rfl) (da_cons (dv 5) (da_nil)))) (de_non) (de_str))))))))
theorem Tx.F_is_word (T : Tx w K mg) : PFn P w K mg base 1 "is_word" 2 F_is_word :=
  pfn_df T.d_is_word (k := 0) (b := f_is_word) sc_is_word (fun _ _ _ _ _ _ us hl => match us, hl with | [_, _], _ => rfl) fun f cdv A outer s H E gd =>
    dss_one (ds_ret (de_and (de_callB call_isi' (by rfl) T.b_isinstance (by decide +kernel) (da_cons (dv 0) (da_cons (de_ty (t := "str") (by rfl) T.b_str (by decide +kernel)) (da_nil)))) (de_one (de_cmp (op_inA gd) (dv 0) (dv 1) (by rfl)))))
theorem Tx.F_wrong_word (T : Tx w K mg) : PFn P w K mg base 3 "wrong_word" 5 F_wrong_word :=
  pfn_df T.d_wrong_word (k := 2) (b := f_wrong_word) sc_wrong_word (fun _ _ _ _ _ _ us hl => match us, hl with | [_, _, _, _, _], _ => rfl) fun f cdv A outer s H E gd =>
    dss_cons (ds_if (dt_not (dt_val (de_pfn T.F_is_word (gd.mono (by decide)) (by rfl) (da_cons (dv 0) (da_cons (de_gtup (ds := [.str "half", .str "open", .str "trial"]) (by rfl) T.g_BACKS T.t_BACKS (fun _ _ => .cons (.str _) (.cons (.str _) (.cons (.str _) (.nil))))) (da_nil)))))) (dss_one (ds_ret (de_str))) (dss_nil))
    (dss_cons (ds_if (dt_not (dt_val (de_pfn T.F_is_number (gd.mono (by decide)) (by rfl) (da_cons (dv 1) (da_nil))))) (dss_one (ds_ret (de_str))) (dss_nil))
    (dss_cons (ds_if (dt_w (dw_or (dt_not (dt_val (de_pfn T.F_is_integer (gd.mono (by decide)) (by rfl) (da_cons (dv 2) (da_nil))))) (dw_or (dt_cmp op_lt' (dv 2) (de_int) (nomark _)) (dw_or1 (dt_cmp op_lt' (dv 2) (dv 1) (nomark _)))))) (dss_one (ds_ret (de_str))) (dss_nil))
    (dss_cons (ds_if (dt_not (dt_val (de_callB call_isi' (by rfl) T.b_isinstance (by decide +kernel) (da_cons (dv 3) (da_cons (de_ty (t := "bool") (by rfl) T.b_bool (by decide +kernel)) (da_nil)))))) (dss_one (ds_ret (de_str))) (dss_nil))
    (dss_one (ds_ret (de_if (dt_val (de_pfn T.F_is_word (gd.mono (by decide)) (by rfl) (da_cons (dv 4) (da_cons (de_gtup (ds := [.str "fault", .str "no", .str "out"]) (by rfl) T.g_HEARD T.t_HEARD (fun _ _ => .cons (.str _) (.cons (.str _) (.cons (.str _) (.nil))))) (da_nil))))) (de_non) (de_str)))))))
theorem Tx.F_Rule___init__ (T : Tx w K mg) : MNw P w K mg base 4 "Rule" 12 F_Rule___init__ :=
  mnw_ki T.k_Rule (k := 3) (b := f_Rule___init__) sc_Rule___init__ (fun _ _ _ _ _ _ us hl => match us, hl with | [_, _, _, _, _, _, _, _, _, _, _, _], _ => rfl) fun f cdv A outer s H E gd =>
    dss_cons (ds_set (i := 12) sc_Rule___init__.nd rfl (Or.inl rfl) (de_pfn T.F_wrong_number (gd.mono (by decide)) (by rfl) (da_cons (dv 1) (da_cons (dv 2) (da_cons (dv 3) (da_cons (dv 4) (da_cons (dv 5) (da_cons (dv 6) (da_nil)))))))))
    (dss_cons (ds_if (dt_isN (dv 12)) (dss_one (ds_set (i := 12) sc_Rule___init__.nd rfl (Or.inl rfl) (de_pfn T.F_wrong_word (gd.mono (by decide)) (by rfl) (da_cons (dv 7) (da_cons (dv 8) (da_cons (dv 9) (da_cons (dv 10) (da_cons (dv 11) (da_nil))))))))) (dss_nil))
    (dss_cons (ds_if (dt_notN (dv 12)) (dss_one (ds_never)) (dss_nil))
    (dss_cons (ds_fld (na1 T.c_Rule T.n_Rule_need) (dv 0) (dv 1))
    (dss_cons (ds_fld (na1 T.c_Rule T.n_Rule_of) (dv 0) (dv 2))
    (dss_cons (ds_fld (na1 T.c_Rule T.n_Rule_base) (dv 0) (dv 3))
    (dss_cons (ds_fld (na1 T.c_Rule T.n_Rule_more) (dv 0) (dv 4))
    (dss_cons (ds_fld (na1 T.c_Rule T.n_Rule_most) (dv 0) (dv 5))
    (dss_cons (ds_fld (na1 T.c_Rule T.n_Rule_calm) (dv 0) (dv 6))
    (dss_cons (ds_fld (na1 T.c_Rule T.n_Rule_back) (dv 0) (dv 7))
    (dss_cons (ds_fld (na1 T.c_Rule T.n_Rule_top) (dv 0) (dv 8))
    (dss_cons (ds_fld (na1 T.c_Rule T.n_Rule_under) (dv 0) (dv 9))
    (dss_cons (ds_fld (na1 T.c_Rule T.n_Rule_up) (dv 0) (dv 10))
    (dss_cons (ds_fld (na1 T.c_Rule T.n_Rule_hears) (dv 0) (dv 11))
    (dss_one (ds_fld (na1 T.c_Rule T.n_Rule_cap) (dv 0) (de_if (dt_cmp (op_eq' gd) (dv 4) (de_int) (nomark _)) (de_int) (de_op op_add' (de_int) (de_op op_fdiv' (de_op op_sub' (de_op op_add' (de_op op_sub' (dv 5) (dv 3)) (dv 4)) (de_int)) (dv 4)))))))))))))))))))
theorem Tx.F__law_made (T : Tx w K mg) : PFn P w K mg base 6 "_law_made" 1 F__law_made :=
  pfn_df T.d__law_made (k := 5) (b := f__law_made) sc__law_made (fun _ _ _ _ _ _ us hl => match us, hl with | [_], _ => rfl) fun f cdv A outer s H E gd =>
    dss_one (ds_ret (de_newP T.F_Rule___init__ (gd.mono (by decide)) (by rfl) (da_cons (de_ixA gd (dv 0) (de_int)) (da_cons (de_ixA gd (dv 0) (de_int)) (da_cons (de_ixA gd (dv 0) (de_int)) (da_cons (de_ixA gd (dv 0) (de_int)) (da_cons (de_ixA gd (dv 0) (de_int)) (da_cons (de_ixA gd (dv 0) (de_int)) (da_cons (de_ixA gd (dv 0) (de_int)) (da_cons (de_ixA gd (dv 0) (de_int)) (da_cons (de_ixA gd (dv 0) (de_int)) (da_cons (de_ixA gd (dv 0) (de_int)) (da_cons (de_ixA gd (dv 0) (de_int)) (da_nil))))))))))))))
theorem Tx.F_number_in (T : Tx w K mg) : PFn P w K mg base 1 "number_in" 2 F_number_in :=
  pfn_df T.d_number_in (k := 0) (b := f_number_in) sc_number_in (fun _ _ _ _ _ _ us hl => match us, hl with | [_, _], _ => rfl) fun f cdv A outer s H E gd =>
    dss_cons (ds_if (dt_w (dw_or (dt_not (dt_chain op_le' op_le' (de_int) (de_callB call_len' (by rfl) T.b_len (by decide +kernel) (da_cons (dv 0) (da_nil))) (dv 1))) (dw_or1 (dt_not (dt_val (de_callB (call_all' rfl) (by rfl) T.b_all (by decide +kernel) (da_cons (de_lc rfl sc_number_in.nd (di_any (dv 0)) (blkOk_by (own := [("sign", 2)]) (N := ["word", "most", "sign"]) (sc := defScope s_number_in) (by decide +kernel)) (fun _ _ _ _ _ => dgn_name (i := 2) sc_number_in.nd rfl (Or.inl rfl)) (fun _ _ _ _ _ => dts_nil) (fun _ _ _ _ _ => de_cmp (op_inA gd.blk) (dv 2) (de_gstr (by rfl) T.g_DIGITS) (by rfl))) (da_nil)))))))) (dss_one (ds_ret (de_non))) (dss_nil))
    (dss_one (ds_ret (de_if (dt_w (dw_or (dt_cmp (op_eq' gd) (dv 0) (de_str) (nomark _)) (dw_or1 (dt_cmp (op_ne' gd) (de_ixA gd (dv 0) (de_int)) (de_str) (nomark _))))) (de_callT call_int' (by rfl) T.b_int (by decide +kernel) (da_cons (dv 0) (da_nil))) (de_non))))
theorem Tx.F_numbers_in (T : Tx w K mg) : PFn P w K mg base 2 "numbers_in" 1 F_numbers_in :=
  pfn_df T.d_numbers_in (k := 1) (b := f_numbers_in) sc_numbers_in (fun _ _ _ _ _ _ us hl => match us, hl with | [_], _ => rfl) fun f cdv A outer s H E gd =>
    dss_cons (ds_setLc (i := 1) rfl sc_numbers_in.nd rfl rfl (sw_true rfl rfl rfl (by decide +kernel)) (di_any (dv 0)) (blkOk_by (own := [("word", 2)]) (N := ["words", "found", "word"]) (sc := defScope s_numbers_in) (by decide +kernel)) (fun _ _ _ _ _ => dgn_name (i := 2) sc_numbers_in.nd rfl (Or.inl rfl)) (fun _ _ _ _ _ => dts_nil) (fun _ _ _ _ _ => de_pfn T.F_number_in (gd.blk.mono (by decide)) (by rfl) (da_cons (dv 2) (da_cons (de_int) (da_nil)))))
    (dss_one (ds_ret (de_if (dt_cmp (op_inA gd) (de_non) (dv 1) (by rfl)) (de_non) (dv 1))))
theorem Tx.F_share_in (T : Tx w K mg) : PFn P w K mg base 3 "share_in" 1 F_share_in :=
  pfn_df T.d_share_in (k := 2) (b := f_share_in) sc_share_in (fun _ _ _ _ _ _ us hl => match us, hl with | [_], _ => rfl) fun f cdv A outer s H E gd =>
    dss_cons (ds_set (i := 1) sc_share_in.nd rfl (Or.inl rfl) (de_split (dv 0) (de_str)))
    (dss_one (ds_ret (de_if (dt_cmp (op_eq' gd) (de_callB call_len' (by rfl) T.b_len (by decide +kernel) (da_cons (dv 1) (da_nil))) (de_int) (nomark _)) (de_pfn T.F_numbers_in (gd.mono (by decide)) (by rfl) (da_cons (dv 1) (da_nil))) (de_non))))
theorem Tx.F_words_between (T : Tx w K mg) : PFn P w K mg base 2 "words_between" 1 F_words_between :=
  pfn_df T.d_words_between (k := 1) (b := f_words_between) sc_words_between (fun _ _ _ _ _ _ us hl => match us, hl with | [_], _ => rfl) fun f cdv A outer s H E gd =>
    dss_cons (ds_set (i := 1) sc_words_between.nd rfl (Or.inl rfl) (de_lisN (by rfl) T.b_list (dv 0)))
    (dss_cons (ds_for PassesOwn.never rfl (di_zipM (by rfl) T.b_zip (da_cons (de_tup (da_cons (de_int) (da_cons (de_int) (da_cons (de_int) (da_cons (de_int) (da_cons (de_int) (da_cons (de_int) (da_cons (de_int) (da_cons (de_int) (da_cons (de_int) (da_nil))))))))))) (da_cons (de_split (de_str) (de_str)) (da_nil)))) (dg_of (dgn_tup rfl (dgns_cons (i := 2) sc_words_between.nd rfl (Or.inl rfl) (dgns_cons (i := 3) sc_words_between.nd rfl (Or.inl rfl) (dgns_nil))))) (dss_one (ds_asg (dv 3) (dg_subA gd (dv 1) (dv 2)))))
    (dss_one (ds_ret (de_if (dt_w (dw_and (dt_val (de_pfn T.F_is_word (gd.mono (by decide)) (by rfl) (da_cons (de_ixA gd (dv 0) (de_int)) (da_cons (de_gtup (ds := [.str "half", .str "open", .str "trial"]) (by rfl) T.g_BACKS T.t_BACKS (fun _ _ => .cons (.str _) (.cons (.str _) (.cons (.str _) (.nil))))) (da_nil))))) (dw_and1 (dt_val (de_pfn T.F_is_word (gd.mono (by decide)) (by rfl) (da_cons (de_ixA gd (dv 0) (de_int)) (da_cons (de_gtup (ds := [.str "fault", .str "no", .str "out"]) (by rfl) T.g_HEARD T.t_HEARD (fun _ _ => .cons (.str _) (.cons (.str _) (.cons (.str _) (.nil))))) (da_nil)))))))) (dv 1) (de_lst (da_nil))))))
theorem Tx.F_Rule_read (T : Tx w K mg) : PCm P w K mg base 6 "Rule" "read" 1 F_Rule_read :=
  pcm_md T.cd_Rule_read (k := 5) (b := f_Rule_read) sc_Rule_read (fun _ _ _ _ _ _ us hl => match us, hl with | [_, _], _ => rfl) fun f cdv A outer s H E gd =>
    dss_cons (ds_set (i := 2) sc_Rule_read.nd rfl (Or.inr rfl) (de_split (dv 1) (de_str)))
    (dss_cons (ds_if (dt_cmp (op_ne' gd) (de_callB call_len' (by rfl) T.b_len (by decide +kernel) (da_cons (dv 2) (da_nil))) (de_int) (nomark _)) (dss_one (ds_never)) (dss_nil))
    (dss_cons (ds_set (i := 3) sc_Rule_read.nd rfl (Or.inl rfl) (de_pfn T.F_numbers_in (gd.mono (by decide)) (by rfl) (da_cons (de_lc rfl sc_Rule_read.nd (di_any (de_tup (da_cons (de_int) (da_cons (de_int) (da_cons (de_int) (da_cons (de_int) (da_cons (de_int) (da_cons (de_int) (da_nil))))))))) (blkOk_by (own := [("at", 8)]) (N := ["cls", "text", "words", "plain", "share", "back", "up", "hears", "at"]) (sc := defScope s_Rule_read) (by decide +kernel)) (fun _ _ _ _ _ => dgn_name (i := 8) sc_Rule_read.nd rfl (Or.inl rfl)) (fun _ _ _ _ _ => dts_nil) (fun _ _ _ _ _ => de_ixA gd.blk (dv 2) (dv 8))) (da_nil))))
    (dss_cons (ds_set (i := 4) sc_Rule_read.nd rfl (Or.inl rfl) (de_pfn T.F_share_in (gd.mono (by decide)) (by rfl) (da_cons (de_ixA gd (dv 2) (de_int)) (da_nil))))
    (dss_cons (ds_if (dt_w (dw_or (dt_isN (dv 3)) (dw_or (dt_isN (dv 4)) (dw_or1 (dt_tblNin (T.tbl_ROUNDS _ rfl rfl) (by rfl) T.g_ROUNDS (de_ixA gd (dv 2) (de_int))))))) (dss_one (ds_never)) (dss_nil))
    (dss_cons (ds_if (dt_cmp (op_ne' gd) (dv 2) (de_pfn T.F_words_between (gd.mono (by decide)) (by rfl) (da_cons (dv 2) (da_nil))) (nomark _)) (dss_one (ds_never)) (dss_nil))
    (dss_cons (ds_par3 (by rfl) sc_Rule_read.nd (i := 5) (j := 6) (l := 7) rfl rfl rfl (by decide) (by decide) (by decide) rfl rfl rfl (da_cons (de_ixA gd (dv 2) (de_int)) (da_cons (de_tbl (T.tbl_ROUNDS _ rfl rfl) (by rfl) T.g_ROUNDS (de_ixA gd (dv 2) (de_int))) (da_cons (de_ixA gd (dv 2) (de_int)) (da_nil)))) (by rfl))
    (dss_one (ds_ret (de_newPL (i := 0) T.F_Rule___init__ (gd.mono (by decide)) rfl (Or.inl rfl) (da_star (dv 3) (da_cons (dv 5) (da_star (dv 4) (da_cons (dv 6) (da_cons (dv 7) (da_nil)))))))))))))))
theorem Tx.F_Rule___str__ (T : Tx w K mg) : PMt P w K mg base 1 "Rule" "__str__" 1 F_Rule___str__ :=
  pmt_md T.d_Rule___str__ T.c_Rule (k := 0) (b := f_Rule___str__) sc_Rule___str__ (fun _ _ _ _ _ _ us hl => match us, hl with | [_], _ => rfl) fun f cdv A outer s H E gd =>
    dss_cons (ds_set (i := 1) sc_Rule___str__.nd rfl (Or.inl rfl) (de_joined (DJ.cons (de_str) (DJ.cons (de_fmt (de_fld (na1 T.c_Rule T.n_Rule_need) (dv 0))) (DJ.cons (de_str) (DJ.cons (de_fmt (de_fld (na1 T.c_Rule T.n_Rule_of) (dv 0))) (DJ.cons (de_str) (DJ.cons (de_fmt (de_fld (na1 T.c_Rule T.n_Rule_base) (dv 0))) (DJ.cons (de_str) (DJ.cons (de_fmt (de_fld (na1 T.c_Rule T.n_Rule_more) (dv 0))) (DJ.cons (de_str) (DJ.cons (de_fmt (de_fld (na1 T.c_Rule T.n_Rule_most) (dv 0))) (DJ.cons (de_str) (DJ.cons (de_fmt (de_fld (na1 T.c_Rule T.n_Rule_calm) (dv 0))) (DJ.nil)))))))))))))))
    (dss_cons (ds_set (i := 2) sc_Rule___str__.nd rfl (Or.inl rfl) (de_if (dt_val (de_fld (na1 T.c_Rule T.n_Rule_up) (dv 0))) (de_str) (de_str)))
    (dss_one (ds_ret (de_joined (DJ.cons (de_fmt (dv 1)) (DJ.cons (de_str) (DJ.cons (de_fmt (de_fld (na1 T.c_Rule T.n_Rule_back) (dv 0))) (DJ.cons (de_str) (DJ.cons (de_fmt (de_fld (na1 T.c_Rule T.n_Rule_top) (dv 0))) (DJ.cons (de_str) (DJ.cons (de_fmt (de_fld (na1 T.c_Rule T.n_Rule_under) (dv 0))) (DJ.cons (de_str) (DJ.cons (de_fmt (dv 2)) (DJ.cons (de_str) (DJ.cons (de_fmt (de_fld (na1 T.c_Rule T.n_Rule_hears) (dv 0))) (DJ.nil))))))))))))))))
theorem Tx.F_Rule___eq__ (T : Tx w K mg) : PMt P w K mg base 4 "Rule" "__eq__" 2 F_Rule___eq__ :=
  pmt_md T.d_Rule___eq__ T.c_Rule (k := 3) (b := f_Rule___eq__) sc_Rule___eq__ (fun _ _ _ _ _ _ us hl => match us, hl with | [_, _], _ => rfl) fun f cdv A outer s H E gd =>
    dss_one (ds_ret (de_and (de_callB (call_isiC T.ic_Rule) (by rfl) T.b_isinstance (by decide +kernel) (da_cons (dv 1) (da_cons (de_glo (by rfl) T.g_Rule) (da_nil)))) (de_one (de_cmp (op_eq' gd) (de_callT (call_strO' T.F_Rule___str__ (gd.mono (by decide))) (by rfl) T.b_str (by decide +kernel) (da_cons (dv 0) (da_nil))) (de_callT (call_strO' T.F_Rule___str__ (gd.mono (by decide))) (by rfl) T.b_str (by decide +kernel) (da_cons (dv 1) (da_nil))) (nomark _)))))
theorem Tx.law_fn (T : Tx w K mg) {f : Addr} {fd : FuncData} (F : Fun K "law" "law" s_law f fd) : FnG P w K mg base CX0 7 f fd ["_law_script"] (spP ⟨P, w, K⟩ 1 F_law) := by
  have h := law_df (k := 6) (b := f_law) (P := P) (w := w) (mg := mg) (base := base) F sc_law fun f cdv A outer s H E gd =>
    dss_cons (ds_set (i := 1) sc_law.nd rfl (Or.inl rfl) (de_mfn T.F__law_deal (gd.mono (by decide)) (by rfl) (da_cons (dv 0) (da_cons (de_int) (da_nil)))))
    (dss_cons (ds_for PassesOwn.never rfl (di_range1 (by rfl) T.b_range (da_cons (de_int) (da_nil))) (dg_of (dgn_name (i := 2) sc_law.nd rfl (Or.inl rfl))) (dss_cons (ds_set (i := 3) sc_law.nd rfl (Or.inl rfl) (de_mfn T.F__law_drawn_rule (gd.mono (by decide)) (by rfl) (da_cons (dv 1) (da_nil))))
    (dss_cons (ds_if (dt_cmp (op_eq' gd) (de_mfn T.F__law_draw (gd.mono (by decide)) (by rfl) (da_cons (dv 1) (da_cons (de_int) (da_nil)))) (de_int) (nomark _)) (dss_one (ds_set (i := 3) sc_law.nd rfl (Or.inl rfl) (de_op op_add' (de_op op_add' (de_sl (dv 3) (dp_no) (dp_yes (de_int))) (de_tup (da_cons (de_op op_add' (de_op op_add' (de_ixA gd (dv 3) (de_int)) (de_int)) (de_mfn T.F__law_draw (gd.mono (by decide)) (by rfl) (da_cons (dv 1) (da_cons (de_int) (da_nil))))) (da_nil)))) (de_sl (dv 3) (dp_yes (de_int)) (dp_no))))) (dss_nil))
    (dss_cons (ds_set (i := 4) sc_law.nd rfl (Or.inl rfl) (de_mfn T.F__law_drawn_rule (gd.mono (by decide)) (by rfl) (da_cons (dv 1) (da_nil))))
    (dss_cons (ds_par (by rfl) sc_law.nd (i := 5) (j := 6) rfl rfl (by decide) rfl rfl (da_cons (de_pfnK T.F__law_made (gd.mono (by decide)) (by rfl) (da_cons (dv 3) (da_nil))) (da_cons (de_pfnK T.F__law_rule_text (gd.mono (by decide)) (by rfl) (da_cons (dv 3) (da_nil))) (da_nil))) (by rfl))
    (dss_cons (ds_set (i := 7) sc_law.nd rfl (Or.inl rfl) (de_pcm T.F_Rule_read (gd.mono (by decide)) (by rfl) T.g_Rule (da_cons (dv 6) (da_nil))))
    (dss_cons (ds_if (dt_w (dw_or (dt_cmp (op_ne' gd) (de_callT (call_strO' T.F_Rule___str__ (gd.mono (by decide))) (by rfl) T.b_str (by decide +kernel) (da_cons (dv 5) (da_nil))) (dv 6) (nomark _)) (dw_or (dt_cmp (op_ne' gd) (de_callT (call_strO' T.F_Rule___str__ (gd.mono (by decide))) (by rfl) T.b_str (by decide +kernel) (da_cons (dv 7) (da_nil))) (dv 6) (nomark _)) (dw_or1 (dt_cmp (op_neO T.ne_Rule T.F_Rule___eq__ (gd.mono (by decide))) (dv 7) (dv 5) (nomark _)))))) (dss_one (ds_ret (de_bl))) (dss_nil))
    (dss_cons (ds_set (i := 8) sc_law.nd rfl (Or.inl rfl) (de_tup (da_cons (de_fld (na1 T.c_Rule T.n_Rule_need) (dv 7)) (da_cons (de_fld (na1 T.c_Rule T.n_Rule_of) (dv 7)) (da_cons (de_fld (na1 T.c_Rule T.n_Rule_base) (dv 7)) (da_cons (de_fld (na1 T.c_Rule T.n_Rule_more) (dv 7)) (da_cons (de_fld (na1 T.c_Rule T.n_Rule_most) (dv 7)) (da_cons (de_fld (na1 T.c_Rule T.n_Rule_calm) (dv 7)) (da_cons (de_fld (na1 T.c_Rule T.n_Rule_back) (dv 7)) (da_nil))))))))))
    (dss_cons (ds_if (dt_w (dw_or (dt_cmp (op_ne' gd) (de_callB (call_reprG gd) (by rfl) T.b_repr (by decide +kernel) (da_cons (de_op op_add' (dv 8) (de_tup (da_cons (de_fld (na1 T.c_Rule T.n_Rule_top) (dv 7)) (da_cons (de_fld (na1 T.c_Rule T.n_Rule_under) (dv 7)) (da_cons (de_fld (na1 T.c_Rule T.n_Rule_up) (dv 7)) (da_cons (de_fld (na1 T.c_Rule T.n_Rule_hears) (dv 7)) (da_nil))))))) (da_nil))) (de_callB (call_reprG gd) (by rfl) T.b_repr (by decide +kernel) (da_cons (dv 3) (da_nil))) (nomark _)) (dw_or1 (dt_cmp (op_ne' gd) (de_fld (na1 T.c_Rule T.n_Rule_cap) (dv 7)) (de_fld (na1 T.c_Rule T.n_Rule_cap) (dv 5)) (nomark _))))) (dss_one (ds_ret (de_bl))) (dss_nil))
    (dss_cons (ds_if (dt_cmp (op_ne' gd) (de_cmp (op_eq' gd) (de_callT (call_strO' T.F_Rule___str__ (gd.mono (by decide))) (by rfl) T.b_str (by decide +kernel) (da_cons (de_pfnK T.F__law_made (gd.mono (by decide)) (by rfl) (da_cons (dv 4) (da_nil))) (da_nil))) (dv 6) (nomark _)) (de_cmp (op_eq' gd) (dv 4) (dv 3) (nomark _)) (nomark _)) (dss_one (ds_ret (de_bl))) (dss_nil))
    (dss_one (ds_if (dt_cmp (op_ne' gd) (de_cmp (op_eqO T.F_Rule___eq__ (gd.mono (by decide))) (de_pcm T.F_Rule_read (gd.mono (by decide)) (by rfl) T.g_Rule (da_cons (de_pfnK T.F__law_rule_text (gd.mono (by decide)) (by rfl) (da_cons (dv 4) (da_nil))) (da_nil))) (dv 5) (nomark _)) (de_cmp (op_eq' gd) (dv 4) (dv 3) (nomark _)) (nomark _)) (dss_one (ds_ret (de_bl))) (dss_nil)))))))))))))
    (dss_cons (ds_set (i := 9) sc_law.nd rfl (Or.inl rfl) (de_newP T.F_Rule___init__ (gd.mono (by decide)) (by rfl) (da_cons (de_int) (da_cons (de_int) (da_cons (de_int) (da_cons (de_int) (da_cons (de_int) (da_cons (de_int) (da_cons (de_str) (da_cons (de_int) (da_cons (de_int) (da_cons (de_bl) (da_cons (de_str) (da_nil))))))))))))))
    (dss_one (ds_ret (de_cmp (op_eq' gd) (de_callT (call_strO' T.F_Rule___str__ (gd.mono (by decide))) (by rfl) T.b_str (by decide +kernel) (da_cons (dv 9) (da_nil))) (de_str) (nomark _))))))
  exact h
end
end L4
namespace L4
open PySem PySem.Spec PyProof.Rows L2
open L3 (Fx fx_at SaysW hookW obsWG obsWG_eq Tabs gdef mdef cdef cmB df_of md_of ki_of cmd_of)
def fxs : List Fx := [.fa (.free "abs"), .fa (.free "all"), .fa (.free "bool"), .fa (.free "int"), .fa (.free "isinstance"), .fa (.free "len"), .fa (.free "list"), .fa (.free "range"), .fa (.free "repr"), .fa (.free "str"), .fa (.free "zip"), .fa (.cls "Rule"), .fa (.noat "Rule" "back"), .fa (.noat "Rule" "base"), .fa (.noat "Rule" "calm"), .fa (.noat "Rule" "cap"), .fa (.noat "Rule" "hears"), .fa (.noat "Rule" "more"), .fa (.noat "Rule" "most"), .fa (.noat "Rule" "need"), .fa (.noat "Rule" "of"), .fa (.noat "Rule" "top"), .fa (.noat "Rule" "under"), .fa (.noat "Rule" "up"), .insc "Rule", .bo (L3.neB "Rule"), .fa (.glo "Rule"), .fa (.glo "BACKS"), .tup "BACKS" [.str "half", .str "open", .str "trial"], .fa (.str "DIGITS" "0123456789"), .fa (.glo "HEARD"), .tup "HEARD" [.str "fault", .str "no", .str "out"], .fa (.glo "ROUNDS"), .bo (fun K => tblB K (He.ga K "ROUNDS") tb_ROUNDS), .bo (fun K => nsOnly K (He.ga K "ROUNDS") ["down", "up"]), .fa (.glo "_law_deal"), .fa (.glo "_law_draw"), .fa (.glo "_law_pick"), .fa (.glo "_law_drawn_rule"), .fa (.glo "_law_rule_text"), .fa (.glo "is_integer"), .fa (.glo "is_from"), .fa (.glo "is_number"), .fa (.glo "wrong_number"), .fa (.glo "is_word"), .fa (.glo "wrong_word"), .fa (.mkr "Rule"), .fa (.glo "_law_made"), .fa (.glo "number_in"), .fa (.glo "numbers_in"), .fa (.glo "share_in"), .fa (.glo "words_between"), .bo (cmB "Rule" "read"), .fa (.meth "Rule" "__str__"), .fa (.meth "Rule" "__eq__"), .fa (.glo "law")]
def fns : List He5.DefA := [gdef "_law_deal" s__law_deal, gdef "_law_draw" s__law_draw, gdef "_law_pick" s__law_pick, gdef "_law_drawn_rule" s__law_drawn_rule, gdef "_law_rule_text" s__law_rule_text, gdef "is_integer" s_is_integer, gdef "is_from" s_is_from, gdef "is_number" s_is_number, gdef "wrong_number" s_wrong_number, gdef "is_word" s_is_word, gdef "wrong_word" s_wrong_word, mdef "Rule" "__init__" "Rule.__init__" s_Rule___init__, gdef "_law_made" s__law_made, gdef "number_in" s_number_in, gdef "numbers_in" s_numbers_in, gdef "share_in" s_share_in, gdef "words_between" s_words_between, cdef "Rule" "read" "Rule.read" s_Rule_read, mdef "Rule" "__str__" "Rule.__str__" s_Rule___str__, mdef "Rule" "__eq__" "Rule.__eq__" s_Rule___eq__, gdef "law" s_law]
def exs (K : PySem.W.Frag) : Bool := fxs.all fun f => f.ok K
abbrev hR : PySem.W.OpenRow := PySem.W.OpenLaw.row PySem.Challenge.rw_sitout_k06_texts_of_rules
def htabs : Tabs := [("ROUNDS", ["down", "up"])]
abbrev hk : PySem.W.Hook := hookW 5 exs fns htabs
def hob (s : PySem.W.SharedT) : hk.α := obsWG 5 exs fns htabs (HandSHeadRun.getT s)
theorem hob_eq (s : PySem.W.SharedT) : hob s = hk.obs s.abs := obsWG_eq (HandSHeadRun.getT_eq s)
def hnm0 : List PySem.Str := ["_wall", "__name__", "SitError", "InvalidRule", "InvalidText", "DIGITS", "is_integer", "is_number", "is_from", "is_word", "number_in", "BACKS", "HEARD", "ROUNDS", "wrong_number", "wrong_word", "numbers_in", "share_in", "Rule", "words_between", "_law_deal", "_law_draw", "_law_pick", "_law_drawn_rule", "_law_made", "_law_rule_text"]
def hnames : List PySem.Str := hnm0
theorem hrunA (w : World) : HandSHeadRun.RunEq hR (PySem.W.view hR.prog [29]) hk hob 8000 hnames (w.withFollow "special-get-raises" false) := by
  intro os
  kernel_rfl
theorem hrunB (w : World) : HandSHeadRun.RunEq hR (PySem.W.view hR.prog [29]) hk hob 8000 hnames (w.withFollow "special-get-raises" true) := by
  intro os
  kernel_rfl
theorem hrun (w : World) : HandSHeadRun.RunEq hR (PySem.W.view hR.prog [29]) hk hob 8000 hnames w := PySem.W.byRow2 "special-get-raises" hrunA hrunB w
theorem tx_of {w : World} {K : PySem.W.Frag} {h : Heap} {mg : Str → Option Value} (X : K.In h) (G : h.Ns mainGlobals mg) (c : SaysW exs fns htabs w K) : Tx w K mg := by
  have s := c.b
  have hx : (fxs.all fun f => f.ok K) = true := s.fx
  exact ⟨He.free_ok X G (fx_at hx 0 (f := .fa (.free "abs"))),
    He.free_ok X G (fx_at hx 1 (f := .fa (.free "all"))),
    He.free_ok X G (fx_at hx 2 (f := .fa (.free "bool"))),
    He.free_ok X G (fx_at hx 3 (f := .fa (.free "int"))),
    He.free_ok X G (fx_at hx 4 (f := .fa (.free "isinstance"))),
    He.free_ok X G (fx_at hx 5 (f := .fa (.free "len"))),
    He.free_ok X G (fx_at hx 6 (f := .fa (.free "list"))),
    He.free_ok X G (fx_at hx 7 (f := .fa (.free "range"))),
    He.free_ok X G (fx_at hx 8 (f := .fa (.free "repr"))),
    He.free_ok X G (fx_at hx 9 (f := .fa (.free "str"))),
    He.free_ok X G (fx_at hx 10 (f := .fa (.free "zip"))),
    He.cls_ok (fx_at hx 11 (f := .fa (.cls "Rule"))),
    He.noat_ok (fx_at hx 12 (f := .fa (.noat "Rule" "back"))),
    He.noat_ok (fx_at hx 13 (f := .fa (.noat "Rule" "base"))),
    He.noat_ok (fx_at hx 14 (f := .fa (.noat "Rule" "calm"))),
    He.noat_ok (fx_at hx 15 (f := .fa (.noat "Rule" "cap"))),
    He.noat_ok (fx_at hx 16 (f := .fa (.noat "Rule" "hears"))),
    He.noat_ok (fx_at hx 17 (f := .fa (.noat "Rule" "more"))),
    He.noat_ok (fx_at hx 18 (f := .fa (.noat "Rule" "most"))),
    He.noat_ok (fx_at hx 19 (f := .fa (.noat "Rule" "need"))),
    He.noat_ok (fx_at hx 20 (f := .fa (.noat "Rule" "of"))),
    He.noat_ok (fx_at hx 21 (f := .fa (.noat "Rule" "top"))),
    He.noat_ok (fx_at hx 22 (f := .fa (.noat "Rule" "under"))),
    He.noat_ok (fx_at hx 23 (f := .fa (.noat "Rule" "up"))),
    L3.insc_ok (fx_at hx 24 (f := .insc "Rule")),
    L3.neC_of (fx_at hx 25 (f := .bo (L3.neB "Rule"))),
    He.glo_ok X G (fx_at hx 26 (f := .fa (.glo "Rule"))),
    He.glo_ok X G (fx_at hx 27 (f := .fa (.glo "BACKS"))),
    fun H => He.tupB_ok (fx_at hx 28 (f := .tup "BACKS" [.str "half", .str "open", .str "trial"])) H,
    He.str_ok X G (fx_at hx 29 (f := .fa (.str "DIGITS" "0123456789"))),
    He.glo_ok X G (fx_at hx 30 (f := .fa (.glo "HEARD"))),
    fun H => He.tupB_ok (fx_at hx 31 (f := .tup "HEARD" [.str "fault", .str "no", .str "out"])) H,
    He.glo_ok X G (fx_at hx 32 (f := .fa (.glo "ROUNDS"))),
    fun X hK hW => tbl_of hK hW (c.tab 0) (fx_at hx 33 (f := .bo (fun K => tblB K (He.ga K "ROUNDS") tb_ROUNDS))) (fx_at hx 34 (f := .bo (fun K => nsOnly K (He.ga K "ROUNDS") ["down", "up"]))),
    df_of X G (fx_at hx 35 (f := .fa (.glo "_law_deal"))) s 0,
    df_of X G (fx_at hx 36 (f := .fa (.glo "_law_draw"))) s 1,
    df_of X G (fx_at hx 37 (f := .fa (.glo "_law_pick"))) s 2,
    df_of X G (fx_at hx 38 (f := .fa (.glo "_law_drawn_rule"))) s 3,
    df_of X G (fx_at hx 39 (f := .fa (.glo "_law_rule_text"))) s 4,
    df_of X G (fx_at hx 40 (f := .fa (.glo "is_integer"))) s 5,
    df_of X G (fx_at hx 41 (f := .fa (.glo "is_from"))) s 6,
    df_of X G (fx_at hx 42 (f := .fa (.glo "is_number"))) s 7,
    df_of X G (fx_at hx 43 (f := .fa (.glo "wrong_number"))) s 8,
    df_of X G (fx_at hx 44 (f := .fa (.glo "is_word"))) s 9,
    df_of X G (fx_at hx 45 (f := .fa (.glo "wrong_word"))) s 10,
    ki_of X G (fx_at hx 26 (f := .fa (.glo "Rule"))) (fx_at hx 11 (f := .fa (.cls "Rule"))) (fx_at hx 46 (f := .fa (.mkr "Rule"))) s 11,
    df_of X G (fx_at hx 47 (f := .fa (.glo "_law_made"))) s 12,
    df_of X G (fx_at hx 48 (f := .fa (.glo "number_in"))) s 13,
    df_of X G (fx_at hx 49 (f := .fa (.glo "numbers_in"))) s 14,
    df_of X G (fx_at hx 50 (f := .fa (.glo "share_in"))) s 15,
    df_of X G (fx_at hx 51 (f := .fa (.glo "words_between"))) s 16,
    cmd_of (fx_at hx 52 (f := .bo (cmB "Rule" "read"))) s 17,
    md_of (fx_at hx 53 (f := .fa (.meth "Rule" "__str__"))) s 18,
    md_of (fx_at hx 54 (f := .fa (.meth "Rule" "__eq__"))) s 19,
    df_of X G (fx_at hx 55 (f := .fa (.glo "law"))) s 20⟩
theorem facts {P : Program} {w : World} {K : PySem.W.Frag} {h : Heap} {mg : Str → Option Value} {f : Addr} (X : K.In h) (G : h.Ns mainGlobals mg) (hfa : mg ("law" : Str) = some (.ref f)) (c : SaysW exs fns htabs w K) :
    ∃ fd : FuncData, (∀ (s : Shared) (v : Value), BindsTo s fd ⟨[v], []⟩ [("_law_script", v)]) ∧ ∀ base : Heap, K.In base → base.Ns mainGlobals mg → FnG P w K mg base CX0 7 f fd ["_law_script"] (spP ⟨P, w, K⟩ 1 F_law) := by
  have T := tx_of X G c
  obtain ⟨f1, fd, F, g⟩ := T.d_law.ex
  have e := hfa.symm.trans g
  cases e
  refine ⟨fd, fun s v => ?_, fun base _ _ => T.law_fn F⟩
  obtain ⟨oc, od, kV, doc, pm, an, cdv, ct, osl, rfl, lk, hcd⟩ := F.ex
  exact .of_eq rfl
end L4
open PySem PySem.W PySem.Calls PyProof.Rows in
set_option maxRecDepth 100000 in
set_option maxHeartbeats 0 in
theorem PySem.Challenge.cw_sitout_k06_texts_of_rules_holds : PySem.Challenge.rw_sitout_k06_texts_of_rules.Holds := by
  w_on; o_law
  refine HandSHeadRun.head_any (r := OpenLaw.row PySem.Challenge.rw_sitout_k06_texts_of_rules) (q := view (OpenLaw.row PySem.Challenge.rw_sitout_k06_texts_of_rules).prog [29]) (H := L4.hk) (ob := L4.hob) (M := 8000) (loose := L4.hnames) (d := HandSHeadRun.topDef (OpenLaw.row PySem.Challenge.rw_sitout_k06_texts_of_rules).prog 29) (kwd := []) L4.hob_eq
    (by kernel_rfl) (fun s => by kernel_rfl) L4.hrun (by kernel_rfl) (by kernel_rfl) (by kernel_rfl) (by rfl) (by first | assumption | decide +kernel) (by decide +kernel) ⟨rfl, rfl, rfl, rfl, rfl, by decide +kernel⟩ ?hw ?hc
  case hw => w_witness2
  case hc =>
    refine L4.walkL (l := PySem.Challenge.rw_sitout_k06_texts_of_rules) (n := 63) (k := 7) (x := "_law_script") (FL := L4.F_law) rfl (by decide) (by kernel_rfl) ⟨rfl, by decide, by decide⟩ L4.law_plain ?F
    intro w mg fa h Y G hmg0
    obtain ⟨K, KX, c⟩ := Y
    have hmg : mg ("law" : PySem.Str) = some (.ref fa) := by
      have e : (HandSHeadRun.topDef (OpenLaw.row PySem.Challenge.rw_sitout_k06_texts_of_rules).prog 29).name = ("law" : PySem.Str) := by kernel_rfl
      rw [← e]
      exact hmg0
    obtain ⟨fd, hb, hF⟩ := L4.facts (P := (PySem.Challenge.rw_sitout_k06_texts_of_rules).prog) (w := w) KX G hmg c
    exact ⟨K, fd, KX, hb, hF⟩
#print axioms PySem.Challenge.cw_sitout_k06_texts_of_rules_holds
