import PyProof.Rows.All
import Wide.All
import OpenK.AllK
import Wide.FinOn
import HandS.ForMost
import HandS.Evl
import HandS.Codes
import HandS.Defaults
import HandS.IsInst
import HandS.FStr
import KE.KStateDown
import Lean
import HandS.HeadEnd
import HandS.HeadNt
import HandS.HeadHook3
import HandS.Head0
import HandS.Head1
import HandS.Head2
import HandS.Style
import HandS.OwnEq
import KE.KCallOwn
import HandS.Star
import HandS.ClsMeth
import HandS.CallLocal
import KE.GoesNew
import KE.GoesEnum
import HandS.Walk
import HandS.Sort
import HandS.Conv
import HandS.RaiseMore
import HandS.WordsDict
import PyProof.ReprRoads
import KE.KDictKeyed
import KE.KDictPairs
import KE.KDictWalk
import KE.KDictDisplayH
import KE.KDictCopyH
import KE.KDictList
import HandS.Deep
import HandS.TupAny
import HandS.TupMul
import HandS.Zip
import KE.KUnpackStar
import KE.SortData
import KE.KDictSum
import PyProof.TupleOfSeq
import HandS.Replace
import KE.GoesComp
import KE.GoesMore
import HandS.ReplaceLit
import HandS.More
import KE.DataFind
import KE.DataCmp
import HandS.Property
import PyProof.InstSpecial
import HandS.Exc
import HandS.TryOnly
import HandS.DictTup
import KE.KDictZip
import KE.KTupSum
import HandS.ExcOwn
import HandS.WordsExc
import HandS.ExcField
import KE.KExcIs
import PySem.Challenge.RW_sitout_k36_values_that_are_no_goals
set_option Elab.async false
set_option linter.all false
set_option maxRecDepth 100000
set_option maxHeartbeats 4000000
namespace L3
open PySem L2 Evl
def Flat : HO → Prop
  | .lst _ => True
  | .dK _ => True
  | _ => False
def anyO (P : Program) (w : World) (S : HO → Prop) (a : Addr) : HO := .ext fun h => ∃ u, S u ∧ ObjOk P w (fun _ => none) h a u
section
variable {P : Program} {w : World} {H H' : Hp} {h h' : Heap} {a : Addr} {u : HO}
theorem flat_any (f : Flat u) (o : ObjOk P w H h a u) : ObjOk P w H' h a u := by
  cases u with
  | lst xs => exact o
  | dK kvs => exact o
  | _ => exact f.elim
theorem any_of {S : HO → Prop} (f : Flat u) (s : S u) (hf : ∀ u, S u → Flat u) (o : ObjOk P w H h a u) : ObjOk P w H' h a (anyO P w S a) := by
  refine ⟨⟨u, s, flat_any f o⟩, ?_, ?_⟩
  · cases u with
    | lst xs => obtain ⟨_, its, n, _, e⟩ := o; exact ⟨_, e⟩
    | dK kvs => obtain ⟨_, _, _, _, ob, _, _, e, _⟩ := o; exact ⟨_, e⟩
    | _ => exact f.elim
  · rintro h1 h2 ⟨u', s', o'⟩ k
    refine ⟨u', s', o'.stay (fun b v hb e => ?_) (fun b e => nomatch e) fun b xs e => nomatch e⟩
    rcases hb with rfl | hb
    · exact k v e
    · cases hb
end
/-- the same heap told by less: some lists and dicts by an invariant alone -/
def Abs (P : Program) (w : World) (H H' : Hp) : Prop := ∀ a, H' a = H a ∨ ∃ u S, H a = some u ∧ (∀ u, S u → Flat u) ∧ S u ∧ H' a = some (anyO P w S a)
section
variable {P : Program} {w : World} {H H' H0 : Hp} {h h0 : Heap}
theorem Abs.hok (b : Abs P w H H') (o : HOk P w H h) : HOk P w H' h := fun a u e => by
  have ho : ∀ c y, H c = some (.own y) → H' c = some (.own y) := fun c y q => by
    rcases b c with z | ⟨u, S, e1, f, s, e2⟩
    · rw [z]; exact q
    · rw [q] at e1; cases e1; exact (f _ s).elim
  have ht : ∀ c xs, H c = some (.tup xs) → H' c = some (.tup xs) := fun c y q => by
    rcases b c with z | ⟨u, S, e1, f, s, e2⟩
    · rw [z]; exact q
    · rw [q] at e1; cases e1; exact (f _ s).elim
  rcases b a with z | ⟨u', S, e1, f, s, e2⟩
  · rw [z] at e
    exact (o a u e).stay (fun _ _ _ q => q) (fun c q => ho c a q) ht
  · rw [e2] at e
    cases e
    exact any_of (f _ s) s f (o a u' e1)
theorem Abs.un {fs ex : List Addr} (b : Abs P w H H') (u : Un fs ex H0 H h0 h) : Un fs ex H0 H' h0 h where
  keep := u.keep
  slot := u.slot
  free := fun c o q n hx => by
    have z := u.free c o q n hx
    rcases b c with r | ⟨_, _, e1, _⟩
    · rw [r]; exact z
    · rw [z] at e1; cases e1
  there := u.there
  tups := fun c xs q => by
    have z := u.tups c xs q
    rcases b c with r | ⟨_, _, e1, f, s, _⟩
    · rw [r]; exact z
    · rw [z] at e1; cases e1; exact (f _ s).elim
  frzs := fun c o v q => by
    have z := u.frzs c o v q
    rcases b c with r | ⟨_, _, e1, f, s, _⟩
    · rw [r]; exact z
    · rw [z] at e1; cases e1; exact (f _ s).elim
  tbls := fun c ps q => by
    obtain ⟨m, z⟩ := u.tbls c ps q
    rcases b c with r | ⟨_, _, e1, f, s, _⟩
    · exact ⟨m, by rw [r]; exact z⟩
    · rw [z] at e1; cases e1; exact (f _ s).elim
/-- an object told by its invariant is opened -/
theorem open_hok {a : Addr} {S : HO → Prop} (ha : H a = some (anyO P w S a)) (hf : ∀ u, S u → Flat u) (o : HOk P w H h) : ∃ u, S u ∧ HOk P w (upd H a u) h := by
  obtain ⟨⟨u, s, q⟩, _, _⟩ := o a _ ha
  have ne : ∀ b v, H b = some v → (∀ φ, v ≠ .ext φ) → b ≠ a := fun b v e n z => by
    rw [z, ha] at e; cases e; exact n _ rfl
  refine ⟨u, s, fun b v e => ?_⟩
  by_cases hb : b = a
  · subst hb
    rw [upd_same] at e
    cases e
    exact flat_any (hf _ s) q
  · rw [upd_ne hb] at e
    exact (o b v e).stay (fun _ _ _ q => q) (fun c q => by rw [upd_ne (ne c _ q (fun _ z => nomatch z))]; exact q) fun c xs q => by rw [upd_ne (ne c _ q (fun _ z => nomatch z))]; exact q
theorem open_un {fs ex : List Addr} {a : Addr} {S : HO → Prop} {u0 : HO} (ha : H0 a = some (anyO P w S a)) (x : Un fs ex (upd H0 a u0) H h0 h) : Un fs ex H0 H h0 h := by
  have ne : ∀ b v, H0 b = some v → (∀ φ, v ≠ .ext φ) → b ≠ a := fun b v e n z => by
    rw [z, ha] at e; cases e; exact n _ rfl
  have nn : ∀ b, H0 b = none → b ≠ a := fun b e z => by rw [z, ha] at e; cases e
  exact ⟨fun b o q n => x.keep b o q (by rw [upd_ne (nn b n)]; exact n), fun b o q n => x.slot b o q (by rw [upd_ne (nn b n)]; exact n), fun b o q n => x.free b o q (by rw [upd_ne (nn b n)]; exact n), x.there,
    fun b xs q => x.tups b xs (by rw [upd_ne (ne b _ q (fun _ z => nomatch z))]; exact q), fun b o v q => x.frzs b o v (by rw [upd_ne (ne b _ q (fun _ z => nomatch z))]; exact q), fun b ps q => x.tbls b ps (by rw [upd_ne (ne b _ q (fun _ z => nomatch z))]; exact q)⟩
end
section
variable {P : Program} {w : World} {K : PySem.W.Frag} {mg : Str → Option Value} {base : Heap} {k : Nat} {f : Addr} {fd : FuncData} {ps : List Str} {sp : Sp}
/-- an object told by an invariant is opened ahead of the call -/
def opened (P : Program) (w : World) (n : Nat) (sp : Sp) : Sp := fun vs H Q E => vs.length = n ∧ ∃ a S, H a = some (anyO P w S a) ∧ (∀ u, S u → Flat u) ∧ ∀ u, S u → sp vs (upd H a u) Q E
theorem pre (F : FnOk P w K mg base CX0 k f fd ps sp) : FnOk P w K mg base CX0 k f fd ps (opened P w ps.length sp) := by
  refine ⟨fun vs H Q E h => h.1, fun A outer s H args us vs Q E hr he hb hv hs => ?_⟩
  obtain ⟨_, a, S, ha, hf, hq⟩ := hs
  obtain ⟨u, su, ok⟩ := open_hok ha hf he.hok
  have nn : ∀ b, H b = none → b ≠ a := fun b e z => by rw [z, ha] at e; cases e
  have he' : Env0 P w K mg base A outer s (upd H a u) := ⟨he.frames, he.mod, fun b o q => ⟨(he.bs b o q).1, by rw [upd_ne (nn b (he.bs b o q).2)]; exact (he.bs b o q).2⟩, he.bsz, he.funs, fun b q => by rw [upd_ne (nn b (he.frf b q))]; exact he.frf b q, ok, he.bare⟩
  refine codeAny_mono (F.run A outer s (upd H a u) args us vs Q E hr he' hb hv (hq u su)) fun r s' z => ?_
  cases r with
  | error e => exact z.elim
  | ok fl =>
    cases fl with
    | ret u' =>
      obtain ⟨v, H', e1, e2, un, ok', rv, q⟩ := z
      exact ⟨v, H', e1, e2, open_un ha un, ok', rv, q⟩
    | _ => exact z
end
end L3
namespace L3
open PySem L2 Evl
end L3
namespace L3
open PySem L2 Evl
structure Df (K : PySem.W.Frag) (mg : Str → Option Value) (x : Str) (st : Stmt) : Prop where
  ex : ∃ f fd, Fun K x x st f fd ∧ mg x = some (.ref f)
structure Fn (P : Program) (w : World) (K : PySem.W.Frag) (mg : Str → Option Value) (base : Heap) (k : Nat) (x : Str) (ps : List Str) (sp : Sp) : Prop where
  ex : ∃ f fd, FnOk P w K mg base CX0 k f fd ps sp ∧ mg x = some (.ref f) ∧ PySem.W.keepIn K (.ref f) = true ∧ Binds K fd ps []
/-- a method -/
structure Md (K : PySem.W.Frag) (C : Addr) (m q : Str) (st : Stmt) : Prop where
  ex : ∃ f fd, Fun K m q st f fd ∧ Meth K C m f
/-- a class with its __init__ -/
structure Ki (K : PySem.W.Frag) (mg : Str → Option Value) (x : Str) (C : Addr) (q : Str) (st : Stmt) : Prop where
  cl : Cls K C
  mgC : mg x = some (.ref C)
  ex : ∃ f fd, Fun K "__init__" q st f fd ∧ Mk K C f
section
variable {P : Program} {w : World} {K : PySem.W.Frag} {mg : Str → Option Value} {base : Heap} {k : Nat} {x q m : Str} {C : Addr} {ps N : List Str} {sp sp' : Sp} {st : Stmt}
theorem Fn.imp (F : Fn P w K mg base k x ps sp) (h : ∀ vs H Q E, sp' vs H Q E → sp vs H Q E) : Fn P w K mg base k x ps sp' := by
  obtain ⟨f, fd, F, r⟩ := F.ex
  exact ⟨f, fd, F.imp h, r⟩
theorem Fn.pre (F : Fn P w K mg base k x ps sp) : Fn P w K mg base k x ps (opened P w ps.length sp) := by
  obtain ⟨f, fd, F, r⟩ := F.ex
  exact ⟨f, fd, L3.pre F, r⟩
end
def rAbs : List V → Hp → VK → Prop := fun xs H Q => ∃ i, xs = [.int i] ∧ Q (.int (if i < 0 then -i else i)) H
theorem call_abs' {X : Cx} : CallR X (.builtin "abs") rAbs := call_abs
end L3
namespace L3
end L3
namespace L3
open PySem PySem.W PyProof.Rows
def obsB (ex : Frag → Bool) (fn : List He5.DefA) (K : Frag) : He.AlD := (ex K && fn.all fun d => d.ok K, fn.map fun d => He5.fnA K (d.at_ K))
def SaysB (ex : Frag → Bool) (fn : List He5.DefA) (K : Frag) : Prop := obsB ex fn K = He5.valA fn
def obsBG (n : Nat) (ex : Frag → Bool) (fn : List He5.DefA) (g : Addr → Option Obj) : He.AlD := obsB ex fn (He.frG g (He5.asA g n))
section
variable {ex : Frag → Bool} {fn : List He5.DefA} {K : Frag}
theorem SaysB.fx (c : SaysB ex fn K) : ex K = true :=
  (He.ba (show (ex K && fn.all fun d => d.ok K) = true from congrArg (fun z : He.AlD => z.1) c)).1
theorem SaysB.def_ (c : SaysB ex fn K) (i : Nat) {d : He5.DefA} (h : fn[i]? = some d := by rfl) : ∃ fd, L2.FunD K d.name d.qual d.params d.body d.scope (d.dvs K) (d.kws K) (d.at_ K) fd := by
  have c2 := (He.ba (show (ex K && fn.all fun d => d.ok K) = true from congrArg (fun z : He.AlD => z.1) c)).2
  have e : fn.map (fun d => He5.fnA K (d.at_ K)) = fn.map He5.DefA.val := congrArg (fun z : He.AlD => z.2) c
  have e2 : (fn.map fun d => He5.fnA K (d.at_ K))[i]? = (fn.map He5.DefA.val)[i]? := by rw [e]
  rw [List.getElem?_map, List.getElem?_map, h] at e2
  exact He5.DefA.funD (Option.some.inj e2) (List.all_eq_true.mp c2 d (List.mem_of_getElem? h))
end
/-- one fact more, a tuple of the top among them -/
inductive Fx where
  | fa (f : He.Fa)
  | tup (x : PySem.Str) (vs : List He.Dv)
  | wrap (x m : PySem.Str)
  | dic (x : PySem.Str)
  | insc (x : PySem.Str)
  | bo (f : Frag → Bool)
def Fx.ok0 (K : Frag) : Fx → Bool
  | .fa f => f.ok K
  | _ => false
def Fx.ok (K : Frag) : Fx → Bool
  | .fa f => f.ok K
  | .tup x vs => He.tupB K x vs
  | .wrap x m => He5.wrapB K (He.ga K x) "classmethod" "classmethod.__get__" m
  | .dic x => (He.dicW K (He.ga K x)).isSome
  | .bo f => f K
  | .insc x => (Fx.fa (.cls x)).ok0 K && (He.eqO (findIn K (.ref (He.ga K x)) "__class__") (some (some (.builtin "object.__class__"))) && (He.eqO (specialIn K (.builtin "object.__class__") "__get__") (some (some (.builtin "getset_descriptor.__get__"))) &&
    (decide (takesIn K (.builtin "object.__class__") = some true) && (decide (mroIn K (He.ga K x) (.type "object") = some true) && decide (kitOne K (.ref (He.ga K x)) (.ref (He.ga K x)) = some true)))))
theorem fx_at {fx : List Fx} {K : Frag} (h : (fx.all fun f => f.ok K) = true) (i : Nat) {f : Fx} (e : fx[i]? = some f := by rfl) : f.ok K = true := List.all_eq_true.mp h f (List.mem_of_getElem? e)
theorem insc_ok {x : PySem.Str} {K : Frag} (h : (Fx.insc x).ok K = true) : C8.InsC K (He.ga K x) := by
  obtain ⟨h1, h⟩ := He.ba h
  obtain ⟨h2, h⟩ := He.ba h
  obtain ⟨h3, h⟩ := He.ba h
  obtain ⟨h4, h⟩ := He.ba h
  obtain ⟨h5, h6⟩ := He.ba h
  exact ⟨He.cls_ok h1, He.eqO_ok h2, He.eqO_ok h3, of_decide_eq_true h4, of_decide_eq_true h5, of_decide_eq_true h6⟩
def gdef (x : PySem.Str) (st : Stmt) : He5.DefA := ⟨fun K => He.ga K x, x, x, L2.defArgs st, L2.defBody st, L2.defScope st, [], []⟩
def mdef (c m q : PySem.Str) (st : Stmt) : He5.DefA := ⟨fun K => He.ma K (He.ga K c) m, m, q, L2.defArgs st, L2.defBody st, L2.defScope st, [], []⟩
section
variable {K : Frag} {h : Heap} {mg : PySem.Str → Option Value} {ex : Frag → Bool} {fn : List He5.DefA} {x c m q : PySem.Str} {st : Stmt}
theorem df_of (X : K.In h) (G : h.Ns mainGlobals mg) (f : (Fx.fa (.glo x)).ok K = true) (s : SaysB ex fn K) (i : Nat) (e : fn[i]? = some (gdef x st) := by rfl) : Df K mg x st := by
  obtain ⟨fd, F⟩ := s.def_ i e
  exact ⟨He.ga K x, fd, He5.fun_of F, He.glo_ok X G f⟩
theorem md_of (f : (Fx.fa (.meth c m)).ok K = true) (s : SaysB ex fn K) (i : Nat) (e : fn[i]? = some (mdef c m q st) := by rfl) : Md K (He.ga K c) m q st := by
  obtain ⟨fd, F⟩ := s.def_ i e
  exact ⟨He.ma K (He.ga K c) m, fd, He5.fun_of F, He.meth_ok f⟩
theorem ki_of (X : K.In h) (G : h.Ns mainGlobals mg) (f : (Fx.fa (.glo x)).ok K = true) (f1 : (Fx.fa (.cls x)).ok K = true) (f2 : (Fx.fa (.mkr x)).ok K = true) (s : SaysB ex fn K) (i : Nat) (e : fn[i]? = some (mdef x "__init__" q st) := by rfl) : Ki K mg x (He.ga K x) q st := by
  obtain ⟨fd, F⟩ := s.def_ i e
  exact ⟨He.cls_ok f1, He.glo_ok X G f, He.ma K (He.ga K x) "__init__", fd, He5.fun_of F, He.mkr_ok f2⟩
end
abbrev Tabs := List (PySem.Str × List PySem.Str)
def tabsOf (ts : Tabs) (K : Frag) : List (Option (List (Option (PySem.Str × Int)))) := ts.map fun t => He.dicW K (He.ga K t.1)
def tabsIn (ts : Tabs) (P : Params) : List (Option (List (Option (PySem.Str × Int)))) := ts.map fun t => some (He.keysIn P t.2)
def obsWG (n : Nat) (ex : Frag → Bool) (fn : List He5.DefA) (ts : Tabs) (g : Addr → Option Obj) : He.AlD × List (Option (List (Option (PySem.Str × Int)))) := (obsBG n ex fn g, tabsOf ts (He.frG g (He5.asA g n)))
structure SaysW (ex : Frag → Bool) (fn : List He5.DefA) (ts : Tabs) (w : World) (K : Frag) : Prop where
  b : SaysB ex fn K
  t : tabsOf ts K = tabsIn ts w.params
def hookW (n : Nat) (ex : Frag → Bool) (fn : List He5.DefA) (ts : Tabs) : PySem.W.Hook where
  α := He.AlD × List (Option (List (Option (PySem.Str × Int))))
  obs := fun s => obsWG n ex fn ts s.heap.get?
  val := fun w => (He5.valA fn, tabsIn ts w.params)
  says := fun w h => ∃ K : Frag, K.In h ∧ SaysW ex fn ts w K
  of := fun w s e => ⟨He.frG s.heap.get? (He5.asA s.heap.get? n), He.frG_in, ⟨congrArg Prod.fst e, congrArg Prod.snd e⟩⟩
  keeps := fun _ _ _ ⟨K, hK, c⟩ k => ⟨K, Frag.In.keeps hK k, c⟩
theorem obsWG_eq {n : Nat} {ex : Frag → Bool} {fn : List He5.DefA} {ts : Tabs} {g : Addr → Option Obj} {s : Shared} (h : ∀ a, g a = s.heap.get? a) : obsWG n ex fn ts g = (hookW n ex fn ts).obs s := by
  have e : g = s.heap.get? := funext h
  rw [e] <;> rfl
theorem SaysW.tab {ex : Frag → Bool} {fn : List He5.DefA} {ts : Tabs} {w : World} {K : Frag} (c : SaysW ex fn ts w K) (i : Nat) {t : PySem.Str × List PySem.Str} (h : ts[i]? = some t := by rfl) : ∃ es n, L2.KDict K w (He.ga K t.1) es n := by
  have e : (tabsOf ts K)[i]? = (tabsIn ts w.params)[i]? := by rw [c.t]
  unfold tabsOf tabsIn at e
  rw [List.getElem?_map, List.getElem?_map, h] at e
  exact He.dicW_ok (Option.some.inj e)
end L3
namespace L3
open PySem L2 Evl
end L3
namespace L3
open PySem L2 Evl
end L3
namespace L3
open PySem L2 Evl
end L3
namespace L3
open PySem L2 Evl TL
end L3
namespace L3
open PySem L2 Evl TL
end L3
namespace L3
open PySem L2 Evl TL
end L3
namespace L3
open PySem L2 Evl TL
end L3
namespace L3
open PySem L2 Evl TL
end L3
namespace L3
open PySem L2 Evl TL
theorem evalArgs_star {M : Model} {A : Around} {E : Value → Shared → Prop} {s : Shared} {f : Value} {x : Sem Value} {y : Bool × Sem Value} {rest : List (Bool × Sem Value)} {Q : Args → Shared → Prop}
    (h : wpAny M A (spliced ((true, x) :: y :: rest)) (fun vs s' => Q ⟨vs, []⟩ s') E s) : wpAny M A (evalArgs f true ((true, x) :: y :: rest) []) Q E s := by
  unfold evalArgs
  show wpAny M A (spliced ((true, x) :: y :: rest) >>= _) Q E s
  refine wpAny_bind (wpAny_mono h (fun vs s' h' => ?_) fun _ _ x => x)
  refine wpAny_holding ?_
  exact wpAny_bind (wpAny_pure (wpAny_bind (wpAny_pure (wpAny_pure h'))))
structure Cmd (K : PySem.W.Frag) (C : Addr) (m q : Str) (st : Stmt) : Prop where
  ex : ∃ p g fd, Fun K m q st g fd ∧ ClX.CRead K C (.type "type") ∧ ClX.CMet K C (.type "type") m p g
def cmB (x m : Str) (K : PySem.W.Frag) : Bool := He5.wrapB K (He.ga K x) "classmethod" "classmethod.__get__" m && (PySem.W.fnIn K (He5.wf K (He.ga K x) "classmethod" m) && (PySem.W.readsIn K (He.ga K x) (.type "type") && He.eqO (PySem.W.specialIn K (.ref (He.ga K x)) "__getattribute__") (some (some (.builtin "type.__getattribute__")))))
def cdef (c m q : Str) (st : Stmt) : He5.DefA := ⟨fun K => He5.wf K (He.ga K c) "classmethod" m, m, q, L2.defArgs st, L2.defBody st, L2.defScope st, [], []⟩
theorem cmd_of {K : PySem.W.Frag} {x m q : Str} {st : Stmt} {ex : PySem.W.Frag → Bool} {fn : List He5.DefA} (f : cmB x m K = true) (s : SaysB ex fn K) (i : Nat) (e : fn[i]? = some (cdef x m q st) := by rfl) : Cmd K (He.ga K x) m q st := by
  obtain ⟨h1, h⟩ := He.ba f
  obtain ⟨h2, h⟩ := He.ba h
  obtain ⟨h3, h4⟩ := He.ba h
  obtain ⟨fd, F⟩ := s.def_ i e
  exact ⟨_, _, fd, He5.fun_of F, ⟨h3, He.eqO_ok h4⟩, He5.cmet_of h1 h2⟩
end L3
namespace L3
open PySem L2 Evl TL
def ItzM (K : PySem.W.Frag) (a b : Addr) : It where
  go := fun i H => ∃ (xs ys : List V) (x y : V), SqT K H a xs ∧ SqL K H b ys ∧ xs[i]? = some x ∧ ys[i]? = some y
  yld := fun i H v H' => ∃ T x y, v = .ref T ∧ H T = none ∧ H' = upd H T (.tup [x, y]) ∧ (∀ xs, SqT K H a xs → xs[i]? = some x) ∧ ∀ ys, SqL K H b ys → ys[i]? = some y
  stop := fun i H => ∃ xs ys : List V, SqT K H a xs ∧ SqL K H b ys ∧ i = min xs.length ys.length
def zSt (N a b i : Nat) (h : Heap) : Prop := IsZip h (N + 4) (N + 2) (N + 3) .none ∧ IsTupOf2 h (N + 2) (.ref N) (.ref (N + 1)) ∧ (∃ a1 a2, IsTupOf2 h (N + 3) a1 a2) ∧ h.IsTupleIter N a i ∧ h.IsListIter (N + 1) b i
theorem turn_zipM {P : Program} {w : World} {K : PySem.W.Frag} {elts : List Expr} {kk : Nat} {tpos : Pos} {N a b : Nat} (ha : a < N) (hb : b < N) :
    Turn P w K (.Tuple elts kk tpos) (ItzM K a b) [N + 4, N + 2, N + 3, N, N + 1] (N + 4) (zSt N a b) where
  mem := by simp
  obj := by
    rintro i h ⟨z1, z2, ⟨x1, x2, z3⟩, ⟨o4, z4, _, d4⟩, ⟨o5, z5, _, d5⟩⟩ c hc
    simp only [List.mem_cons, List.not_mem_nil, or_false] at hc
    rcases hc with rfl | rfl | rfl | rfl | rfl
    · exact ⟨_, z1, nofun⟩
    · exact ⟨_, z2, nofun⟩
    · exact ⟨_, z3, nofun⟩
    · exact ⟨o4, z4, fun v q => by rw [d4] at q; cases q⟩
    · exact ⟨o5, z5, fun v q => by rw [d5] at q; cases q⟩
  keep := by
    rintro i h h' ⟨z1, z2, ⟨x1, x2, z3⟩, z4, z5⟩ k
    exact ⟨k _ (by simp) _ z1, k _ (by simp) _ z2, ⟨x1, x2, k _ (by simp) _ z3⟩, z4.at fun o q => k _ (by simp) o q, z5.at fun o q => k _ (by simp) o q⟩
  item := by
    rintro X rfl rfl rfl hc i pins s σ H E I hf st ⟨xs, ys, x, y, qx, qy, hx, hy⟩
    obtain ⟨z1, z2, z3, z4, z5⟩ := st
    obtain ⟨us, ru, pu, _⟩ := I.tuple qx
    obtain ⟨ws, rw', pw, _⟩ := I.list qy
    have lu := ru.length
    have lw := rw'.length
    have ix : i < xs.length := (List.getElem?_eq_some_iff.mp hx).1
    have iy : i < ys.length := (List.getElem?_eq_some_iff.mp hy).1
    have hh : X.A.in1.handled = none := I.ok.hd hc
    have nz : N + 4 < s.heap.objs.size := Heap.lt_size z1
    have W := GoesN.zip2 (prog := X.prog) (w := X.w) (A := X.A) (elts := elts) (x1 := kk) (pos := tpos) (zip_sep2 (N := N) (fp1 := [a]) (fp2 := [b]) (by simpa using ha) (by simpa using hb))
      (Draws.tuple hh N a (Nat.ne_of_lt ha) us.toArray) (Draws.list hh (N + 1) b (Nat.ne_of_lt (Nat.lt_succ_of_lt hb)) ws.toArray)
    refine W.goes i s _ E (by simp; omega) ⟨z1, z2, z3, ⟨z4, pu⟩, ⟨z5, pw.isList⟩⟩ fun v h' tk hY st' hk htk => ?_
    obtain ⟨T, u1, u2, rfl, hT, e1, e2, hTt⟩ := hY
    obtain ⟨w1, w2, w3, ⟨w4, _⟩, ⟨w5, _⟩⟩ := st'
    obtain ⟨v1, g1, r1⟩ := ru.get hx
    obtain ⟨v2, g2, r2⟩ := rw'.get hy
    have q1 : u1 = v1 := by
      have : us.toArray[i]? = us[i]? := by simp
      rw [this, g1] at e1
      exact (Option.some.inj e1).symm
    have q2 : u2 = v2 := by
      have : ws.toArray[i]? = ws[i]? := by simp
      rw [this, g2] at e2
      exact (Option.some.inj e2).symm
    subst q1 q2
    have new : ObjOk X.prog X.w (upd H T (.tup [x, y])) h' T (.tup [x, y]) := ⟨by show 2 ≤ sizeLine; decide, [u1, u2], .cons r1 (.cons r2 .nil), hTt⟩
    have I1 : Inv X pins σ (upd H T (.tup [x, y])) { s with heap := h', toks := tk } := I.turnedNew (t' := tk) (ch := [N + 4, N + 3, N, N + 1]) (fun c o hb q => hk c o hb q) (fun c hc' => hf c (by
      simp only [List.mem_cons, List.not_mem_nil, or_false] at hc' ⊢
      rcases hc' with z | z | z | z <;> simp [z])) hT new
    refine ⟨.ref T, _, I1, rfl, ⟨T, x, y, rfl, I.hok.fresh hT, rfl, fun l hl => by rw [I.tuple_inj hl qx]; exact hx, fun l hl => by rw [I.list_inj hl qy]; exact hy⟩, ⟨w1, w2, w3, w4, w5⟩, fun c hc' => ?_⟩
    have lt : c < s.heap.objs.size := by
      simp only [List.mem_cons, List.not_mem_nil, or_false] at hc'
      rcases hc' with z | z | z | z | z
      · exact Nat.lt_of_le_of_lt (Nat.le_of_eq z) nz
      · exact Nat.lt_of_le_of_lt (Nat.le_of_eq z) (by omega)
      · exact Nat.lt_of_le_of_lt (Nat.le_of_eq z) (by omega)
      · exact Nat.lt_of_le_of_lt (Nat.le_of_eq z) (by omega)
      · exact Nat.lt_of_le_of_lt (Nat.le_of_eq z) (by omega)
    rw [upd_ne (Nat.ne_of_lt (Nat.lt_of_lt_of_le lt hT))]
    exact (hf c hc').1
  done := by
    rintro X rfl rfl rfl hc i pins s σ H E I hf st ⟨xs, ys, qx, qy, hi⟩
    obtain ⟨z1, z2, z3, z4, z5⟩ := st
    obtain ⟨us, ru, pu, _⟩ := I.tuple qx
    obtain ⟨ws, rw', pw, _⟩ := I.list qy
    have lu := ru.length
    have lw := rw'.length
    have hh : X.A.in1.handled = none := I.ok.hd hc
    have W := GoesN.zip2 (prog := X.prog) (w := X.w) (A := X.A) (elts := elts) (x1 := kk) (pos := tpos) (zip_sep2 (N := N) (fp1 := [a]) (fp2 := [b]) (by simpa using ha) (by simpa using hb))
      (Draws.tuple hh N a (Nat.ne_of_lt ha) us.toArray) (Draws.list hh (N + 1) b (Nat.ne_of_lt (Nat.lt_succ_of_lt hb)) ws.toArray)
    have e : min us.toArray.size ws.toArray.size = i := by simp; omega
    refine W.stops s (fun s1 => Inv X pins σ H s1) E (by rw [e]; exact ⟨z1, z2, z3, ⟨z4, pu⟩, ⟨z5, pw.isList⟩⟩) fun h' tk hk htk => ?_
    exact I.turnedL (t' := tk) (ch := [N + 4, N + 3, N, N + 1]) (fun c o hb q => hk c o hb q) (fun c hc' => hf c (by
      simp only [List.mem_cons, List.not_mem_nil, or_false] at hc' ⊢
      rcases hc' with z | z | z | z <;> simp [z]))
  self := fun A i s Q E st h => wpAny_pyIter_zip st.1 h
def iZipM (K : PySem.W.Frag) (ta : TA) : TI := fun σ H R => ta σ H fun vs H1 => ∃ a b xs ys, vs = [.ref a, .ref b] ∧ SqT K H1 a xs ∧ SqL K H1 b ys ∧ R (ItzM K a b) H1
theorem pi_zipM {X : Cx} {e e2 : Expr} {ta : TA} {p pos tpos : Pos} {elts : List Expr} {kk : Nat} (hg : Gl X "zip") (hm : X.mg "zip" = none) (ha : PA X [e, e2] ta)
    (hs : starEach [e, e2] X.env = (false, eval e X.env) :: starEach [e2] X.env := by rfl) (hpl : (backTo pos (starEach [e2] X.env)).any (·.1) = false := by rfl) : PI X (.Tuple elts kk tpos) (.Call (.Name "zip" p) [e, e2] [] pos) (iZipM X.K ta) := by
  refine ⟨fun pins s σ H R I h => ?_⟩
  refine PyProof.Rows.Call_ (ld_blt I hg hm PyProof.Rows.boot_zip (PyProof.Rows.callWith_type1 (thn (ha.run pos pins s σ H _ I h) fun us s1 ⟨vs, H1, I1, r1, a, b, xs, ys, ex, qx, qy, q⟩ => ?_) hs hpl))
  subst ex
  obtain ⟨u1, u2, rfl, ra, rb⟩ := vals2 r1
  cases ra
  cases rb
  obtain ⟨its, rv, p1, _⟩ := I1.tuple qx
  obtain ⟨its2, rv2, p2, _⟩ := I1.list qy
  have la : a < s1.heap.objs.size := by
    obtain ⟨o1, ho1, _⟩ := id p1
    exact Heap.lt_size ho1
  refine zip_begins2 (begins_tuple a its.toArray) (begins_list b its2.toArray) p1 p2.isList fun h' hz hTI hTO h1 h2 hsz hk => wpAny_pyIter_zip hz ?_
  have I2 : Inv X pins σ H1 { s1 with heap := h' } := I1.kept (t' := s1.toks) hk
  refine ⟨s1.heap.objs.size + 4, [s1.heap.objs.size + 4, s1.heap.objs.size + 2, s1.heap.objs.size + 3, s1.heap.objs.size, s1.heap.objs.size + 1], _, _, H1, rfl, I2, turn_zipM la p2.lt, ⟨hz, hTI, ⟨_, _, hTO⟩, ?_, ?_⟩, fun c hc => ?_, q⟩
  · exact ⟨_, h1, rfl, rfl⟩
  · exact ⟨_, h2, rfl, rfl⟩
  · have hle : s1.heap.objs.size ≤ c := by
      simp only [List.mem_cons, List.not_mem_nil, or_false] at hc
      rcases hc with z | z | z | z | z <;> rw [z] <;> first | exact Nat.le_refl _ | exact Nat.le_add_right _ _
    exact I1.fpOk hle (I1.hok.fresh hle)
end L3
namespace L3
open PySem L2 Evl TL
end L3
namespace L3
open PySem L2 Evl TL
end L3
namespace L3
open PySem L2 Evl TL
end L3
namespace L3
open PySem L2 Evl TL
def rInKD (K : PySem.W.Frag) (d : Addr) (neg : Bool) : R2 := fun x y H Q => ∃ (z : Str) (r : Option Value), x = .str z ∧ y = .ref d ∧ PySem.W.nsIn K d z = some r ∧ Q (.bl (if neg then !r.isSome else r.isSome)) H
theorem op_notIn_kd' {X : Cx} {d : Addr} {es : Array DictEntry} {n : Nat} (D : KDict X.K X.w d es n) : OpR X (compareOp .NotIn) (rInKD X.K d true) := op_notIn_kd D
end L3
namespace L3
open PySem PySem.Spec PyProof.Rows L2 Evl TL
end L3
namespace L3
open PySem PySem.Spec PyProof.Rows L2 Evl TL
end L3
namespace L3
open PySem L2 Evl TL
theorem kdct_of {K : PySem.W.Frag} {w : World} {a : Addr} {es : Array DictEntry} {n : Nat} {x : Str} {v : V} {u : Value} (D : KDict K w a es n) (h : PySem.W.nsIn K a x = some (some u)) (r : RelV v u) : KDct K w a x v := ⟨es, n, u, D.at_, D.lit, h, r⟩
end L3
namespace L3
open PySem PySem.Spec PyProof.Rows L2 Evl TL
end L3
namespace L3
open PySem PySem.Spec PyProof.Rows L2 Evl TL
/-- what is no list still stands -/
def Kt (H H' : Hp) : Prop := ∀ a u, H a = some u → (∀ ys, u ≠ .lst ys) → H' a = some u
end L3
namespace L3
open PySem PySem.Spec PyProof.Rows L2 Evl TL
structure FnG (P : Program) (w : World) (K : PySem.W.Frag) (mg : Str → Option Value) (base : Heap) (k : Nat) (f : Addr) (fd : FuncData) (ps : List Str) (sp : Sp) : Prop where
  len : ∀ vs H Q E, sp vs H Q E → vs.length = ps.length
  run : ∀ (A : Around) (outer : List Env) (s : Shared) (H : Hp) (args : Args) (us : List Value) (vs : List V) (Q : VK) (E : XK), A.guards = some [] → Room k A → Env0 P w K mg base A outer s H →
    BindsTo s fd args (ps.zip us) → Vals vs us → sp vs H Q E → codeAny (model P w) A (.call (.ref f) args) (CR CX0 outer P w H s Q E) s
section
variable {P : Program} {w : World} {K : PySem.W.Frag} {mg : Str → Option Value} {base : Heap} {k : Nat}
theorem fnG_of {f : Addr} {x q : Str} {st : Stmt} {fd : FuncData} {N ps : List Str} {sp : Sp} (F : Fun K x q st f fd) (S : FnScope N ps (defScope st)) (len : ∀ vs H Q E, sp vs H Q E → vs.length = ps.length)
    (hbody : ∀ (cdv : Value) (A : Around) (outer : List Env) (s : Shared) (H : Hp) (vs : List V) (Q : VK) (E : XK), A.guards = some [] → Room k (A.deeper (envOfC q (defScope st) s.heap.objs.size f cdv)) → sp vs H Q E →
      ∃ t, PSs (cxOf CX0 P w K mg base N q (defScope st) f cdv A outer s H E).nox (defBody st) t ∧ t { nx := fun _ H' => Q .non H', rt := Q } (start N vs) H) : FnG P w K mg base (k + 1) f fd ps sp := by
  obtain ⟨oc, od, kV, doc, pm, an, cdv, ct, osl, rfl, lk, hcd⟩ := F.ex
  refine ⟨len, ?_⟩
  intro A outer s H args us vs Q E hg hr e0 hb r hsp
  have keep : ∀ b o, base.get? b = some o → s.heap.get? b = some o := fun b o e => (e0.bs b o e).1
  have KX : K.In s.heap := e0.mod.kin.keeps keep
  have par : ∀ y ∈ ps.zip us, (defScope st).names.lookup y.1 = some .local ∨ ((defScope st).names.lookup y.1 = some .cell ∧ ((cellsFrom (s.heap.objs.size + 1) (defScope st).names []).lookup y.1).isSome = true) := by
    rintro ⟨n, v⟩ hy
    cases S.par n (List.of_mem_zip hy).1 with
    | inl z => exact .inl z
    | inr z => exact .inr ⟨z, PySem.W.cellsFrom_some _ _ _ (.inl z)⟩
  refine codeAny_call_function hr.depth (KX _ _ lk) rfl S.co S.gen rfl (PySem.W.codeRec_of KX hcd) ?_
  refine hb _ _ _ _ ?_
  refine wpAny_newFunctionEnv_cells S.kind par ?_
  rintro env rfl s1 x
  refine ⟨(e0.mod.nolimit.keeps keep).keeps x.toInCall.keep, ?_⟩
  refine codeAny_func ?_
  obtain ⟨t, ht, hq⟩ := hbody cdv A outer s H vs Q E hg (hr.deeper _) hsp
  have I : Inv (cxOf CX0 P w K mg base N q (defScope st) f cdv A outer s H E) [] (start N vs) H s1 := inv_start S hr.hd e0 (len _ _ _ _ hsp) r x
  refine wpAny_mono (ht.nox.run [] s1 (start N vs) H _ I hq) ?_ (fun _ _ z => z)
  intro fl s' hs
  match fl, hs with
  | .ret u, ⟨v, σ', H', J, rv, z⟩ => exact ⟨v, H', J.os, J.bare, J.base, J.hok, rv, z⟩
  | .next, ⟨σ', H', J, z⟩ => exact ⟨.non, H', J.os, J.bare, J.base, J.hok, rfl, z⟩
  | .brk, ⟨_, _, _, z⟩ => exact z.elim
  | .cont, ⟨_, _, _, z⟩ => exact z.elim
end
section
variable {P : Program} {w : World} {K : PySem.W.Frag} {mg mb : Str → Option Value} {k : Nat} {fa a : Addr} {fd : FuncData} {x : Str} {sp : Sp} {s₁ : Shared} {vs : List Value} {ns : List Int}
/-- the call of a law from an abstract heap that knows of the script at most -/
theorem callG_core {H : Hp} (KX : K.In s₁.heap) (hns : s₁.heap.Ns mainGlobals mg) (hb : s₁.heap.Ns builtinsNs mb) (hbb : ∀ x : Str, x ≠ "__name__" → mb x = bootBuiltins x) (hlim : s₁.heap.NoLimit) (hg : s₁.gens = #[])
    (isL : s₁.heap.get? a = some { cls := .type "list", data := .seq vs.toArray }) (hr : Room k callerA)
    (F : ∀ base : Heap, K.In base → base.Ns mainGlobals mg → FnG P w K mg base k fa fd [x] sp) (hbind : ∀ (s : Shared) (u : Value), BindsTo s fd ⟨[u], []⟩ [(x, u)])
    (hsp : sp [.ref a] H (fun v _ => v = .bl true) fun _ _ _ => False) (hO : Only H) (hok : HOk P w H s₁.heap) (hA : ∀ b, H b ≠ none → b = a) (hK : H a ≠ none → K.lookup a = none) :
    codeAny (model P w) callerA (.call (.ref fa) ⟨[.ref a], []⟩) (fun r s' => r = .ok (.ret (.bool true)) ∧ OldK s₁.heap s'.heap ∧ s'.os = s₁.os ∧ AllBare s'.gens) s₁ := by
  have free : ∀ b, b ≠ a → H b = none := fun b hne => by
    cases z : H b with
    | none => rfl
    | some u => exact absurd (hA b (by rw [z]; simp)) hne
  have stays : ∀ {b : Addr} {m : Str → Option Value}, s₁.heap.Ns b m → (hidT s₁.heap H).Ns b m := by
    rintro b m ⟨o, es, ep, e, d, rest⟩
    refine ⟨o, es, ep, hidT_get e (free b fun z => ?_), d, rest⟩
    rw [z, isL] at e
    cases e
    exact Data.noConfusion d
  have inB : K.In (hidT s₁.heap H) := by
    intro b o e
    refine hidT_get (KX b o e) ?_
    cases z : H b with
    | none => rfl
    | some u =>
      have nz : H b ≠ none := by rw [z]; simp
      have ea := hA b nz
      rw [ea] at e nz
      rw [hK nz] at e
      cases e
  obtain ⟨mc, lim1, lim2⟩ := hlim
  have md : Mod K mg (hidT s₁.heap H) := ⟨inB, stays hns, ⟨mb, stays hb, hbb⟩, ⟨mc, stays lim1, lim2⟩⟩
  have env : Env0 P w K mg (hidT s₁.heap H) callerA [] s₁ H := by
    refine ⟨rfl, md, fun b o e => of_hidT e, Nat.le_of_eq (hidT_size _ _), trivial, ?_, hok, .of_eq hg⟩
    intro b hb
    exact nomatch (show b ∈ ([] : List Addr) from hb)
  have go := (F _ inB (stays hns)).run callerA [] s₁ H ⟨[.ref a], []⟩ [.ref a] [.ref a] _ _ rfl hr env (hbind s₁ (.ref a)) (.cons rfl .nil) hsp
  refine codeAny_mono go ?_
  intro r s' h
  match r, h with
  | .ok (.ret u), ⟨v, H', os, bare, un, hok', ru, (ev : v = .bl true)⟩ =>
    subst ev
    cases (show u = Value.bool true from ru)
    refine ⟨rfl, OldK.of_keep ?_, os, bare⟩
    intro b o e
    rcases hO b with z | ⟨ob, xs, z⟩
    · exact un.keep b o e z (fun w => nomatch (show b ∈ ([] : List Addr) from w)) (by simp)
    · have e1 := (hok b _ z).1
      have e2 := (hok' b _ (un.frzs b ob _ z)).1
      rw [e] at e1
      cases e1
      exact e2
theorem callG {n : Nat} (KX : K.In s₁.heap) (hns : s₁.heap.Ns mainGlobals mg) (hb : s₁.heap.Ns builtinsNs mb) (hbb : ∀ x : Str, x ≠ "__name__" → mb x = bootBuiltins x) (hlim : s₁.heap.NoLimit) (hg : s₁.gens = #[])
    (isL : s₁.heap.get? a = some { cls := .type "list", data := .seq vs.toArray }) (hi : IntsAre vs ns) (hl : ns.length ≤ sizeLine) (hr : Room k callerA)
    (F : ∀ base : Heap, K.In base → base.Ns mainGlobals mg → FnG P w K mg base k fa fd [x] sp) (hbind : ∀ (s : Shared) (u : Value), BindsTo s fd ⟨[u], []⟩ [(x, u)])
    (hsp : ∀ H : Hp, Only H → SqL K H a (ns.map V.int) → sp [.ref a] H (fun v _ => v = .bl true) fun _ _ _ => False) :
    codeAny (model P w) callerA (.call (.ref fa) ⟨[.ref a], []⟩) (fun r s' => r = .ok (.ret (.bool true)) ∧ OldK s₁.heap s'.heap ∧ s'.os = s₁.os ∧ AllBare s'.gens) s₁ := by
  have rv := vals_ints hi
  have lenV := hi.length
  cases own : K.lookup a with
  | some o =>
    have e := KX a o own
    rw [isL] at e
    cases e
    have hO : Only (fun _ => none) := fun _ => .inl rfl
    have hS : SqL K (fun _ => none) a (ns.map V.int) := .inr ⟨_, vs.toArray, _, own, rfl, rfl, rfl, by rw [List.size_toArray, lenV]; exact hl, by simpa using rv⟩
    exact callG_core KX hns hb hbb hlim hg isL hr F hbind (hsp _ hO hS) hO (fun b u z => by cases z) (fun b z => absurd rfl z) (fun z => absurd rfl z)
  | none =>
    let H0 : Hp := fun b => if b = a then some (.frz { cls := .type "list", data := .seq vs.toArray } (.lst (ns.map V.int))) else none
    have at_a : H0 a = some (.frz { cls := .type "list", data := .seq vs.toArray } (.lst (ns.map V.int))) := if_pos rfl
    have off : ∀ b, b ≠ a → H0 b = none := fun b z => if_neg z
    have hO : Only H0 := fun b => by
      by_cases z : b = a
      · rw [z]; exact .inr ⟨_, _, at_a⟩
      · exact .inl (off b z)
    have hS : SqL K H0 a (ns.map V.int) := .inl (.inr ⟨{ cls := .type "list", data := .seq vs.toArray }, at_a⟩)
    refine callG_core KX hns hb hbb hlim hg isL hr F hbind (hsp _ hO hS) hO ?_ ?_ (fun _ => own)
    · intro b u hu
      by_cases z : b = a
      · subst z
        rw [at_a] at hu
        cases hu
        exact ⟨isL, by rw [List.length_map]; exact hl, vs, _, rv, isL⟩
      · rw [off b z] at hu
        cases hu
    · intro b hne
      by_cases z : b = a
      · exact z
      · exact absurd (off b z) hne
end
end L3
namespace L4
open PySem L2
inductive D where
  | non | bl (b : Bool) | int (i : Int) | str (x : Str) | tup (ds : List D) | lst (ds : List D) | scr (ds : List D) | dic (ks vs : List D) | obj (c : Str) (ns : List Str) (vs : List D) | ref (n : Nat) | glo (x : Str) | ty (n : String) | ptp (ds : List D)
instance : Inhabited D := ⟨.non⟩
inductive O where
  | lst (ds : List D) | dic (ks vs : List D) | ins (c : Str) (ns : List Str) (vs : List D)
abbrev M := List O
structure G where
  P : Program
  w : World
  K : PySem.W.Frag
abbrev gx (X : Cx) : G := ⟨X.prog, X.w, X.K⟩
mutual
def nk : D → Option NestedKey
  | .non => some .none
  | .bl b => some (.num (if b then 1 else 0))
  | .int i => some (.num i)
  | .str x => some (.text x)
  | .tup ds => (nks ds).map .tup
  | .lst _ => none
  | .scr _ => none
  | .dic _ _ => none
  | .obj _ _ _ => none
  | .ref _ => none
  | .glo _ => none
  | .ty _ => none
  | .ptp _ => none
def nks : List D → Option (List NestedKey)
  | [] => some []
  | d :: ds => match nk d, nks ds with
    | some k, some ks => some (k :: ks)
    | _, _ => none
end
/-- a tuple that is a key -/
def nkT : D → Option NestedKey
  | .tup ds => match nks ds with
    | some ks => if (NestedKey.tup ks).depth ≤ 8 then some (.tup ks) else none
    | none => none
  | _ => none
/-- a dict with nested keys, by its own object -/
def dnO (g : G) (a : Addr) (kvs : List (NestedKey × Addr × V)) : HO := .ext fun h => kvs.length ≤ sizeLine ∧ (a == sysModules) = false ∧ ∃ xs : List (NestedKey × Addr × Value),
  Paired (fun (p : NestedKey × Addr × V) (q : NestedKey × Addr × Value) => p.1 = q.1 ∧ p.2.1 = q.2.1 ∧ RelV p.2.2 q.2.2) kvs xs ∧
  ∃ o es ep, h.get? a = some o ∧ o.ExactDict ∧ o.data = .dict es ep ∧ es.toList = xs.map (entryOfKey (nestedKind g.P g.w)) ∧ (xs.map (·.1)).Nodup
/-- what is tracked, and what may not be held as plain data -/
structure Tk where
  μ : List Addr
  ν : List Addr
  sub : ∀ a ∈ μ, a ∈ ν
/-- a read list, tuple that is not tracked: in the heap, or of the top -/
def FL (T : Tk) (H : Hp) (a : Addr) (vs : List V) : Prop := a ∉ T.ν ∧ H a = some (.lst vs)
/-- the script -/
def FS (K : PySem.W.Frag) (T : Tk) (H : Hp) (a : Addr) (vs : List V) : Prop := (a ∉ T.ν ∧ ∃ o, H a = some (.frz o (.lst vs))) ∨ SqL K (fun _ => none) a vs
def FT (K : PySem.W.Frag) (T : Tk) (H : Hp) (a : Addr) (vs : List V) : Prop := (a ∉ T.ν ∧ Rd H a (.tup vs)) ∨ SqT K (fun _ => none) a vs
/-- a tuple without a dict of its own, held as it is -/
def FP (T : Tk) (H : Hp) (a : Addr) (vs : List V) : Prop := a ∉ T.ν ∧ ∃ o : Obj, H a = some (.frz o (.tup vs)) ∧ o.dict = none
mutual
inductive Rep (g : G) (T : Tk) (H : Hp) : D → V → Prop
  | non : Rep g T H .non .non
  | bl (b) : Rep g T H (.bl b) (.bl b)
  | int (i) : Rep g T H (.int i) (.int i)
  | str (x) : Rep g T H (.str x) (.str x)
  | tup {a vs ds} : FT g.K T H a vs → RepL g T H ds vs → Rep g T H (.tup ds) (.ref a)
  | lst {a vs ds} : FL T H a vs → RepL g T H ds vs → Rep g T H (.lst ds) (.ref a)
  | scr {a vs ds} : FS g.K T H a vs → RepL g T H ds vs → Rep g T H (.scr ds) (.ref a)
  | dicF {a kvs ks vs} : a ∉ T.ν → Rd H a (.dK kvs) → RepL g T H ks (kvs.map fun p => kV p.1) → RepL g T H vs (kvs.map Prod.snd) → Rep g T H (.dic ks vs) (.ref a)
  | dicN {a kvs ks vs} : a ∉ T.ν → Rd H a (dnO g a kvs) → (ks.map nkT = kvs.map (fun p => some p.1) ∧ kvs ≠ []) → RepL g T H ks (kvs.map fun p => .ref p.2.1) → RepL g T H vs (kvs.map fun p => p.2.2) → Rep g T H (.dic ks vs) (.ref a)
  | obj {a dx fs c ns vs} : a ∉ T.ν → H a = some (.ins (He.ga g.K c) dx fs) → fs.map Prod.fst = ns → RepL g T H vs (fs.map Prod.snd) → Rep g T H (.obj c ns vs) (.ref a)
  | ref {n a} : T.μ[n]? = some a → Rep g T H (.ref n) (.ref a)
  | glo (x) : Rep g T H (.glo x) (.ref (He.ga g.K x))
  | ty (n) : Rep g T H (.ty n) (.ty n)
  | ptp {a vs ds} : FP T H a vs → RepL g T H ds vs → Rep g T H (.ptp ds) (.ref a)
inductive RepL (g : G) (T : Tk) (H : Hp) : List D → List V → Prop
  | nil : RepL g T H [] []
  | cons {d v ds vs} : Rep g T H d v → RepL g T H ds vs → RepL g T H (d :: ds) (v :: vs)
end
/-- what came later: what isn't tracked stays, what is newly tracked was new -/
structure Le (T : Tk) (H : Hp) (T' : Tk) (H' : Hp) : Prop where
  pre : T.μ <+: T'.μ
  keep : ∀ a u, H a = some u → a ∉ T.μ → H' a = some u
  new : ∀ a ∈ T'.ν, a ∉ T.ν → H a = none
  newμ : ∀ a ∈ T'.μ, a ∉ T.μ → H a = none
  up : ∀ a ∈ T.ν, a ∈ T'.ν
section
variable {g : G} {T T1 T2 : Tk} {H H1 H2 : Hp}
theorem Tk.out {a : Addr} (h : a ∉ T.ν) : a ∉ T.μ := fun z => h (T.sub a z)
theorem Le.refl : Le T H T H := ⟨List.prefix_rfl, fun _ _ h _ => h, fun _ h n => absurd h n, fun _ h n => absurd h n, fun _ h => h⟩
theorem Le.out (l : Le T H T1 H1) {a : Addr} {u : HO} (h : H a = some u) (n : a ∉ T.ν) : a ∉ T1.ν := fun z => by rw [l.new a z n] at h; cases h
theorem Le.rd (l : Le T H T1 H1) {a : Addr} {u : HO} (h : Rd H a u) (n : a ∉ T.ν) : Rd H1 a u ∧ a ∉ T1.ν := by
  rcases h with h | ⟨o, h⟩
  · exact ⟨.inl (l.keep _ _ h (Tk.out n)), l.out h n⟩
  · exact ⟨.inr ⟨o, l.keep _ _ h (Tk.out n)⟩, l.out h n⟩
theorem Le.get (l : Le T H T1 H1) {n : Nat} {a : Addr} (h : T.μ[n]? = some a) : T1.μ[n]? = some a := by
  obtain ⟨t, e⟩ := l.pre
  rw [← e, List.getElem?_append_left (List.getElem?_eq_some_iff.mp h).1]
  exact h
theorem FL.le {a : Addr} {vs : List V} (l : Le T H T1 H1) (h : FL T H a vs) : FL T1 H1 a vs := ⟨l.out h.2 h.1, l.keep _ _ h.2 (Tk.out h.1)⟩
theorem FS.le {K : PySem.W.Frag} {a : Addr} {vs : List V} (l : Le T H T1 H1) (h : FS K T H a vs) : FS K T1 H1 a vs := by
  rcases h with ⟨n, o, h⟩ | h
  · exact .inl ⟨l.out h n, o, l.keep _ _ h (Tk.out n)⟩
  · exact .inr h
theorem FT.le {K : PySem.W.Frag} {a : Addr} {vs : List V} (l : Le T H T1 H1) (h : FT K T H a vs) : FT K T1 H1 a vs := by
  rcases h with ⟨n, h⟩ | h
  · exact .inl ⟨(l.rd h n).2, (l.rd h n).1⟩
  · exact .inr h
theorem FP.le {a : Addr} {vs : List V} (l : Le T H T1 H1) (h : FP T H a vs) : FP T1 H1 a vs := by
  obtain ⟨n, o, h, e⟩ := h
  exact ⟨l.out h n, o, l.keep _ _ h (Tk.out n), e⟩
theorem FL.sq {K : PySem.W.Frag} {a : Addr} {vs : List V} (h : FL T H a vs) : SqL K H a vs := .of h.2
theorem FS.sq {K : PySem.W.Frag} {a : Addr} {vs : List V} (h : FS K T H a vs) : SqL K H a vs := by
  rcases h with ⟨n, o, h⟩ | h | h
  · exact .inl (.inr ⟨o, h⟩)
  · rcases h with h | ⟨_, h⟩ <;> cases h
  · exact .inr h
theorem FT.sq {K : PySem.W.Frag} {a : Addr} {vs : List V} (h : FT K T H a vs) : SqT K H a vs := by
  rcases h with ⟨n, h⟩ | h | h
  · exact .inl h
  · rcases h with h | ⟨_, h⟩ <;> cases h
  · exact .inr h
mutual
theorem Rep.le (l : Le T H T1 H1) : ∀ {d : D} {v : V}, Rep g T H d v → Rep g T1 H1 d v
  | _, _, .non => .non
  | _, _, .bl b => .bl b
  | _, _, .int i => .int i
  | _, _, .str x => .str x
  | _, _, .tup f r => .tup (f.le l) (RepL.le l r)
  | _, _, .lst f r => .lst (f.le l) (RepL.le l r)
  | _, _, .scr f r => .scr (f.le l) (RepL.le l r)
  | _, _, .dicF n h r q => .dicF (l.rd h n).2 (l.rd h n).1 (RepL.le l r) (RepL.le l q)
  | _, _, .dicN n h e r q => .dicN (l.rd h n).2 (l.rd h n).1 e (RepL.le l r) (RepL.le l q)
  | _, _, .obj n h e r => .obj (l.out h n) (l.keep _ _ h (Tk.out n)) e (RepL.le l r)
  | _, _, .ref h => .ref (l.get h)
  | _, _, .glo x => .glo x
  | _, _, .ty n => .ty n
  | _, _, .ptp f r => .ptp (f.le l) (RepL.le l r)
theorem RepL.le (l : Le T H T1 H1) : ∀ {ds : List D} {vs : List V}, RepL g T H ds vs → RepL g T1 H1 ds vs
  | _, _, .nil => .nil
  | _, _, .cons r s => .cons (Rep.le l r) (RepL.le l s)
end
theorem RepL.length : ∀ {ds : List D} {vs : List V}, RepL g T H ds vs → ds.length = vs.length
  | _, _, .nil => rfl
  | _, _, .cons _ s => by simp [RepL.length s]
theorem RepL.get : ∀ {ds : List D} {vs : List V} {i : Nat} {d : D}, RepL g T H ds vs → ds[i]? = some d → ∃ v, vs[i]? = some v ∧ Rep g T H d v
  | _, _, 0, _, .cons r _, h => by cases h; exact ⟨_, rfl, r⟩
  | _, _, i + 1, _, .cons _ s, h => by obtain ⟨v, e, q⟩ := RepL.get (i := i) s (by simpa using h); exact ⟨v, by simpa using e, q⟩
  | _, _, 0, _, .nil, h => by cases h
  | _, _, i + 1, _, .nil, h => by cases h
theorem RepL.back : ∀ {ds : List D} {vs : List V} {i : Nat} {v : V}, RepL g T H ds vs → vs[i]? = some v → ∃ d, ds[i]? = some d ∧ Rep g T H d v
  | _, _, 0, _, .cons r _, h => by cases h; exact ⟨_, rfl, r⟩
  | _, _, i + 1, _, .cons _ s, h => by obtain ⟨v, e, q⟩ := RepL.back (i := i) s (by simpa using h); exact ⟨v, by simpa using e, q⟩
  | _, _, 0, _, .nil, h => by cases h
  | _, _, i + 1, _, .nil, h => by cases h
theorem RepL.append : ∀ {ds es : List D} {vs us : List V}, RepL g T H ds vs → RepL g T H es us → RepL g T H (ds ++ es) (vs ++ us)
  | _, _, _, _, .nil, h => h
  | _, _, _, _, .cons r s, h => .cons r (RepL.append s h)
theorem RepL.of {ds : List D} {vs : List V} (hl : ds.length = vs.length) (h : ∀ (i : Nat) d v, ds[i]? = some d → vs[i]? = some v → Rep g T H d v) : RepL g T H ds vs := by
  induction ds generalizing vs with
  | nil => cases vs with
    | nil => exact .nil
    | cons _ _ => cases hl
  | cons d ds ih => cases vs with
    | nil => cases hl
    | cons v vs => exact .cons (h 0 d v rfl rfl) (ih (by simpa using hl) fun i e u p q => h (i + 1) e u (by simpa using p) (by simpa using q))
/-- a tracked object -/
inductive RepO (g : G) (T : Tk) (H : Hp) (a : Addr) : O → Prop
  | lst {ds vs} : H a = some (.lst vs) → RepL g T H ds vs → RepO g T H a (.lst ds)
  | dicF {kvs ks vs} : H a = some (.dK kvs) → RepL g T H ks (kvs.map fun p => kV p.1) → RepL g T H vs (kvs.map Prod.snd) → RepO g T H a (.dic ks vs)
  | dicN {kvs ks vs} : H a = some (dnO g a kvs) → (ks.map nkT = kvs.map (fun p => some p.1) ∧ kvs ≠ []) → RepL g T H ks (kvs.map fun p => .ref p.2.1) → RepL g T H vs (kvs.map fun p => p.2.2) → RepO g T H a (.dic ks vs)
  | ins {dx fs c ns vs} : H a = some (.ins (He.ga g.K c) dx fs) → fs.map Prod.fst = ns → RepL g T H vs (fs.map Prod.snd) → RepO g T H a (.ins c ns vs)
/-- an object that may change -/
def Mu : HO → Prop
  | .lst _ => True
  | .dK _ => True
  | .ext _ => True
  | .ins _ _ _ => True
  | _ => False
structure RepH (g : G) (T : Tk) (H : Hp) (m : M) : Prop where
  len : T.μ.length = m.length
  nd : T.μ.Nodup
  has : ∀ a ∈ T.ν, ∃ u, H a = some u ∧ Mu u
  at_ : ∀ (n : Nat) a o, T.μ[n]? = some a → m[n]? = some o → RepO g T H a o
theorem RepO.le {a : Addr} {o : O} (l : Le T H T1 H1) (e : H1 a = H a) (r : RepO g T H a o) : RepO g T1 H1 a o := by
  cases r with
  | lst h r => exact .lst (e.trans h) (r.le l)
  | dicF h r q => exact .dicF (e.trans h) (r.le l) (q.le l)
  | dicN h k r q => exact .dicN (e.trans h) k (r.le l) (q.le l)
  | ins h k r => exact .ins (e.trans h) k (r.le l)
theorem RepO.has {a : Addr} {o : O} (r : RepO g T H a o) : ∃ u, H a = some u ∧ Mu u := by
  cases r with
  | lst h _ => exact ⟨_, h, trivial⟩
  | dicF h _ _ => exact ⟨_, h, trivial⟩
  | dicN h _ _ _ => exact ⟨_, h, trivial⟩
  | ins h _ _ => exact ⟨_, h, trivial⟩
variable {m : M}
theorem RepH.nope (r : RepH g T H m) {p : Addr} (h : H p = none) : p ∉ T.ν := fun z => by obtain ⟨u, e, _⟩ := r.has p z; rw [h] at e; cases e
/-- what isn't tracked may change as long as what there is stays -/
theorem RepH.grow (r : RepH g T H m) (k : ∀ a u, H a = some u → H1 a = some u) : Le T H T H1 ∧ RepH g T H1 m := by
  have l : Le T H T H1 := ⟨List.prefix_rfl, fun a u e _ => k a u e, fun a h n => absurd h n, fun a h n => absurd h n, fun _ h => h⟩
  refine ⟨l, r.len, r.nd, fun a h => ?_, fun n a o h1 h2 => (r.at_ n a o h1 h2).le l ?_⟩
  · obtain ⟨u, e, z⟩ := r.has a h
    exact ⟨u, k a u e, z⟩
  · obtain ⟨v, e, _⟩ := (r.at_ n a o h1 h2).has
    rw [e, k a v e]
/-- a new object that isn't tracked -/
theorem RepH.fresh (r : RepH g T H m) {p : Addr} {u : HO} (h : H p = none) : Le T H T (upd H p u) ∧ RepH g T (upd H p u) m :=
  r.grow fun a v e => by rw [upd_ne (ne_of_none e h)]; exact e
def Tk.push (T : Tk) (p : Addr) : Tk := ⟨T.μ ++ [p], T.ν ++ [p], fun a h => by
  rcases List.mem_append.mp h with z | z
  · exact List.mem_append_left _ (T.sub a z)
  · exact List.mem_append_right _ z⟩
/-- a new object that is tracked -/
theorem RepH.push (r : RepH g T H m) {p : Addr} {u : HO} {o : O} (h : H p = none) (q : Le T H (T.push p) (upd H p u) → RepO g (T.push p) (upd H p u) p o) : Le T H (T.push p) (upd H p u) ∧ RepH g (T.push p) (upd H p u) (m ++ [o]) := by
  have l : Le T H (T.push p) (upd H p u) := ⟨List.prefix_append _ _, fun a v e _ => by rw [upd_ne (ne_of_none e h)]; exact e, fun a ha n => by
    rcases List.mem_append.mp ha with z | z
    · exact absurd z n
    · rw [List.mem_singleton.mp z]; exact h, fun a ha n => by
    rcases List.mem_append.mp ha with z | z
    · exact absurd z n
    · rw [List.mem_singleton.mp z]; exact h, fun a ha => List.mem_append_left _ ha⟩
  have np : p ∉ T.μ := Tk.out (r.nope h)
  refine ⟨l, by simp [Tk.push, r.len], List.nodup_append.mpr ⟨r.nd, by simp, fun a ha b hb => by rw [List.mem_singleton.mp hb]; rintro rfl; exact np ha⟩, fun a ha => ?_, fun n a o' h1 h2 => ?_⟩
  · rcases List.mem_append.mp ha with z | z
    · obtain ⟨v, e, q⟩ := r.has a z
      exact ⟨v, by rw [upd_ne (ne_of_none e h)]; exact e, q⟩
    · rw [List.mem_singleton.mp z]
      exact (q l).has
  by_cases hn : n < T.μ.length
  · change (T.μ ++ [p])[n]? = _ at h1
    rw [List.getElem?_append_left hn] at h1
    rw [List.getElem?_append_left (by rw [← r.len]; exact hn)] at h2
    refine (r.at_ n a o' h1 h2).le l ?_
    obtain ⟨v, e, _⟩ := (r.at_ n a o' h1 h2).has
    rw [upd_ne (ne_of_none e h)]
  · change (T.μ ++ [p])[n]? = _ at h1
    rw [List.getElem?_append_right (by omega)] at h1
    rw [List.getElem?_append_right (by rw [← r.len]; omega), ← r.len] at h2
    generalize n - T.μ.length = k at h1 h2
    cases k with
    | zero => cases h1; cases h2; exact q l
    | succ k => cases h1
/-- a tracked object is changed -/
theorem RepH.put (r : RepH g T H m) {n : Nat} {a : Addr} {u : HO} {o : O} (h : T.μ[n]? = some a) (q : Le T H T (upd H a u) → RepO g T (upd H a u) a o) : Le T H T (upd H a u) ∧ RepH g T (upd H a u) (m.set n o) := by
  have ha : a ∈ T.μ := List.mem_of_getElem? h
  have l : Le T H T (upd H a u) := ⟨List.prefix_rfl, fun b v e nb => by rw [upd_ne (show b ≠ a by rintro rfl; exact nb ha)]; exact e, fun b h n => absurd h n, fun b h n => absurd h n, fun _ h => h⟩
  refine ⟨l, by simp [r.len], r.nd, fun b hb => ?_, fun k b o' h1 h2 => ?_⟩
  · by_cases z : b = a
    · rw [z]
      exact (q l).has
    · obtain ⟨v, e, w⟩ := r.has b hb
      exact ⟨v, by rw [upd_ne z]; exact e, w⟩
  by_cases hk : n = k
  · subst hk
    rw [h] at h1
    cases h1
    have hl : n < m.length := by rw [← r.len]; exact (List.getElem?_eq_some_iff.mp h).1
    rw [List.getElem?_set_self hl] at h2
    cases h2
    exact q l
  · rw [List.getElem?_set_ne hk] at h2
    refine (r.at_ k b o' h1 h2).le l ?_
    have : b ≠ a := by
      rintro rfl
      exact hk ((List.getElem?_inj (List.getElem?_eq_some_iff.mp h).1 r.nd).mp (h.trans h1.symm))
    rw [upd_ne this]
theorem Le.trans (l : Le T H T1 H1) (m : Le T1 H1 T2 H2) : Le T H T2 H2 := by
  have key : ∀ a u, H a = some u → a ∉ T.μ → a ∉ T1.μ := fun a u h n z => by rw [l.newμ a z n] at h; cases h
  refine ⟨l.pre.trans m.pre, fun a u h n => m.keep a u (l.keep a u h n) (key a u h n), fun a h n => ?_, fun a h n => ?_, fun a h => m.up a (l.up a h)⟩
  · cases e : H a with
    | none => rfl
    | some u =>
      have := m.new a h (l.out e n)
      rw [l.keep a u e (Tk.out n)] at this
      cases this
  · cases e : H a with
    | none => rfl
    | some u =>
      have := m.newμ a h (key a u e n)
      rw [l.keep a u e n] at this
      cases this
end
end L4
namespace L4
open PySem PySem.Spec PyProof.Rows L2
def atomB : D → Value → Bool
  | .bl b, .bool c => b == c
  | .int i, .int j _ => i == j
  | .str x, .str y _ => decide (x = y)
  | .non, .none => true
  | _, _ => false
def atomsB : List D → List Value → Bool
  | [], [] => true
  | d :: ds, u :: us => atomB d u && atomsB ds us
  | _, _ => false
def valB (K : PySem.W.Frag) (d : D) (u : Value) : Bool := match d, u with
  | .tup ds, .ref r => match K.lookup r with
    | some ⟨.type "tuple", _, .seq its _, _⟩ => decide (its.size ≤ sizeLine) && atomsB ds its.toList
    | _ => false
  | d, u => atomB d u
def tblB (K : PySem.W.Frag) (a : Addr) (tb : List (Str × D)) : Bool := tb.all fun q => match PySem.W.nsIn K a q.1 with
  | some (some u) => valB K q.2 u
  | _ => false
def nsOnly (K : PySem.W.Frag) (a : Addr) (names : List Str) : Bool := match K.lookup a with
  | some ⟨_, _, .dict es _, _⟩ => es.toList.all fun e => match e.key with
    | .str z _ => names.contains z
    | _ => false
  | _ => false
def tup0B (K : PySem.W.Frag) (a : Addr) : Bool := match K.lookup a with
  | some ⟨.type c, _, .seq its _, _⟩ => decide (c = "tuple") && its.toList.isEmpty
  | _ => false
def mdefD (c m q : PySem.Str) (st : Stmt) : He5.DefA := ⟨fun K => He.ma K (He.ga K c) m, m, q, L2.defArgs st, L2.defBody st, L2.defScope st, [.adr (He.dflAt (c, some m) 0)], []⟩
def itaB (K : PySem.W.Frag) (c : Str) : Bool := ["int", "bool", "str", "tuple", "list"].all fun t => decide (PySem.W.kitOne K (.ref (He.ga K c)) (.type t) = some false)
def xcB (K : PySem.W.Frag) (C : Addr) : Bool := (PySem.W.clsIn K C).isSome && (He.eqO (PySem.W.findIn K (.ref C) "__getattribute__") (some (some (.builtin "BaseException.__getattribute__"))) && (He.eqO (PySem.W.findIn K (.ref C) "__getattr__") (some none) && (decide (PySem.W.subIn K (.ref C) (.type "BaseException") = some true) &&
  (PySem.W.hasDictIn K C && (He.eqO (PySem.W.findIn K (.ref C) "__class__") (some (some (.builtin "object.__class__"))) && (He.eqO (PySem.W.specialIn K (.builtin "object.__class__") "__get__") (some (some (.builtin "getset_descriptor.__get__"))) && (decide (PySem.W.takesIn K (.builtin "object.__class__") = some true) &&
  (decide (PySem.W.mroIn K C (.type "object") = some true) && (decide (PySem.W.typeIn K (.ref C) = some (.type "type")) && PySem.W.keepIn K (.ref C))))))))))
def xc0B (K : PySem.W.Frag) (c : Str) : Bool := PySem.W.excIn K (He.ga K c) He.veBase "ValueError.__new__"
def xmB (K : PySem.W.Frag) (y c : Str) (b : Bool) : Bool := decide (PySem.W.exmOne K (.ref (He.ga K y)) (.ref (He.ga K c)) = some b)
def xiB (K : PySem.W.Frag) (y c : Str) (b : Bool) : Bool := decide (PySem.W.kitOne K (.ref (He.ga K y)) (.ref (He.ga K c)) = some b)
end L4
namespace L4
open PySem L2 TL
open L3 (Df Md Ki Cmd)
def top (i : Nat) : Stmt := PySem.Challenge.pw_sitout_k36_values_that_are_no_goals.main.body.getD i (.Pass ⟨0, 0, 0, 0⟩)
abbrev s__law_box : Stmt := top 55
theorem sc__law_box : FnScope ["_law_script", "_law_k", "_law_great", "_law_seed"] ["_law_script", "_law_k"] (defScope s__law_box) := ⟨rfl, rfl, rfl, by decide +kernel, rfl, by decide +kernel, by decide +kernel⟩
abbrev s_number_in : Stmt := top 18
theorem sc_number_in : FnScope ["word", "most", "sign"] ["word", "most"] (defScope s_number_in) := ⟨rfl, rfl, rfl, by decide +kernel, rfl, by decide +kernel, by decide +kernel⟩
abbrev s_numbers_in : Stmt := top 50
theorem sc_numbers_in : FnScope ["words", "found", "word"] ["words"] (defScope s_numbers_in) := ⟨rfl, rfl, rfl, by decide +kernel, rfl, by decide +kernel, by decide +kernel⟩
abbrev s_share_in : Stmt := top 51
theorem sc_share_in : FnScope ["word", "parts"] ["word"] (defScope s_share_in) := ⟨rfl, rfl, rfl, by decide +kernel, rfl, by decide +kernel, by decide +kernel⟩
abbrev s_is_word : Stmt := top 17
theorem sc_is_word : FnScope ["value", "some"] ["value", "some"] (defScope s_is_word) := ⟨rfl, rfl, rfl, by decide +kernel, rfl, by decide +kernel, by decide +kernel⟩
abbrev s_words_between : Stmt := top 53
theorem sc_words_between : FnScope ["words", "found", "at", "word"] ["words"] (defScope s_words_between) := ⟨rfl, rfl, rfl, by decide +kernel, rfl, by decide +kernel, by decide +kernel⟩
abbrev s_is_integer : Stmt := top 13
theorem sc_is_integer : FnScope ["value"] ["value"] (defScope s_is_integer) := ⟨rfl, rfl, rfl, by decide +kernel, rfl, by decide +kernel, by decide +kernel⟩
abbrev s_is_from : Stmt := top 15
theorem sc_is_from : FnScope ["value", "least"] ["value", "least"] (defScope s_is_from) := ⟨rfl, rfl, rfl, by decide +kernel, rfl, by decide +kernel, by decide +kernel⟩
abbrev s_is_number : Stmt := top 14
theorem sc_is_number : FnScope ["value"] ["value"] (defScope s_is_number) := ⟨rfl, rfl, rfl, by decide +kernel, rfl, by decide +kernel, by decide +kernel⟩
abbrev s_wrong_number : Stmt := top 48
theorem sc_wrong_number : FnScope ["need", "of", "base", "more", "most", "calm"] ["need", "of", "base", "more", "most", "calm"] (defScope s_wrong_number) := ⟨rfl, rfl, rfl, by decide +kernel, rfl, by decide +kernel, by decide +kernel⟩
abbrev s_wrong_word : Stmt := top 49
theorem sc_wrong_word : FnScope ["back", "top", "under", "up", "hears"] ["back", "top", "under", "up", "hears"] (defScope s_wrong_word) := ⟨rfl, rfl, rfl, by decide +kernel, rfl, by decide +kernel, by decide +kernel⟩
abbrev s_Rule___init__ : Stmt := inClass (top 52) 0
theorem sc_Rule___init__ : FnScope ["self", "need", "of", "base", "more", "most", "calm", "back", "top", "under", "up", "hears", "word"] ["self", "need", "of", "base", "more", "most", "calm", "back", "top", "under", "up", "hears"] (defScope s_Rule___init__) := ⟨rfl, rfl, rfl, by decide +kernel, rfl, by decide +kernel, by decide +kernel⟩
abbrev s_Rule_read : Stmt := inClass (top 52) 1
theorem sc_Rule_read : FnScope ["cls", "text", "words", "plain", "share", "back", "up", "hears", "at"] ["cls", "text"] (defScope s_Rule_read) := ⟨rfl, rfl, rfl, by decide +kernel, rfl, by decide +kernel, by decide +kernel⟩
abbrev s__law_rule_text : Stmt := top 59
theorem sc__law_rule_text : FnScope ["_law_rule_here", "_law_words"] ["_law_rule_here"] (defScope s__law_rule_text) := ⟨rfl, rfl, rfl, by decide +kernel, rfl, by decide +kernel, by decide +kernel⟩
abbrev s__law_rule_of : Stmt := top 60
theorem sc__law_rule_of : FnScope ["_law_rule_here"] ["_law_rule_here"] (defScope s__law_rule_of) := ⟨rfl, rfl, rfl, by decide +kernel, rfl, by decide +kernel, by decide +kernel⟩
abbrev s__law_take : Stmt := top 56
theorem sc__law_take : FnScope ["_law_box_here", "_law_many", "_law_digit", "_law_near"] ["_law_box_here", "_law_many"] (defScope s__law_take) := ⟨rfl, rfl, rfl, by decide +kernel, rfl, by decide +kernel, by decide +kernel⟩
abbrev s__law_pick : Stmt := top 57
theorem sc__law_pick : FnScope ["_law_box_here", "_law_some"] ["_law_box_here", "_law_some"] (defScope s__law_pick) := ⟨rfl, rfl, rfl, by decide +kernel, rfl, by decide +kernel, by decide +kernel⟩
abbrev s__law_rule : Stmt := top 58
theorem sc__law_rule : FnScope ["_law_box_here", "_law_size", "_law_long", "_law_calms", "_law_need", "_law_found"] ["_law_box_here", "_law_size", "_law_long", "_law_calms"] (defScope s__law_rule) := ⟨rfl, rfl, rfl, by decide +kernel, rfl, by decide +kernel, by decide +kernel⟩
abbrev s_need_goal : Stmt := top 35
theorem sc_need_goal : FnScope ["goal"] ["goal"] (defScope s_need_goal) := ⟨rfl, rfl, rfl, by decide +kernel, rfl, by decide +kernel, by decide +kernel⟩
abbrev s_up_to : Stmt := top 36
theorem sc_up_to : FnScope ["many", "by"] ["many", "by"] (defScope s_up_to) := ⟨rfl, rfl, rfl, by decide +kernel, rfl, by decide +kernel, by decide +kernel⟩
abbrev s_least_short : Stmt := top 39
theorem sc_least_short : FnScope ["rule"] ["rule"] (defScope s_least_short) := ⟨rfl, rfl, rfl, by decide +kernel, rfl, by decide +kernel, by decide +kernel⟩
abbrev s_Rule_time : Stmt := inClass (top 52) 2
theorem sc_Rule_time : FnScope ["self", "j"] ["self", "j"] (defScope s_Rule_time) := ⟨rfl, rfl, rfl, by decide +kernel, rfl, by decide +kernel, by decide +kernel⟩
abbrev s_is_lasting : Stmt := top 37
theorem sc_is_lasting : FnScope ["rule"] ["rule"] (defScope s_is_lasting) := ⟨rfl, rfl, rfl, by decide +kernel, rfl, by decide +kernel, by decide +kernel⟩
abbrev s_is_missable : Stmt := top 38
theorem sc_is_missable : FnScope ["rule"] ["rule"] (defScope s_is_missable) := ⟨rfl, rfl, rfl, by decide +kernel, rfl, by decide +kernel, by decide +kernel⟩
abbrev s_numbers : Stmt := top 40
theorem sc_numbers : FnScope ["rule", "goal", "is_whole", "least"] ["rule", "goal"] (defScope s_numbers) := ⟨rfl, rfl, rfl, by decide +kernel, rfl, by decide +kernel, by decide +kernel⟩
abbrev s_happens : Stmt := top 41
theorem sc_happens : FnScope ["rule", "goal"] ["rule", "goal"] (defScope s_happens) := ⟨rfl, rfl, rfl, by decide +kernel, rfl, by decide +kernel, by decide +kernel⟩
abbrev s_begun : Stmt := top 26
theorem sc_begun : FnScope [] [] (defScope s_begun) := ⟨rfl, rfl, rfl, by decide +kernel, rfl, by decide +kernel, by decide +kernel⟩
abbrev s_Builder___init__ : Stmt := inClass (top 42) 0
theorem sc_Builder___init__ : FnScope ["self", "rule", "servers"] ["self", "rule", "servers"] (defScope s_Builder___init__) := ⟨rfl, rfl, rfl, by decide +kernel, rfl, by decide +kernel, by decide +kernel⟩
abbrev s_Rule_limit : Stmt := inClass (top 52) 3
theorem sc_Rule_limit : FnScope ["self", "n"] ["self", "n"] (defScope s_Rule_limit) := ⟨rfl, rfl, rfl, by decide +kernel, rfl, by decide +kernel, by decide +kernel⟩
abbrev s_come_back : Stmt := top 28
theorem sc_come_back : FnScope ["rule", "times", "faults"] ["rule", "times"] (defScope s_come_back) := ⟨rfl, rfl, rfl, by decide +kernel, rfl, by decide +kernel, by decide +kernel⟩
abbrev s_left_out : Stmt := top 27
theorem sc_left_out : FnScope ["rule", "times", "later"] ["rule", "times"] (defScope s_left_out) := ⟨rfl, rfl, rfl, by decide +kernel, rfl, by decide +kernel, by decide +kernel⟩
abbrev s_after_ok : Stmt := top 30
theorem sc_after_ok : FnScope ["rule", "standing", "window", "times", "calm"] ["rule", "standing"] (defScope s_after_ok) := ⟨rfl, rfl, rfl, by decide +kernel, rfl, by decide +kernel, by decide +kernel⟩
abbrev s_at_try : Stmt := top 29
theorem sc_at_try : FnScope ["rule", "standing", "is_room"] ["rule", "standing", "is_room"] (defScope s_at_try) := ⟨rfl, rfl, rfl, by decide +kernel, rfl, by decide +kernel, by decide +kernel⟩
abbrev s_after_fault : Stmt := top 31
theorem sc_after_fault : FnScope ["rule", "standing", "is_room", "window", "later", "answer"] ["rule", "standing", "is_room"] (defScope s_after_fault) := ⟨rfl, rfl, rfl, by decide +kernel, rfl, by decide +kernel, by decide +kernel⟩
abbrev s_after_turn : Stmt := top 32
theorem sc_after_turn : FnScope ["rule", "standing", "is_fault", "is_room", "left", "times", "later", "is_kept"] ["rule", "standing", "is_fault", "is_room"] (defScope s_after_turn) := ⟨rfl, rfl, rfl, by decide +kernel, rfl, by decide +kernel, by decide +kernel⟩
abbrev s_Builder_is_room : Stmt := inClass (top 42) 1
theorem sc_Builder_is_room : FnScope ["self", "outs", "standing"] ["self"] (defScope s_Builder_is_room) := ⟨rfl, rfl, rfl, by decide +kernel, rfl, by decide +kernel, by decide +kernel⟩
abbrev s_Builder_turn : Stmt := inClass (top 42) 2
theorem sc_Builder_turn : FnScope ["self", "server", "is_fault"] ["self", "server", "is_fault"] (defScope s_Builder_turn) := ⟨rfl, rfl, rfl, by decide +kernel, rfl, by decide +kernel, by decide +kernel⟩
abbrev s_Builder_leave_out : Stmt := inClass (top 42) 3
theorem sc_Builder_leave_out : FnScope ["self", "server"] ["self", "server"] (defScope s_Builder_leave_out) := ⟨rfl, rfl, rfl, by decide +kernel, rfl, by decide +kernel, by decide +kernel⟩
abbrev s_Builder_leave_out_long : Stmt := inClass (top 42) 4
theorem sc_Builder_leave_out_long : FnScope ["self", "server"] ["self", "server"] (defScope s_Builder_leave_out_long) := ⟨rfl, rfl, rfl, by decide +kernel, rfl, by decide +kernel, by decide +kernel⟩
abbrev s_after_word : Stmt := top 33
theorem sc_after_word : FnScope ["rule", "standing", "is_room"] ["rule", "standing", "is_room"] (defScope s_after_word) := ⟨rfl, rfl, rfl, by decide +kernel, rfl, by decide +kernel, by decide +kernel⟩
abbrev s_Builder_leave_out_missed : Stmt := inClass (top 42) 5
theorem sc_Builder_leave_out_missed : FnScope ["self", "server"] ["self", "server"] (defScope s_Builder_leave_out_missed) := ⟨rfl, rfl, rfl, by decide +kernel, rfl, by decide +kernel, by decide +kernel⟩
abbrev s_Builder_keep : Stmt := inClass (top 42) 6
theorem sc_Builder_keep : FnScope ["self", "server", "fault"] ["self", "server"] (defScope s_Builder_keep) := ⟨rfl, rfl, rfl, by decide +kernel, rfl, by decide +kernel, by decide +kernel⟩
abbrev s_is_sequence : Stmt := top 16
theorem sc_is_sequence : FnScope ["value"] ["value"] (defScope s_is_sequence) := ⟨rfl, rfl, rfl, by decide +kernel, rfl, by decide +kernel, by decide +kernel⟩
abbrev s_event_in : Stmt := top 21
theorem sc_event_in : FnScope ["text", "words", "numbers", "word"] ["text"] (defScope s_event_in) := ⟨rfl, rfl, rfl, by decide +kernel, rfl, by decide +kernel, by decide +kernel⟩
abbrev s_event_of : Stmt := top 22
theorem sc_event_of : FnScope ["value", "callers", "servers", "event"] ["value", "callers", "servers"] (defScope s_event_of) := ⟨rfl, rfl, rfl, by decide +kernel, rfl, by decide +kernel, by decide +kernel⟩
abbrev s_events_of : Stmt := top 23
theorem sc_events_of : FnScope ["values", "callers", "servers", "found", "value"] ["values", "callers", "servers"] (defScope s_events_of) := ⟨rfl, rfl, rfl, by decide +kernel, rfl, by decide +kernel, by decide +kernel⟩
abbrev s_Road___init__ : Stmt := inClass (top 24) 0
theorem sc_Road___init__ : FnScope ["self", "callers", "servers", "events"] ["self", "callers", "servers", "events"] (defScope s_Road___init__) := ⟨rfl, rfl, rfl, by decide +kernel, rfl, by decide +kernel, by decide +kernel⟩
abbrev s_road : Stmt := top 43
theorem sc_road : FnScope ["rule", "goal", "found", "servers", "limit", "builder", "callers", "server"] ["rule", "goal"] (defScope s_road) := ⟨rfl, rfl, rfl, by decide +kernel, rfl, by decide +kernel, by decide +kernel⟩
abbrev s__law_is_let : Stmt := top 62
theorem sc__law_is_let : FnScope ["_law_which", "_law_made", "_law_value", "_law_found", "e"] ["_law_which", "_law_made", "_law_value"] (defScope s__law_is_let) := ⟨rfl, rfl, rfl, by decide +kernel, rfl, by decide +kernel, by decide +kernel⟩
abbrev s__law_any : Stmt := top 61
theorem sc__law_any : FnScope ["_law_box_here", "_law_deep", "_law_form", "_law_some", "_law_turn"] ["_law_box_here", "_law_deep"] (defScope s__law_any) := ⟨rfl, rfl, rfl, by decide +kernel, rfl, by decide +kernel, by decide +kernel⟩
abbrev s_law : Stmt := top 63
theorem sc_law : FnScope ["_law_script", "_law_k", "_law_box_here", "_law_made", "_law_which", "_law_goal", "_law_odd"] ["_law_script"] (defScope s_law) := ⟨rfl, rfl, rfl, by decide +kernel, rfl, by decide +kernel, by decide +kernel⟩
def tb_ROUNDS : List (Str × D) := [("down", .bl false), ("up", .bl true)]
end L4
namespace L4
open PySem PySem.Spec PyProof.Rows L2
open L3 (Fx fx_at SaysW hookW obsWG obsWG_eq Tabs gdef mdef cdef cmB df_of md_of ki_of cmd_of)
def fxs : List Fx := [.fa (.free "abs"), .fa (.free "all"), .fa (.free "bool"), .fa (.free "int"), .fa (.free "isinstance"), .fa (.free "len"), .fa (.free "list"), .fa (.free "max"), .fa (.free "min"), .fa (.free "range"), .fa (.free "str"), .fa (.free "tuple"), .fa (.free "zip"), .fa (.cls "Builder"), .fa (.noat "Builder" "by"), .fa (.noat "Builder" "events"), .fa (.noat "Builder" "now"), .fa (.cls "Road"), .fa (.noat "Road" "callers"), .fa (.noat "Road" "events"), .fa (.noat "Road" "servers"), .fa (.noat "Road" "told_events"), .fa (.cls "Rule"), .fa (.noat "Rule" "back"), .fa (.noat "Rule" "base"), .fa (.noat "Rule" "calm"), .fa (.noat "Rule" "cap"), .fa (.noat "Rule" "hears"), .fa (.noat "Rule" "more"), .fa (.noat "Rule" "most"), .fa (.noat "Rule" "need"), .fa (.noat "Rule" "of"), .fa (.noat "Rule" "top"), .fa (.noat "Rule" "under"), .fa (.noat "Rule" "up"), .insc "Rule", .bo (fun K => itaB K "Rule"), .fa (.glo "InvalidGoal"), .fa (.glo "InvalidWhat"), .fa (.glo "Rule"), .fa (.glo "SitError"), .fa (.glo "happens"), .fa (.glo "numbers"), .fa (.glo "road"), .fa (.glo "ANSWERS"), .tup "ANSWERS" [.str "ok", .str "fault"], .fa (.glo "BACKS"), .tup "BACKS" [.str "half", .str "open", .str "trial"], .fa (.str "DIGITS" "0123456789"), .fa (.glo "GOALS"), .tup "GOALS" [.str "all", .str "kept", .str "swap"], .fa (.glo "HEARD"), .tup "HEARD" [.str "fault", .str "no", .str "out"], .fa (.glo "ROUNDS"), .bo (fun K => tblB K (He.ga K "ROUNDS") tb_ROUNDS), .bo (fun K => nsOnly K (He.ga K "ROUNDS") ["down", "up"]), .bo (fun K => xcB K (He.ga K "InvalidGoal")), .bo (fun K => xc0B K "InvalidGoal"), .bo (fun K => xiB K "InvalidGoal" "InvalidWhat" false), .bo (fun K => xiB K "InvalidGoal" "SitError" true), .bo (fun K => xmB K "InvalidGoal" "InvalidGoal" true), .fa (.glo "_law_box"), .fa (.glo "number_in"), .fa (.glo "numbers_in"), .fa (.glo "share_in"), .fa (.glo "is_word"), .fa (.glo "words_between"), .fa (.glo "is_integer"), .fa (.glo "is_from"), .fa (.glo "is_number"), .fa (.glo "wrong_number"), .fa (.glo "wrong_word"), .fa (.mkr "Rule"), .bo (cmB "Rule" "read"), .fa (.glo "_law_rule_text"), .fa (.glo "_law_rule_of"), .fa (.glo "_law_take"), .fa (.glo "_law_pick"), .fa (.glo "_law_rule"), .fa (.glo "need_goal"), .fa (.glo "up_to"), .fa (.glo "least_short"), .fa (.meth "Rule" "time"), .fa (.glo "is_lasting"), .fa (.glo "is_missable"), .fa (.glo "begun"), .fa (.glo "Builder"), .fa (.mkr "Builder"), .fa (.meth "Rule" "limit"), .fa (.glo "come_back"), .fa (.glo "left_out"), .fa (.glo "after_ok"), .fa (.glo "at_try"), .fa (.glo "after_fault"), .fa (.glo "after_turn"), .fa (.meth "Builder" "is_room"), .fa (.meth "Builder" "turn"), .fa (.meth "Builder" "leave_out"), .fa (.meth "Builder" "leave_out_long"), .fa (.glo "after_word"), .fa (.meth "Builder" "leave_out_missed"), .fa (.meth "Builder" "keep"), .fa (.glo "is_sequence"), .fa (.glo "event_in"), .fa (.glo "event_of"), .fa (.glo "events_of"), .fa (.glo "Road"), .fa (.mkr "Road"), .bo (fun K => L4.tup0B K (He.dflAt ("Road", some "__init__") 0 K)), .fa (.glo "_law_is_let"), .fa (.glo "_law_any"), .fa (.glo "law")]
def fns : List He5.DefA := [gdef "_law_box" s__law_box, gdef "number_in" s_number_in, gdef "numbers_in" s_numbers_in, gdef "share_in" s_share_in, gdef "is_word" s_is_word, gdef "words_between" s_words_between, gdef "is_integer" s_is_integer, gdef "is_from" s_is_from, gdef "is_number" s_is_number, gdef "wrong_number" s_wrong_number, gdef "wrong_word" s_wrong_word, mdef "Rule" "__init__" "Rule.__init__" s_Rule___init__, cdef "Rule" "read" "Rule.read" s_Rule_read, gdef "_law_rule_text" s__law_rule_text, gdef "_law_rule_of" s__law_rule_of, gdef "_law_take" s__law_take, gdef "_law_pick" s__law_pick, gdef "_law_rule" s__law_rule, gdef "need_goal" s_need_goal, gdef "up_to" s_up_to, gdef "least_short" s_least_short, mdef "Rule" "time" "Rule.time" s_Rule_time, gdef "is_lasting" s_is_lasting, gdef "is_missable" s_is_missable, gdef "numbers" s_numbers, gdef "happens" s_happens, gdef "begun" s_begun, mdef "Builder" "__init__" "Builder.__init__" s_Builder___init__, mdef "Rule" "limit" "Rule.limit" s_Rule_limit, gdef "come_back" s_come_back, gdef "left_out" s_left_out, gdef "after_ok" s_after_ok, gdef "at_try" s_at_try, gdef "after_fault" s_after_fault, gdef "after_turn" s_after_turn, mdef "Builder" "is_room" "Builder.is_room" s_Builder_is_room, mdef "Builder" "turn" "Builder.turn" s_Builder_turn, mdef "Builder" "leave_out" "Builder.leave_out" s_Builder_leave_out, mdef "Builder" "leave_out_long" "Builder.leave_out_long" s_Builder_leave_out_long, gdef "after_word" s_after_word, mdef "Builder" "leave_out_missed" "Builder.leave_out_missed" s_Builder_leave_out_missed, mdef "Builder" "keep" "Builder.keep" s_Builder_keep, gdef "is_sequence" s_is_sequence, gdef "event_in" s_event_in, gdef "event_of" s_event_of, gdef "events_of" s_events_of, L4.mdefD "Road" "__init__" "Road.__init__" s_Road___init__, gdef "road" s_road, gdef "_law_is_let" s__law_is_let, gdef "_law_any" s__law_any, gdef "law" s_law]
def exs (K : PySem.W.Frag) : Bool := fxs.all fun f => f.ok K
abbrev hR : PySem.W.OpenRow := PySem.W.OpenLaw.row PySem.Challenge.rw_sitout_k36_values_that_are_no_goals
def htabs : Tabs := [("ROUNDS", ["down", "up"])]
def kL : List Addr := [0, 2, 3, 4, 6, 15, 16, 17, 18, 19, 20, 21, 29, 30, 31, 32, 38, 44, 45, 46, 47, 48, 49, 50, 51, 52, 53, 59, 65, 66, 67, 68, 69, 70, 71, 72, 73, 74, 80, 86, 87, 88, 89, 90, 91, 92, 93, 94, 95, 101, 107, 108, 109, 110, 111, 112, 113, 114, 115, 116, 126, 127, 128, 138, 139, 140, 146, 152, 153, 154, 155, 156, 157, 158, 159, 160, 161, 162, 165, 166, 167, 168, 169, 170, 171, 172, 173, 174, 175, 176, 177, 178, 179, 180, 181, 182, 183, 184, 185, 186, 187, 188, 189, 190, 191, 192, 193, 194, 195, 196, 197, 198, 199, 200, 201, 202, 203, 204, 205, 206, 207, 208, 209, 210, 211, 212, 213, 214, 215, 216, 217, 218, 219, 220, 221, 222, 223, 231, 232, 233, 234, 235, 236, 237, 238, 239, 240, 241, 242, 243, 244, 245, 246, 247, 248, 249, 250, 251, 252, 253, 254, 255, 256, 257, 258, 259, 260, 261, 262, 263, 264, 265, 266, 267, 268, 269, 270, 271, 272, 273, 274, 275, 276, 277, 278, 279, 280, 281, 282, 283, 284, 285, 286, 287, 288, 289, 290, 291, 292, 293, 294, 295, 296, 297, 298, 299, 300, 301, 304, 305, 306, 307, 308, 309, 310, 311, 312, 313, 314, 315, 316, 317, 318, 319, 320, 321, 322, 323, 324, 325, 326, 327, 328, 329, 330, 331, 332, 333, 334, 335, 336, 337, 338, 339, 340, 341, 342, 343, 344, 345, 346, 347, 348, 349, 350, 351, 352, 353, 354, 355, 356, 357, 358, 359, 360, 361, 362, 363, 364, 365, 366, 367, 368, 369, 370, 371, 372, 373, 374, 375, 376, 377, 378, 379, 380, 381, 382, 383, 384, 385, 386, 387, 388, 389, 390, 391, 392, 393, 394, 395, 396, 397, 398, 399, 400, 401, 402, 403, 404, 405, 406, 414, 415, 416, 417, 418, 419, 420, 421, 422, 423, 424, 425, 426, 427, 428, 429, 430, 431, 432, 433, 434, 435, 436, 437, 438, 439, 440, 441, 442, 443, 444, 445, 446, 447, 448, 449, 450, 451, 452, 453, 454, 455, 456, 457, 458, 459, 460, 461, 462, 463, 464, 465, 468, 469, 470, 471, 472, 473, 474, 475, 476, 477, 478, 479, 480, 481, 482, 483, 484, 485, 486, 487, 488, 489, 490, 491, 492, 493, 494, 495, 496, 497, 498, 499, 500, 501, 502, 503, 511, 512, 513, 514, 515, 516, 517, 518, 519, 520, 521, 522, 523, 524, 525, 526, 527, 528, 529, 530, 531, 532, 533, 534, 535, 536, 537, 538, 539, 540, 541, 542, 543, 544, 545, 546, 547, 548, 549, 550, 551, 552, 553, 554, 555, 556, 557, 558, 559, 560, 561, 562, 563, 564, 565, 568, 569, 570, 571, 572, 573, 574, 575, 576, 577, 578, 579, 580, 581, 582, 583, 584, 585, 586, 587, 588, 589, 590, 591, 592, 593, 594, 595, 596, 597, 598, 599, 600, 601, 602, 603, 604, 605, 606, 607, 608, 609, 610, 611, 612, 613, 614, 615, 616, 617, 618, 619, 620, 621, 622, 623, 624, 625, 626, 627, 628, 629, 630, 631, 632, 633, 634, 635]
abbrev hk : PySem.W.Hook where
  α := He.AlD × List (Option (List (Option (PySem.Str × Int))))
  obs := fun s => (L3.obsB exs fns (He.frG s.heap.get? kL), L3.tabsOf htabs (He.frG s.heap.get? kL))
  val := fun w => (He5.valA fns, L3.tabsIn htabs w.params)
  says := fun w h => ∃ K : PySem.W.Frag, K.In h ∧ SaysW exs fns htabs w K
  of := fun w s e => ⟨He.frG s.heap.get? kL, He.frG_in, ⟨congrArg Prod.fst e, congrArg Prod.snd e⟩⟩
  keeps := fun _ _ _ ⟨K, hK, c⟩ k => ⟨K, PySem.W.Frag.In.keeps hK k, c⟩
def hob (s : PySem.W.SharedT) : hk.α := (L3.obsB exs fns (He.frG (HandSHeadRun.getT s) kL), L3.tabsOf htabs (He.frG (HandSHeadRun.getT s) kL))
theorem hob_eq (s : PySem.W.SharedT) : hob s = hk.obs s.abs := by
  have e : HandSHeadRun.getT s = s.abs.heap.get? := funext (HandSHeadRun.getT_eq s)
  unfold hob
  rw [e]
def hnm0 : List PySem.Str := ["_wall", "__name__", "SitError", "InvalidRule", "InvalidRoad", "InvalidEvent", "InvalidText", "InvalidGoal", "InvalidWhat", "NoEvent", "GOALS", "DIGITS", "is_integer", "is_number", "is_from", "is_sequence", "is_word", "number_in", "ANSWERS", "event_in", "event_of", "events_of", "Road", "begun", "left_out", "come_back", "at_try", "after_ok", "after_fault", "after_turn"]
def hnm1 : List PySem.Str := ["after_word", "need_goal", "up_to", "is_lasting", "is_missable", "least_short", "numbers", "happens", "Builder", "road", "BACKS", "HEARD", "ROUNDS", "wrong_number", "wrong_word", "numbers_in", "share_in", "Rule", "words_between", "_law_box", "_law_take", "_law_pick", "_law_rule", "_law_rule_text", "_law_rule_of", "_law_any", "_law_is_let"]
def hnames : List PySem.Str := hnm0 ++ hnm1
theorem hrunA (w : World) : HandSHeadRun.RunEq hR (PySem.W.view hR.prog [63]) hk hob 8000 hnames (w.withFollow "special-get-raises" false) := by
  intro os
  kernel_rfl
theorem hrunB (w : World) : HandSHeadRun.RunEq hR (PySem.W.view hR.prog [63]) hk hob 8000 hnames (w.withFollow "special-get-raises" true) := by
  intro os
  kernel_rfl
theorem hrun (w : World) : HandSHeadRun.RunEq hR (PySem.W.view hR.prog [63]) hk hob 8000 hnames w := PySem.W.byRow2 "special-get-raises" hrunA hrunB w
open PySem PySem.W PySem.Calls PyProof.Rows in
set_option maxHeartbeats 0 in
theorem law_pre (h : PySem.Challenge.rw_sitout_k36_values_that_are_no_goals.row.wellSaid = true → PySem.Challenge.rw_sitout_k36_values_that_are_no_goals.row.Holds) : PySem.Challenge.rw_sitout_k36_values_that_are_no_goals.Holds := by
  w_on; o_law
  exact h (by assumption)
open PySem PySem.W PySem.Calls PyProof.Rows in
set_option maxHeartbeats 0 in
theorem head_pre (said : hR.wellSaid = true) (call : WalkO (view hR.prog [63]) hnames (XL (view hR.prog [63]) []) hk.says hR.toRowW (HandSHeadRun.topDef hR.prog 63) [] fun f vs => PySem.call f vs) : hR.Holds := by
  refine HandSHeadRun.head_any (r := hR) (q := view hR.prog [63]) (H := hk) (ob := hob) (M := 8000) (loose := hnames) (d := HandSHeadRun.topDef hR.prog 63) (kwd := []) hob_eq
    (by kernel_rfl) (fun s => by kernel_rfl) hrun (by kernel_rfl) (by kernel_rfl) (by kernel_rfl) (by rfl) said (by decide +kernel) ⟨rfl, rfl, rfl, rfl, rfl, by decide +kernel⟩ ?hw call
  case hw => w_witness2
end L4
namespace L4
open PySem L2
abbrev Ss := List (Option D)
abbrev EF := Ss → M → Option (D × M)
abbrev TF := Ss → M → Option (Bool × M)
abbrev AF := Ss → M → Option (List D × M)
abbrev GF := D → Ss → M → Option (Ss × M)
inductive Fl where
  | nx (ρ : Ss) | rt (d : D) | bk (ρ : Ss) | ct (ρ : Ss)
abbrev SF := Ss → M → Option (Fl × M)
structure RepS (g : G) (T : Tk) (H : Hp) (σ : L2.St) (ρ : Ss) : Prop where
  len : σ.length = ρ.length
  at_ : ∀ (i : Nat) d, ρ[i]? = some (some d) → ∃ v, σ[i]? = some (some v) ∧ Rep g T H d v
section
variable {g : G} {T T1 : Tk} {H H1 : Hp} {σ : L2.St} {ρ : Ss}
theorem RepS.le (l : Le T H T1 H1) (r : RepS g T H σ ρ) : RepS g T1 H1 σ ρ := ⟨r.len, fun i d h => by obtain ⟨v, e, q⟩ := r.at_ i d h; exact ⟨v, e, q.le l⟩⟩
theorem RepS.set {i : Nat} {d : D} {v : V} (r : RepS g T H σ ρ) (q : Rep g T H d v) : RepS g T H (σ.set i (some v)) (ρ.set i (some d)) := by
  refine ⟨by simp [r.len], fun j e h => ?_⟩
  by_cases hj : i = j
  · subst hj
    have hl : i < ρ.length := by
      have := (List.getElem?_eq_some_iff.mp h).1
      simpa using this
    rw [List.getElem?_set_self hl] at h
    cases h
    exact ⟨v, by rw [List.getElem?_set_self (by rw [r.len]; exact hl)], q⟩
  · rw [List.getElem?_set_ne hj] at h
    obtain ⟨u, e1, q1⟩ := r.at_ j e h
    exact ⟨u, by rw [List.getElem?_set_ne hj]; exact e1, q1⟩
end
/-- what follows a value -/
def KV (g : G) (T : Tk) (H : Hp) (m : M) (d : D) (Q : VK) : Prop := ∀ v T' H', Le T H T' H' → RepH g T' H' m → Rep g T' H' d v → Q v H'
def KB (g : G) (T : Tk) (H : Hp) (m : M) (b : Bool) (Q : Bool → Hp → Prop) : Prop := ∀ T' H', Le T H T' H' → RepH g T' H' m → Q b H'
def KA (g : G) (T : Tk) (H : Hp) (m : M) (ds : List D) (Q : List V → Hp → Prop) : Prop := ∀ vs T' H', Le T H T' H' → RepH g T' H' m → RepL g T' H' ds vs → Q vs H'
def KS (g : G) (T : Tk) (H : Hp) (m : M) (ρ : Ss) (Q : L2.St → Hp → Prop) : Prop := ∀ σ T' H', Le T H T' H' → RepH g T' H' m → RepS g T' H' σ ρ → Q σ H'
def KF (g : G) (T : Tk) (H : Hp) (m : M) (r : Fl) (D : Ends) : Prop := match r with
  | .nx ρ => KS g T H m ρ D.nx
  | .rt d => KV g T H m d D.rt
  | .bk ρ => KS g T H m ρ D.bk
  | .ct ρ => KS g T H m ρ D.ct
section
variable {g : G} {T T1 : Tk} {H H1 : Hp} {m : M}
theorem KV.le {d : D} {Q : VK} (l : Le T H T1 H1) (k : KV g T H m d Q) : KV g T1 H1 m d Q := fun v T' H' l' => k v T' H' (l.trans l')
theorem KB.le {d : Bool} {Q : Bool → Hp → Prop} (l : Le T H T1 H1) (k : KB g T H m d Q) : KB g T1 H1 m d Q := fun T' H' l' => k T' H' (l.trans l')
theorem KA.le {d : List D} {Q : List V → Hp → Prop} (l : Le T H T1 H1) (k : KA g T H m d Q) : KA g T1 H1 m d Q := fun v T' H' l' => k v T' H' (l.trans l')
theorem KS.le {ρ : Ss} {Q : L2.St → Hp → Prop} (l : Le T H T1 H1) (k : KS g T H m ρ Q) : KS g T1 H1 m ρ Q := fun v T' H' l' => k v T' H' (l.trans l')
theorem KF.le {r : Fl} {D : Ends} (l : Le T H T1 H1) (k : KF g T H m r D) : KF g T1 H1 m r D := by
  cases r with
  | nx ρ => exact KS.le l k
  | rt d => exact KV.le l k
  | bk ρ => exact KS.le l k
  | ct ρ => exact KS.le l k
end
def RfE (g : G) (t : TE) (f : EF) : Prop := ∀ T σ H ρ m d m', RepH g T H m → RepS g T H σ ρ → f ρ m = some (d, m') → ∀ Q : VK, KV g T H m' d Q → t σ H Q
def RfT (g : G) (t : TT) (f : TF) : Prop := ∀ T σ H ρ m b m', RepH g T H m → RepS g T H σ ρ → f ρ m = some (b, m') → ∀ Q, KB g T H m' b Q → t σ H Q
def RfA (g : G) (t : TA) (f : AF) : Prop := ∀ T σ H ρ m ds m', RepH g T H m → RepS g T H σ ρ → f ρ m = some (ds, m') → ∀ Q, KA g T H m' ds Q → t σ H Q
def RfG (g : G) (t : TG) (f : GF) : Prop := ∀ T σ H ρ m d v ρ' m', RepH g T H m → RepS g T H σ ρ → Rep g T H d v → f d ρ m = some (ρ', m') → ∀ Q, KS g T H m' ρ' Q → t v σ H Q
def RfS (g : G) (t : TS) (f : SF) : Prop := ∀ T σ H ρ m r m', RepH g T H m → RepS g T H σ ρ → f ρ m = some (r, m') → ∀ D : Ends, KF g T H m' r D → t D σ H
structure DE (X : Cx) (e : Expr) (f : EF) : Prop where
  ex : ∃ t, PE X e t ∧ RfE (gx X) t f
structure DT (X : Cx) (e : Expr) (f : TF) : Prop where
  ex : ∃ t, PT X e t ∧ RfT (gx X) t f
structure DW (X : Cx) (e : Expr) (f : TF) : Prop where
  ex : ∃ t, PW X e t ∧ RfT (gx X) t f
structure DA (X : Cx) (es : List Expr) (f : AF) : Prop where
  ex : ∃ t, PA X es t ∧ RfA (gx X) t f
structure DG (X : Cx) (e : Expr) (f : GF) : Prop where
  ex : ∃ t, PG X e t ∧ RfG (gx X) t f
structure DS (X : Cx) (s : Stmt) (f : SF) : Prop where
  ex : ∃ t, PS X s t ∧ RfS (gx X) t f
structure DSs (X : Cx) (s : List Stmt) (f : SF) : Prop where
  ex : ∃ t, PSs X s t ∧ RfS (gx X) t f
def bd {α β : Type} (r : Option (α × M)) (k : α → M → Option (β × M)) : Option (β × M) := match r with
  | some (d, m) => k d m
  | none => none
theorem bd_some {α β : Type} {r : Option (α × M)} {k : α → M → Option (β × M)} {b : β} {m' : M} (h : bd r k = some (b, m')) : ∃ d m, r = some (d, m) ∧ k d m = some (b, m') := by
  cases r with
  | none => cases h
  | some p => exact ⟨p.1, p.2, rfl, h⟩
@[simp] theorem bd_go {α β : Type} {d : α} {m : M} {k : α → M → Option (β × M)} : bd (some (d, m)) k = k d m := rfl
@[simp] theorem bd_no {α β : Type} {k : α → M → Option (β × M)} : bd none k = none := rfl
/-- a value that needs no heap -/
def pu {α : Type} (r : Option α) (m : M) : Option (α × M) := r.map (·, m)
theorem pu_some {α : Type} {r : Option α} {a : α} {m m' : M} (h : pu r m = some (a, m')) : r = some a ∧ m' = m := by
  cases r with
  | none => cases h
  | some b => cases h; exact ⟨rfl, rfl⟩
@[simp] theorem pu_go {α : Type} {a : α} {m : M} : pu (some a) m = some (a, m) := rfl
@[simp] theorem pu_no {α : Type} {m : M} : pu (none : Option α) m = none := rfl
def eVar (i : Nat) : EF := fun ρ m => pu (ρ.getD i none) m
def eC (d : D) : EF := fun _ m => some (d, m)
def eOp (f : M → D → D → Option D) (a b : EF) : EF := fun ρ m => bd (a ρ m) fun x m1 => bd (b ρ m1) fun y m2 => pu (f m2 x y) m2
def eUn (f : M → D → Option D) (a : EF) : EF := fun ρ m => bd (a ρ m) fun x m1 => pu (f m1 x) m1
def eCall (f : M → List D → Option D) (a : AF) : EF := fun ρ m => bd (a ρ m) fun xs m1 => pu (f m1 xs) m1
def aNil : AF := fun _ m => some ([], m)
def aCons (a : EF) (r : AF) : AF := fun ρ m => bd (a ρ m) fun x m1 => bd (r ρ m1) fun xs m2 => some (x :: xs, m2)
def tVal (a : EF) : TF := fun ρ m => bd (a ρ m) fun x m1 => match x with
  | .bl b => some (b, m1)
  | _ => none
def tAnd (a b : TF) : TF := fun ρ m => bd (a ρ m) fun x m1 => if x then b ρ m1 else some (false, m1)
def tOr (a b : TF) : TF := fun ρ m => bd (a ρ m) fun x m1 => if x then some (true, m1) else b ρ m1
def tNot (a : TF) : TF := fun ρ m => bd (a ρ m) fun x m1 => some (!x, m1)
def eAnd (a b : EF) : EF := fun ρ m => bd (a ρ m) fun x m1 => match x with
  | .bl true => b ρ m1
  | .bl false => some (.bl false, m1)
  | _ => none
def eOr (a b : EF) : EF := fun ρ m => bd (a ρ m) fun x m1 => match x with
  | .bl true => some (.bl true, m1)
  | .bl false => b ρ m1
  | _ => none
def eIf (c : TF) (a b : EF) : EF := fun ρ m => bd (c ρ m) fun x m1 => if x then a ρ m1 else b ρ m1
def gNm (i : Nat) : GF := fun d ρ m => some (ρ.set i (some d), m)
def sAsg (a : EF) (g : GF) : SF := fun ρ m => bd (a ρ m) fun x m1 => bd (g x ρ m1) fun ρ1 m2 => some (.nx ρ1, m2)
def sDrop (a : EF) : SF := fun ρ m => bd (a ρ m) fun _ m1 => some (.nx ρ, m1)
def sRet (a : EF) : SF := fun ρ m => bd (a ρ m) fun x m1 => some (.rt x, m1)
def sRetN : SF := fun _ m => some (.rt .non, m)
def sNop : SF := fun ρ m => some (.nx ρ, m)
def sBrk : SF := fun ρ m => some (.bk ρ, m)
def sCont : SF := fun ρ m => some (.ct ρ, m)
def sIf (c : TF) (a b : SF) : SF := fun ρ m => bd (c ρ m) fun x m1 => if x then a ρ m1 else b ρ m1
def sSeq (a b : SF) : SF := fun ρ m => bd (a ρ m) fun x m1 => match x with
  | .nx ρ1 => b ρ1 m1
  | r => some (r, m1)
section
variable {X : Cx} {pos : Pos}
theorem de_var {i : Nat} {x : Str} (hN : X.N[i]? = some x) (hv : Vis X.env.scope x) (hd : (x == ("__debug__" : Str)) = false := by decide) (hcd : (x == ("__classdict__" : Str)) = false := by decide) : DE X (.Name x pos) (eVar i) := by
  refine ⟨_, pe_var hN hv hd hcd, fun T σ H ρ m d m' hm hs hf Q k => ?_⟩
  obtain ⟨e, rfl⟩ := pu_some hf
  obtain ⟨v, e1, r⟩ := hs.at_ i d (by
    rw [List.getD_eq_getElem?_getD] at e
    cases h : ρ[i]? with
    | none => rw [h] at e; cases e
    | some o => rw [h] at e; cases e; rfl)
  exact ⟨v, e1, k v T H .refl hm r⟩
theorem rf_c {g : G} {v : V} {d : D} (h : ∀ T H, Rep g T H d v) : RfE g (tC v) (eC d) := by
  intro T σ H ρ m d m' hm hs hf Q k
  cases hf
  exact k v T H .refl hm (h T H)
theorem de_int {i j} : DE X (.Constant (.int i) j pos) (eC (.int i)) := ⟨_, pe_int, rf_c fun _ _ => .int i⟩
theorem de_bl {i j} : DE X (.Constant (.bool i) j pos) (eC (.bl i)) := ⟨_, pe_bl, rf_c fun _ _ => .bl i⟩
theorem de_str {i j} : DE X (.Constant (.str i) j pos) (eC (.str i)) := ⟨_, pe_str, rf_c fun _ _ => .str i⟩
theorem de_non {j} : DE X (.Constant .none j pos) (eC .non) := ⟨_, pe_non, rf_c fun _ _ => .non⟩
/-- an operation of two values -/
def RfO (g : G) (r : R2) (f : M → D → D → Option D) : Prop := ∀ T H m x y v u d, RepH g T H m → Rep g T H x v → Rep g T H y u → f m x y = some d → ∀ Q : VK, KV g T H m d Q → r v u H Q
def RfU (g : G) (r : V → Hp → VK → Prop) (f : M → D → Option D) : Prop := ∀ T H m x v d, RepH g T H m → Rep g T H x v → f m x = some d → ∀ Q : VK, KV g T H m d Q → r v H Q
def RfC (g : G) (r : List V → Hp → VK → Prop) (f : M → List D → Option D) : Prop := ∀ T H m xs vs d, RepH g T H m → RepL g T H xs vs → f m xs = some d → ∀ Q : VK, KV g T H m d Q → r vs H Q
theorem rf_op {g : G} {r : R2} {f : M → D → D → Option D} {ta tb : TE} {a b : EF} (hr : RfO g r f) (ha : RfE g ta a) (hb : RfE g tb b) : RfE g (tOp r ta tb) (eOp f a b) := by
  intro T σ H ρ m d m' hm hs hf Q k
  obtain ⟨x, m1, e1, hf⟩ := bd_some hf
  obtain ⟨y, m2, e2, hf⟩ := bd_some hf
  obtain ⟨e3, rfl⟩ := pu_some hf
  refine ha T σ H ρ m x m1 hm hs e1 _ fun v T1 H1 l1 hm1 r1 => ?_
  refine hb T1 σ H1 ρ m1 y _ hm1 (hs.le l1) e2 _ fun u T2 H2 l2 hm2 r2 => ?_
  exact hr T2 H2 _ x y v u d hm2 (r1.le l2) r2 e3 Q (k.le (l1.trans l2))
theorem rf_un {g : G} {r : V → Hp → VK → Prop} {f : M → D → Option D} {ta : TE} {a : EF} (hr : RfU g r f) (ha : RfE g ta a) : RfE g (tUn r ta) (eUn f a) := by
  intro T σ H ρ m d m' hm hs hf Q k
  obtain ⟨x, m1, e1, hf⟩ := bd_some hf
  obtain ⟨e3, rfl⟩ := pu_some hf
  refine ha T σ H ρ m x _ hm hs e1 _ fun v T1 H1 l1 hm1 r1 => ?_
  exact hr T1 H1 _ x v d hm1 r1 e3 Q (k.le l1)
theorem rf_call {g : G} {r : List V → Hp → VK → Prop} {f : M → List D → Option D} {ta : TA} {a : AF} (hr : RfC g r f) (ha : RfA g ta a) : RfE g (tCB r ta) (eCall f a) := by
  intro T σ H ρ m d m' hm hs hf Q k
  obtain ⟨x, m1, e1, hf⟩ := bd_some hf
  obtain ⟨e3, rfl⟩ := pu_some hf
  refine ha T σ H ρ m x _ hm hs e1 _ fun v T1 H1 l1 hm1 r1 => ?_
  exact hr T1 H1 _ x v d hm1 r1 e3 Q (k.le l1)
/-- an operator that is known by a function on data -/
structure OpD (X : Cx) (F : Value → Value → Sem Value) (f : M → D → D → Option D) : Prop where
  ex : ∃ r, OpR X F r ∧ RfO (gx X) r f
structure CallD (X : Cx) (F : Value) (f : M → List D → Option D) : Prop where
  ex : ∃ r, CallR X F r ∧ RfC (gx X) r f
structure UnD (X : Cx) (F : Value → Sem Value) (f : M → D → Option D) : Prop where
  ex : ∃ r, UnR X F r ∧ RfU (gx X) r f
theorem de_op {a b : Expr} {fa fb : EF} {op : Operator} {f} (ho : OpD X (binaryOp op) f) (ha : DE X a fa) (hb : DE X b fb) : DE X (.BinOp a op b pos) (eOp f fa fb) := by
  obtain ⟨r, h, q⟩ := ho.ex; obtain ⟨ta, pa, ra⟩ := ha.ex; obtain ⟨tb, pb, rb⟩ := hb.ex
  exact ⟨_, pe_op h pa pb, rf_op q ra rb⟩
theorem de_un {a : Expr} {fa : EF} {op : UnaryOp} {f} (ho : UnD X (unaryOp op) f) (ha : DE X a fa) : DE X (.UnaryOp op a pos) (eUn f fa) := by
  obtain ⟨r, h, q⟩ := ho.ex; obtain ⟨ta, pa, ra⟩ := ha.ex
  exact ⟨_, pe_un h pa, rf_un q ra⟩
theorem de_cmp {a b : Expr} {fa fb : EF} {op : CmpOp} {f} (ho : OpD X (compareOp op) f) (ha : DE X a fa) (hb : DE X b fb) (hm : behindInMarks op b = false) : DE X (.Compare a [op] [b] pos) (eOp f fa fb) := by
  obtain ⟨r, h, q⟩ := ho.ex; obtain ⟨ta, pa, ra⟩ := ha.ex; obtain ⟨tb, pb, rb⟩ := hb.ex
  exact ⟨_, pe_cmpR h pa pb hm, rf_op q ra rb⟩
theorem rf_test {g : G} {t : TE} {f : EF} (h : RfE g t f) : RfT g (tTest t) (tVal f) := by
  intro T σ H ρ m b m' hm hs hf Q k
  obtain ⟨x, m1, e1, hf⟩ := bd_some hf
  cases x with
  | bl c =>
    cases hf
    refine h T σ H ρ m _ _ hm hs e1 _ fun v T1 H1 l1 hm1 r1 => ?_
    cases r1
    exact ⟨b, rfl, k T1 H1 l1 hm1⟩
  | _ => cases hf
theorem dt_cmp {a b : Expr} {fa fb : EF} {op : CmpOp} {f} (ho : OpD X (compareOp op) f) (ha : DE X a fa) (hb : DE X b fb) (hm : behindInMarks op b = false) : DT X (.Compare a [op] [b] pos) (tVal (eOp f fa fb)) := by
  obtain ⟨r, h, q⟩ := ho.ex; obtain ⟨ta, pa, ra⟩ := ha.ex; obtain ⟨tb, pb, rb⟩ := hb.ex
  exact ⟨_, pt_cmpR h pa pb hm, rf_test (rf_op q ra rb)⟩
theorem dt_val {a : Expr} {fa : EF} (ha : DE X a fa) (he : ∀ whole, isTrue a X.env whole = (do let v ← whole; standAt a.pos; holding [v] (truthy v)) := by intro _; rfl) : DT X a (tVal fa) := by
  obtain ⟨ta, pa, ra⟩ := ha.ex
  exact ⟨_, pt_val pa he, rf_test ra⟩
theorem da_nil : DA X [] aNil := ⟨_, pa_nil, fun T σ H ρ m ds m' hm hs hf Q k => by cases hf; exact k [] T H .refl hm .nil⟩
end
end L4
namespace L4
open PySem L2
section
variable {X : Cx} {pos : Pos} {g : G}
theorem rf_cons {te : TE} {ta : TA} {a : EF} {r : AF} (ha : RfE g te a) (hr : RfA g ta r) : RfA g (tCons te ta) (aCons a r) := by
  intro T σ H ρ m ds m' hm hs hf Q k
  obtain ⟨x, m1, e1, hf⟩ := bd_some hf
  obtain ⟨xs, m2, e2, hf⟩ := bd_some hf
  cases hf
  refine ha T σ H ρ m x m1 hm hs e1 _ fun v T1 H1 l1 hm1 r1 => ?_
  refine hr T1 σ H1 ρ m1 xs _ hm1 (hs.le l1) e2 _ fun vs T2 H2 l2 hm2 r2 => ?_
  exact k _ T2 H2 (l1.trans l2) hm2 (.cons (r1.le l2) r2)
theorem da_cons {e : Expr} {es : List Expr} {a : EF} {r : AF} (ha : DE X e a) (hr : DA X es r) (hs : starEach (e :: es) X.env = (false, eval e X.env) :: starEach es X.env := by rfl) : DA X (e :: es) (aCons a r) := by
  obtain ⟨ta, pa, ra⟩ := ha.ex; obtain ⟨tb, pb, rb⟩ := hr.ex
  exact ⟨_, pa_cons pa pb hs, rf_cons ra rb⟩
theorem rf_and {t u : TT} {a b : TF} (ha : RfT g t a) (hb : RfT g u b) : RfT g (L2.tAnd t u) (tAnd a b) := by
  intro T σ H ρ m d m' hm hs hf Q k
  obtain ⟨x, m1, e1, hf⟩ := bd_some hf
  refine ha T σ H ρ m x m1 hm hs e1 _ fun T1 H1 l1 hm1 => ?_
  cases x with
  | true => exact hb T1 σ H1 ρ m1 d m' hm1 (hs.le l1) hf Q (k.le l1)
  | false => cases hf; exact k T1 H1 l1 hm1
theorem rf_or {t u : TT} {a b : TF} (ha : RfT g t a) (hb : RfT g u b) : RfT g (L2.tOr t u) (tOr a b) := by
  intro T σ H ρ m d m' hm hs hf Q k
  obtain ⟨x, m1, e1, hf⟩ := bd_some hf
  refine ha T σ H ρ m x m1 hm hs e1 _ fun T1 H1 l1 hm1 => ?_
  cases x with
  | true => cases hf; exact k T1 H1 l1 hm1
  | false => exact hb T1 σ H1 ρ m1 d m' hm1 (hs.le l1) hf Q (k.le l1)
theorem rf_not {t : TT} {a : TF} (ha : RfT g t a) : RfT g (L2.tNot t) (tNot a) := by
  intro T σ H ρ m d m' hm hs hf Q k
  obtain ⟨x, m1, e1, hf⟩ := bd_some hf
  cases hf
  exact ha T σ H ρ m x _ hm hs e1 _ fun T1 H1 l1 hm1 => k T1 H1 l1 hm1
theorem dw_and {a b : Expr} {rest : List Expr} {f h : TF} (ha : DT X a f) (hb : DW X (.BoolOp .And (b :: rest) pos) h) : DW X (.BoolOp .And (a :: b :: rest) pos) (tAnd f h) := by
  obtain ⟨ta, pa, ra⟩ := ha.ex; obtain ⟨tb, pb, rb⟩ := hb.ex
  exact ⟨_, pw_and pa pb, rf_and ra rb⟩
theorem dw_and1 {a : Expr} {f : TF} (ha : DT X a f) : DW X (.BoolOp .And [a] pos) f := by
  obtain ⟨ta, pa, ra⟩ := ha.ex
  exact ⟨_, pw_and1 pa, ra⟩
theorem dw_or {a b : Expr} {rest : List Expr} {f h : TF} (ha : DT X a f) (hb : DW X (.BoolOp .Or (b :: rest) pos) h) : DW X (.BoolOp .Or (a :: b :: rest) pos) (tOr f h) := by
  obtain ⟨ta, pa, ra⟩ := ha.ex; obtain ⟨tb, pb, rb⟩ := hb.ex
  exact ⟨_, pw_or pa pb, rf_or ra rb⟩
theorem dw_or1 {a : Expr} {f : TF} (ha : DT X a f) : DW X (.BoolOp .Or [a] pos) f := by
  obtain ⟨ta, pa, ra⟩ := ha.ex
  exact ⟨_, pw_or1 pa, ra⟩
theorem dt_w {a : Expr} {f : TF} (ha : DW X a f) : DT X a f := by
  obtain ⟨ta, pa, ra⟩ := ha.ex
  exact ⟨_, pa.pt, ra⟩
theorem dt_not {a : Expr} {f : TF} (ha : DT X a f) : DT X (.UnaryOp .Not a pos) (tNot f) := by
  obtain ⟨ta, pa, ra⟩ := ha.ex
  exact ⟨_, pt_not pa, rf_not ra⟩
theorem de_one {a : Expr} {op} {f : EF} (ha : DE X a f) : DE X (.BoolOp op [a] pos) f := by
  obtain ⟨ta, pa, ra⟩ := ha.ex
  exact ⟨_, pe_one pa, ra⟩
theorem de_and {a b : Expr} {rest : List Expr} {f h : EF} (ha : DE X a f) (hb : DE X (.BoolOp .And (b :: rest) pos) h) : DE X (.BoolOp .And (a :: b :: rest) pos) (eAnd f h) := by
  obtain ⟨ta, pa, ra⟩ := ha.ex; obtain ⟨tb, pb, rb⟩ := hb.ex
  refine ⟨_, pe_and pa pb, fun T σ H ρ m d m' hm hs hf Q k => ?_⟩
  obtain ⟨x, m1, e1, hf⟩ := bd_some hf
  refine ra T σ H ρ m x m1 hm hs e1 _ fun v T1 H1 l1 hm1 r1 => ?_
  cases r1 with
  | bl c => cases c with
    | true => exact ⟨true, rfl, rb T1 σ H1 ρ m1 d m' hm1 (hs.le l1) hf Q (k.le l1)⟩
    | false => cases hf; exact ⟨false, rfl, k _ T1 H1 l1 hm1 (.bl _)⟩
  | _ => cases hf
theorem de_or {a b : Expr} {rest : List Expr} {f h : EF} (ha : DE X a f) (hb : DE X (.BoolOp .Or (b :: rest) pos) h) : DE X (.BoolOp .Or (a :: b :: rest) pos) (eOr f h) := by
  obtain ⟨ta, pa, ra⟩ := ha.ex; obtain ⟨tb, pb, rb⟩ := hb.ex
  refine ⟨_, pe_or pa pb, fun T σ H ρ m d m' hm hs hf Q k => ?_⟩
  obtain ⟨x, m1, e1, hf⟩ := bd_some hf
  refine ra T σ H ρ m x m1 hm hs e1 _ fun v T1 H1 l1 hm1 r1 => ?_
  cases r1 with
  | bl c => cases c with
    | false => exact ⟨false, rfl, rb T1 σ H1 ρ m1 d m' hm1 (hs.le l1) hf Q (k.le l1)⟩
    | true => cases hf; exact ⟨true, rfl, k _ T1 H1 l1 hm1 (.bl _)⟩
  | _ => cases hf
def eNot (a : EF) : EF := fun ρ m => bd (a ρ m) fun x m1 => match x with
  | .bl b => some (.bl (!b), m1)
  | _ => none
theorem de_not {a : Expr} {f : EF} (ha : DE X a f) : DE X (.UnaryOp .Not a pos) (eNot f) := by
  obtain ⟨ta, pa, ra⟩ := ha.ex
  refine ⟨_, pe_not pa, fun T σ H ρ m d m' hm hs hf Q k => ?_⟩
  obtain ⟨x, m1, e1, hf⟩ := bd_some hf
  refine ra T σ H ρ m x m1 hm hs e1 _ fun v T1 H1 l1 hm1 r1 => ?_
  cases r1 with
  | bl c => cases hf; exact ⟨c, rfl, k _ T1 H1 l1 hm1 (.bl _)⟩
  | _ => cases hf
def isNon : D → Bool
  | .non => true
  | _ => false
def eIsN (a : EF) : EF := fun ρ m => bd (a ρ m) fun x m1 => some (.bl (isNon x), m1)
def eNotN (a : EF) : EF := fun ρ m => bd (a ρ m) fun x m1 => some (.bl (!isNon x), m1)
theorem Rep.isN {T : Tk} {H : Hp} {d : D} {v : V} (r : Rep g T H d v) : decide (v = .non) = isNon d := by cases r <;> rfl
theorem rf_isN {t : TE} {f : EF} (ra : RfE g t f) : RfE g (tIsN t) (eIsN f) := by
  intro T σ H ρ m d m' hm hs hf Q k
  obtain ⟨x, m1, e1, hf⟩ := bd_some hf
  cases hf
  refine ra T σ H ρ m x _ hm hs e1 _ fun v T1 H1 l1 hm1 r1 => ?_
  rw [r1.isN]
  exact k _ T1 H1 l1 hm1 (.bl _)
theorem rf_notN {t : TE} {f : EF} (ra : RfE g t f) : RfE g (tNotN t) (eNotN f) := by
  intro T σ H ρ m d m' hm hs hf Q k
  obtain ⟨x, m1, e1, hf⟩ := bd_some hf
  cases hf
  refine ra T σ H ρ m x _ hm hs e1 _ fun v T1 H1 l1 hm1 r1 => ?_
  rw [r1.isN]
  exact k _ T1 H1 l1 hm1 (.bl _)
theorem rf_tB {t : TE} {f : EF} (h : RfE g t f) : RfT g (tB t) (tVal f) := rf_test h
theorem dt_isN {a : Expr} {f : EF} {j pos'} (ha : DE X a f) : DT X (.Compare a [.Is] [.Constant .none j pos'] pos) (tVal (eIsN f)) := by
  obtain ⟨ta, pa, ra⟩ := ha.ex
  exact ⟨_, pt_cmp (pc_isN pa), rf_tB (rf_isN ra)⟩
theorem dt_notN {a : Expr} {f : EF} {j pos'} (ha : DE X a f) : DT X (.Compare a [.IsNot] [.Constant .none j pos'] pos) (tVal (eNotN f)) := by
  obtain ⟨ta, pa, ra⟩ := ha.ex
  exact ⟨_, pt_cmp (pc_notN pa), rf_tB (rf_notN ra)⟩
theorem de_if {c a b : Expr} {fc : TF} {fa fb : EF} (hc : DT X c fc) (ha : DE X a fa) (hb : DE X b fb) : DE X (.IfExp c a b pos) (eIf fc fa fb) := by
  obtain ⟨tc, pc, rc⟩ := hc.ex; obtain ⟨ta, pa, ra⟩ := ha.ex; obtain ⟨tb, pb, rb⟩ := hb.ex
  refine ⟨_, pe_ifExp pc pa pb, fun T σ H ρ m d m' hm hs hf Q k => ?_⟩
  obtain ⟨x, m1, e1, hf⟩ := bd_some hf
  refine rc T σ H ρ m x m1 hm hs e1 _ fun T1 H1 l1 hm1 => ?_
  cases x with
  | true => exact ra T1 σ H1 ρ m1 d m' hm1 (hs.le l1) hf Q (k.le l1)
  | false => exact rb T1 σ H1 ρ m1 d m' hm1 (hs.le l1) hf Q (k.le l1)
theorem rf_asg {te : TE} {tg : TG} {a : EF} {f : GF} (ha : RfE g te a) (hg : RfG g tg f) : RfS g (tAsg te tg) (sAsg a f) := by
  intro T σ H ρ m d m' hm hs hf D k
  obtain ⟨x, m1, e1, hf⟩ := bd_some hf
  obtain ⟨ρ1, m2, e2, hf⟩ := bd_some hf
  cases hf
  refine ha T σ H ρ m x m1 hm hs e1 _ fun v T1 H1 l1 hm1 r1 => ?_
  exact hg T1 σ H1 ρ m1 x v ρ1 _ hm1 (hs.le l1) r1 e2 _ (KS.le l1 k)
theorem ds_asg {tg e : Expr} {a : EF} {f : GF} (ha : DE X e a) (hg : DG X tg f) (hs : swapsWithSole [tg] e pos.line X.env = pure false := by rfl) (hw : swappedStores [tg] e X.env = pure none := by rfl)
    (h1 : (assignEach [tg] X.env).map (·.2) = [assign tg X.env] := by rfl) : DS X (.Assign [tg] e pos) (sAsg a f) := by
  obtain ⟨ta, pa, ra⟩ := ha.ex; obtain ⟨tb, pb, rb⟩ := hg.ex
  exact ⟨_, ps_asg pa pb hs hw h1, rf_asg ra rb⟩
theorem ds_set {i : Nat} {x : Str} {e : Expr} {a : EF} {pos' : Pos} (hN : X.N.Nodup) (hi : X.N[i]? = some x) (hx : Loc X.env.scope x) (he : DE X e a) (hs : swapsWith e (some (.Name x pos')) pos.line X.env = pure false := by rfl) (hf : X.fn x = true ∨ X.env.scope.names.lookup x = some .local := by first | exact .inl rfl | exact .inr rfl | assumption) :
    DS X (.Assign [.Name x pos'] e pos) (sAsg a (gNm i)) := by
  obtain ⟨ta, pa, ra⟩ := he.ex
  refine ⟨_, ps_set hN hi hx pa hs hf, rf_asg ra fun T σ H ρ m d v ρ' m' hm hs r hf Q k => ?_⟩
  cases hf
  exact k _ T H .refl hm (hs.set r)
theorem ds_expr {e : Expr} {a : EF} (he : DE X e a) (hs : swapsWith e none pos.line X.env = pure false := by rfl) : DS X (.Expr e pos) (sDrop a) := by
  obtain ⟨ta, pa, ra⟩ := he.ex
  refine ⟨_, ps_expr pa hs, fun T σ H ρ m d m' hm hs hf D k => ?_⟩
  obtain ⟨x, m1, e1, hf⟩ := bd_some hf
  cases hf
  exact ra T σ H ρ m x _ hm hs e1 _ fun v T1 H1 l1 hm1 r1 => k σ T1 H1 l1 hm1 (hs.le l1)
theorem ds_ret {e : Expr} {a : EF} (he : DE X e a) : DS X (.Return (some e) pos) (sRet a) := by
  obtain ⟨ta, pa, ra⟩ := he.ex
  refine ⟨_, ps_ret pa, fun T σ H ρ m d m' hm hs hf D k => ?_⟩
  obtain ⟨x, m1, e1, hf⟩ := bd_some hf
  cases hf
  exact ra T σ H ρ m x _ hm hs e1 _ k
theorem dss_nil : DSs X [] sNop := ⟨_, pss_nil, fun T σ H ρ m d m' hm hs hf D k => by cases hf; exact k _ T H .refl hm hs⟩
theorem dss_one {s : Stmt} {f : SF} (h : DS X s f) : DSs X [s] f := by
  obtain ⟨ta, pa, ra⟩ := h.ex
  exact ⟨_, pss_one pa, ra⟩
theorem dss_cons {s : Stmt} {r : List Stmt} {a b : SF} (h : DS X s a) (hr : DSs X r b) : DSs X (s :: r) (sSeq a b) := by
  obtain ⟨ta, pa, ra⟩ := h.ex; obtain ⟨tb, pb, rb⟩ := hr.ex
  refine ⟨_, pss_cons pa pb, fun T σ H ρ m d m' hm hs hf D k => ?_⟩
  obtain ⟨x, m1, e1, hf⟩ := bd_some hf
  refine ra T σ H ρ m x m1 hm hs e1 _ ?_
  cases x with
  | nx ρ1 => exact fun σ1 T1 H1 l1 hm1 hs1 => rb T1 σ1 H1 ρ1 m1 d m' hm1 hs1 hf D (KF.le l1 k)
  | rt d => cases hf; exact k
  | bk ρ => cases hf; exact k
  | ct ρ => cases hf; exact k
theorem ds_if {c : Expr} {a b : List Stmt} {fc : TF} {fa fb : SF} (hc : DT X c fc) (ha : DSs X a fa) (hb : DSs X b fb) : DS X (.If c a b pos) (sIf fc fa fb) := by
  obtain ⟨tc, pc, rc⟩ := hc.ex; obtain ⟨ta, pa, ra⟩ := ha.ex; obtain ⟨tb, pb, rb⟩ := hb.ex
  refine ⟨_, ps_if pc pa pb, fun T σ H ρ m d m' hm hs hf D k => ?_⟩
  obtain ⟨x, m1, e1, hf⟩ := bd_some hf
  refine rc T σ H ρ m x m1 hm hs e1 _ fun T1 H1 l1 hm1 => ?_
  cases x with
  | true => exact ra T1 σ H1 ρ m1 d m' hm1 (hs.le l1) hf D (KF.le l1 k)
  | false => exact rb T1 σ H1 ρ m1 d m' hm1 (hs.le l1) hf D (KF.le l1 k)
def sWhile (n : Nat) (c : TF) (b : SF) : SF := match n with
  | 0 => fun _ _ => none
  | n + 1 => fun ρ m => bd (c ρ m) fun x m1 => if x then bd (b ρ m1) fun r m2 => match r with
      | .nx ρ2 => sWhile n c b ρ2 m2
      | .ct ρ2 => sWhile n c b ρ2 m2
      | .bk ρ2 => some (.nx ρ2, m2)
      | .rt d => some (.rt d, m2)
    else some (.nx ρ, m1)
theorem ds_while {c : Expr} {body : List Stmt} {fc : TF} {fb : SF} (n : Nat) (hp : PassesOwn (model X.prog X.w) X.A X.env X.xe) (hc : DT X c fc) (hb : DSs X body fb) : DS X (.While c body [] pos) (sWhile n fc fb) := by
  obtain ⟨tc, pc, rc⟩ := hc.ex; obtain ⟨tb, pb, rb⟩ := hb.ex
  refine ⟨_, ps_while hp pc pb, fun T σ H ρ m r m' hm hs hf D k => ?_⟩
  refine ⟨fun j σ1 H1 => ∃ T1 ρ1 m1, Le T H T1 H1 ∧ RepH (gx X) T1 H1 m1 ∧ RepS (gx X) T1 H1 σ1 ρ1 ∧ sWhile j fc fb ρ1 m1 = some (r, m'), ⟨n, T, ρ, m, .refl, hm, hs, hf⟩, ?_⟩
  rintro j σ1 H1 ⟨T1, ρ1, m1, l1, hm1, hs1, hf1⟩
  cases j with
  | zero => cases hf1
  | succ j =>
    obtain ⟨x, m2, e2, hf2⟩ := bd_some hf1
    refine rc T1 σ1 H1 ρ1 m1 x m2 hm1 hs1 e2 _ fun T2 H2 l2 hm2 => ?_
    cases x with
    | false => cases hf2; exact k σ1 T2 H2 (l1.trans l2) hm2 (hs1.le l2)
    | true =>
      obtain ⟨y, m3, e3, hf3⟩ := bd_some hf2
      refine ⟨_, fun _ _ q => q, rb T2 σ1 H2 ρ1 m2 y m3 hm2 (hs1.le l2) e3 _ ?_⟩
      cases y with
      | nx ρ3 => exact fun σ3 T3 H3 l3 hm3 hs3 => ⟨j, Nat.lt_succ_self _, T3, ρ3, m3, l1.trans (l2.trans l3), hm3, hs3, hf3⟩
      | ct ρ3 => exact fun σ3 T3 H3 l3 hm3 hs3 => ⟨j, Nat.lt_succ_self _, T3, ρ3, m3, l1.trans (l2.trans l3), hm3, hs3, hf3⟩
      | bk ρ3 => cases hf3; exact KS.le (l1.trans l2) k
      | rt d => cases hf3; exact KV.le (l1.trans l2) k
def ItOk (g : G) (T : Tk) (H : Hp) (J : It) (ds : List D) : Prop := ∀ T1 H1, Le T H T1 H1 → ∀ m1, RepH g T1 H1 m1 → ∀ i : Nat,
  (∀ d, ds[i]? = some d → J.go i H1 ∧ ∀ x H2, J.yld i H1 x H2 → ∃ T2, Le T1 H1 T2 H2 ∧ RepH g T2 H2 m1 ∧ Rep g T2 H2 d x) ∧ (ds.length = i → J.stop i H1)
def RfI (g : G) (wi : TI) (f : AF) : Prop := ∀ T σ H ρ m ds m', RepH g T H m → RepS g T H σ ρ → f ρ m = some (ds, m') → ∀ R : It → Hp → Prop, (∀ J T' H', Le T H T' H' → RepH g T' H' m' → ItOk g T' H' J ds → R J H') → wi σ H R
structure DI (X : Cx) (tg iter : Expr) (f : AF) : Prop where
  ex : ∃ wi, PI X tg iter wi ∧ RfI (gx X) wi f
def forGo (f : GF) (b : SF) : List D → SF
  | [] => fun ρ m => some (.nx ρ, m)
  | x :: xs => fun ρ m => bd (f x ρ m) fun ρ1 m1 => bd (b ρ1 m1) fun r m2 => match r with
      | .nx ρ2 => forGo f b xs ρ2 m2
      | .ct ρ2 => forGo f b xs ρ2 m2
      | .bk ρ2 => some (.nx ρ2, m2)
      | .rt d => some (.rt d, m2)
def sFor (it : AF) (f : GF) (b : SF) : SF := fun ρ m => bd (it ρ m) fun xs m1 => forGo f b xs ρ m1
theorem ds_for {tg iter : Expr} {body : List Stmt} {fi : AF} {fg : GF} {fb : SF} (hp : PassesOwn (model X.prog X.w) X.A X.env X.xe) (hc : X.calm = true) (hi : DI X tg iter fi) (hg : DG X tg fg) (hb : DSs X body fb)
    (hs : ∀ x, foldedSetIterable iter X.env x = pure x := by intro _; rfl) : DS X (.For tg iter body [] pos) (sFor fi fg fb) := by
  obtain ⟨ti, pi, ri⟩ := hi.ex; obtain ⟨tg', pg, rg⟩ := hg.ex; obtain ⟨tb, pb, rb⟩ := hb.ex
  refine ⟨_, ps_for hp hc pi pg pb hs, fun T σ H ρ m r m' hm hs hf D k => ?_⟩
  obtain ⟨ds, m1, e1, hf⟩ := bd_some hf
  refine ri T σ H ρ m ds m1 hm hs e1 _ fun J T0 H0 l0 hm0 ok => ?_
  refine ⟨fun i j σ1 H1 => i + j = ds.length ∧ ∃ T1 ρ1 m1, Le T0 H0 T1 H1 ∧ RepH (gx X) T1 H1 m1 ∧ RepS (gx X) T1 H1 σ1 ρ1 ∧ forGo fg fb (ds.drop i) ρ1 m1 = some (r, m'), ⟨ds.length, by simp, T0, ρ, m1, .refl, hm0, hs.le l0, by simpa using hf⟩, ?_⟩
  rintro i j σ1 H1 ⟨hij, T1, ρ1, m1, l1, hm1, hs1, hf1⟩
  obtain ⟨okG, okS⟩ := ok T1 H1 l1 m1 hm1 i
  cases j with
  | zero =>
    left
    rw [List.drop_of_length_le (by omega)] at hf1
    cases hf1
    exact ⟨okS (by omega), k σ1 T1 H1 (l0.trans l1) hm1 hs1⟩
  | succ j =>
    right
    have hi : i < ds.length := by omega
    rw [List.drop_eq_getElem_cons hi] at hf1
    obtain ⟨go, yl⟩ := okG ds[i] (List.getElem?_eq_getElem hi)
    refine ⟨go, _, fun _ _ q => q, fun x H2 y2 => ?_⟩
    obtain ⟨T2, l2, hm2, r2⟩ := yl x H2 y2
    obtain ⟨ρ3, m3, e3, hf3⟩ := bd_some hf1
    refine rg T2 σ1 H2 ρ1 m1 ds[i] x ρ3 m3 hm2 (hs1.le l2) r2 e3 _ fun σ3 T3 H3 l3 hm3 hs3 => ?_
    obtain ⟨y, m4, e4, hf4⟩ := bd_some hf3
    refine rb T3 σ3 H3 ρ3 m3 y m4 hm3 hs3 e4 _ ?_
    have l13 := l1.trans (l2.trans l3)
    cases y with
    | nx ρ4 => exact fun σ4 T4 H4 l4 hm4 hs4 => ⟨j, Nat.lt_succ_self _, by omega, T4, ρ4, m4, l13.trans l4, hm4, hs4, hf4⟩
    | ct ρ4 => exact fun σ4 T4 H4 l4 hm4 hs4 => ⟨j, Nat.lt_succ_self _, by omega, T4, ρ4, m4, l13.trans l4, hm4, hs4, hf4⟩
    | bk ρ4 => cases hf4; exact KS.le (l0.trans l13) k
    | rt d => cases hf4; exact KV.le (l0.trans l13) k
end
end L4
namespace L4
open PySem L2
mutual
def pureD : D → Bool
  | .tup ds => pureL ds
  | .lst ds => pureL ds
  | .scr ds => pureL ds
  | .dic ks vs => pureL ks && pureL vs
  | .obj _ _ vs => pureL vs
  | .ref _ => false
  | .non => true
  | .bl _ => true
  | .int _ => true
  | .str _ => true
  | .glo _ => true
  | .ty _ => true
  | .ptp ds => pureL ds
def pureL : List D → Bool
  | [] => true
  | d :: ds => pureD d && pureL ds
end
mutual
def groundD : D → Bool
  | .tup ds => groundL ds
  | .lst _ => false
  | .scr _ => false
  | .dic _ _ => false
  | .obj _ _ _ => false
  | .ref _ => false
  | .non => true
  | .bl _ => true
  | .int _ => true
  | .str _ => true
  | .glo _ => true
  | .ty _ => true
  | .ptp ds => groundL ds
def groundL : List D → Bool
  | [] => true
  | d :: ds => groundD d && groundL ds
end
def T0 (ν : List Addr) : Tk := ⟨[], ν, fun _ h => nomatch h⟩
section
variable {g : G} {T : Tk} {H : Hp}
theorem and2 {a b : Bool} (h : (a && b) = true) : a = true ∧ b = true := by cases a <;> cases b <;> first | exact ⟨rfl, rfl⟩ | cases h
theorem FT.less {K : PySem.W.Frag} {ν : List Addr} {a : Addr} {vs : List V} (hν : ∀ a ∈ ν, a ∈ T.ν) (f : FT K T H a vs) : FT K (T0 ν) H a vs := by
  rcases f with ⟨n, f⟩ | f
  · exact .inl ⟨fun z => n (hν _ z), f⟩
  · exact .inr f
theorem FL.less {ν : List Addr} {a : Addr} {vs : List V} (hν : ∀ a ∈ ν, a ∈ T.ν) (f : FL T H a vs) : FL (T0 ν) H a vs := ⟨fun z => f.1 (hν _ z), f.2⟩
theorem FS.less {K : PySem.W.Frag} {ν : List Addr} {a : Addr} {vs : List V} (hν : ∀ a ∈ ν, a ∈ T.ν) (f : FS K T H a vs) : FS K (T0 ν) H a vs := by
  rcases f with ⟨n, f⟩ | f
  · exact .inl ⟨fun z => n (hν _ z), f⟩
  · exact .inr f
theorem FP.less {ν : List Addr} {a : Addr} {vs : List V} (hν : ∀ a ∈ ν, a ∈ T.ν) (f : FP T H a vs) : FP (T0 ν) H a vs := ⟨fun z => f.1 (hν _ z), f.2⟩
mutual
theorem Rep.pure {ν : List Addr} (hν : ∀ a ∈ ν, a ∈ T.ν) : ∀ (d : D) {v : V}, pureD d = true → Rep g T H d v → Rep g (T0 ν) H d v
  | .non, _, _, r => by cases r; exact .non
  | .bl _, _, _, r => by cases r; exact .bl _
  | .int _, _, _, r => by cases r; exact .int _
  | .str _, _, _, r => by cases r; exact .str _
  | .glo _, _, _, r => by cases r; exact .glo _
  | .ty _, _, _, r => by cases r; exact .ty _
  | .ref _, _, h, _ => by rw [pureD] at h; cases h
  | .tup ds, _, h, r => by
    rw [pureD] at h
    cases r with
    | tup f r => exact .tup (f.less hν) (RepL.pure hν ds h r)
  | .lst ds, _, h, r => by
    rw [pureD] at h
    cases r with
    | lst f r => exact .lst (f.less hν) (RepL.pure hν ds h r)
  | .scr ds, _, h, r => by
    rw [pureD] at h
    cases r with
    | scr f r => exact .scr (f.less hν) (RepL.pure hν ds h r)
  | .dic ks vs, _, h, r => by
    rw [pureD] at h
    cases r with
    | dicF n f r q => exact .dicF (fun z => n (hν _ z)) f (RepL.pure hν ks (and2 h).1 r) (RepL.pure hν vs (and2 h).2 q)
    | dicN n f e r q => exact .dicN (fun z => n (hν _ z)) f e (RepL.pure hν ks (and2 h).1 r) (RepL.pure hν vs (and2 h).2 q)
  | .obj c ns vs, _, h, r => by
    rw [pureD] at h
    cases r with
    | obj n f e r => exact .obj (fun z => n (hν _ z)) f e (RepL.pure hν vs h r)
  | .ptp ds, _, h, r => by
    rw [pureD] at h
    cases r with
    | ptp f r => exact .ptp (f.less hν) (RepL.pure hν ds h r)
theorem RepL.pure {ν : List Addr} (hν : ∀ a ∈ ν, a ∈ T.ν) : ∀ (ds : List D) {vs : List V}, pureL ds = true → RepL g T H ds vs → RepL g (T0 ν) H ds vs
  | [], _, _, r => by cases r; exact .nil
  | d :: ds, _, h, r => by
    rw [pureL] at h
    cases r with
    | cons r s => exact .cons (Rep.pure hν d (and2 h).1 r) (RepL.pure hν ds (and2 h).2 s)
end
mutual
theorem Rep.lift : ∀ (d : D) {v : V}, Rep g (T0 T.ν) H d v → Rep g T H d v
  | .non, _, r => by cases r; exact .non
  | .bl _, _, r => by cases r; exact .bl _
  | .int _, _, r => by cases r; exact .int _
  | .str _, _, r => by cases r; exact .str _
  | .glo _, _, r => by cases r; exact .glo _
  | .ty _, _, r => by cases r; exact .ty _
  | .ref _, _, r => by
    cases r with
    | ref h => exact absurd h (by simp [T0])
  | .tup ds, _, r => by
    cases r with
    | tup f r => exact .tup f (RepL.lift ds r)
  | .lst ds, _, r => by
    cases r with
    | lst f r => exact .lst f (RepL.lift ds r)
  | .scr ds, _, r => by
    cases r with
    | scr f r => exact .scr f (RepL.lift ds r)
  | .dic ks vs, _, r => by
    cases r with
    | dicF n f r q => exact .dicF n f (RepL.lift ks r) (RepL.lift vs q)
    | dicN n f e r q => exact .dicN n f e (RepL.lift ks r) (RepL.lift vs q)
  | .obj c ns vs, _, r => by
    cases r with
    | obj n f e r => exact .obj n f e (RepL.lift vs r)
  | .ptp ds, _, r => by
    cases r with
    | ptp f r => exact .ptp f (RepL.lift ds r)
theorem RepL.lift : ∀ (ds : List D) {vs : List V}, RepL g (T0 T.ν) H ds vs → RepL g T H ds vs
  | [], _, r => by cases r; exact .nil
  | d :: ds, _, r => by
    cases r with
    | cons r s => exact .cons (Rep.lift d r) (RepL.lift ds s)
end
theorem notup (hν : ∀ a ∈ T.ν, ∃ u, H a = some u ∧ Mu u) {a : Addr} {xs : List V} (h : Rd H a (.tup xs)) : a ∉ T.ν := fun z => by
  obtain ⟨u, e, q⟩ := hν a z
  rcases h with h | ⟨o, h⟩ <;> (rw [h] at e; cases e; exact q)
mutual
theorem Rep.ground {ν : List Addr} (hν : ∀ a ∈ T.ν, ∃ u, H a = some u ∧ Mu u) : ∀ (d : D) {v : V}, groundD d = true → Rep g (T0 ν) H d v → Rep g T H d v
  | .non, _, _, r => by cases r; exact .non
  | .bl _, _, _, r => by cases r; exact .bl _
  | .int _, _, _, r => by cases r; exact .int _
  | .str _, _, _, r => by cases r; exact .str _
  | .glo _, _, _, r => by cases r; exact .glo _
  | .ty _, _, _, r => by cases r; exact .ty _
  | .ref _, _, h, _ => by rw [groundD] at h; cases h
  | .lst _, _, h, _ => by rw [groundD] at h; cases h
  | .scr _, _, h, _ => by rw [groundD] at h; cases h
  | .dic _ _, _, h, _ => by rw [groundD] at h; cases h
  | .obj _ _ _, _, h, _ => by rw [groundD] at h; cases h
  | .tup ds, _, h, r => by
    rw [groundD] at h
    cases r with
    | tup f r =>
      refine .tup ?_ (RepL.ground hν ds h r)
      rcases f with ⟨_, f⟩ | f
      · exact .inl ⟨notup hν f, f⟩
      · exact .inr f
  | .ptp ds, _, h, r => by
    rw [groundD] at h
    cases r with
    | ptp f r =>
      obtain ⟨_, o, f, e⟩ := f
      exact .ptp ⟨notup hν (.inr ⟨o, f⟩), o, f, e⟩ (RepL.ground hν ds h r)
theorem RepL.ground {ν : List Addr} (hν : ∀ a ∈ T.ν, ∃ u, H a = some u ∧ Mu u) : ∀ (ds : List D) {vs : List V}, groundL ds = true → RepL g (T0 ν) H ds vs → RepL g T H ds vs
  | [], _, _, r => by cases r; exact .nil
  | d :: ds, _, h, r => by
    rw [groundL] at h
    cases r with
    | cons r s => exact .cons (Rep.ground hν d (and2 h).1 r) (RepL.ground hν ds (and2 h).2 s)
end
end
def mapO (f : D → Option D) : List D → Option (List D)
  | [] => some []
  | d :: ds => match f d, mapO f ds with
    | some e, some es => some (e :: es)
    | _, _ => none
def frzGo (m : M) : Nat → D → Option D
  | 0, _ => none
  | n + 1, .tup ds => (mapO (frzGo m n) ds).map .tup
  | n + 1, .lst ds => (mapO (frzGo m n) ds).map .lst
  | n + 1, .scr ds => (mapO (frzGo m n) ds).map .scr
  | n + 1, .ptp ds => (mapO (frzGo m n) ds).map .ptp
  | n + 1, .dic ks vs => match mapO (frzGo m n) ks, mapO (frzGo m n) vs with
    | some a, some b => if pureL ks then some (.dic ks b) else none
    | _, _ => none
  | n + 1, .obj c ns vs => (mapO (frzGo m n) vs).map (.obj c ns)
  | n + 1, .ref k => match m[k]? with
    | some (.lst ds) => (mapO (frzGo m n) ds).map .lst
    | some (.dic ks vs) => if pureL ks then (mapO (frzGo m n) vs).map (.dic ks) else none
    | some (.ins c ns vs) => (mapO (frzGo m n) vs).map (.obj c ns)
    | none => none
  | _ + 1, d => some d
def frz (m : M) (d : D) : Option D := if pureD d then some d else frzGo m 40 d
def frzL (m : M) (ds : List D) : Option (List D) := if pureL ds then some ds else mapO (frz m) ds
section
variable {g : G} {T : Tk} {H : Hp} {m : M}
theorem RepL.mapO {T' : Tk} {f : D → Option D} (hf : ∀ d e v, f d = some e → Rep g T H d v → Rep g T' H e v) : ∀ {ds es : List D} {vs : List V}, L4.mapO f ds = some es → RepL g T H ds vs → RepL g T' H es vs
  | [], _, _, h, .nil => by cases h; exact .nil
  | d :: ds, es, _, h, .cons r s => by
    unfold L4.mapO at h
    split at h
    · next e es' h1 h2 => cases h; exact .cons (hf _ _ _ h1 r) (RepL.mapO hf h2 s)
    · cases h
theorem frzGo_ok {ν : List Addr} (hm : RepH g T H m) (hν : ∀ a ∈ ν, a ∈ T.ν) (hμ : ∀ a ∈ T.μ, a ∉ ν) : ∀ (n : Nat) (d e : D) (v : V), frzGo m n d = some e → Rep g T H d v → Rep g (T0 ν) H e v
  | 0, _, _, _, h, _ => by cases h
  | n + 1, d, e, v, h, r => by
    have ih := frzGo_ok hm hν hμ n
    cases r with
    | non => cases h; exact .non
    | bl b => cases h; exact .bl b
    | int i => cases h; exact .int i
    | str x => cases h; exact .str x
    | glo x => cases h; exact .glo x
    | ty x => cases h; exact .ty x
    | tup f r =>
      obtain ⟨es, h1, rfl⟩ := Option.map_eq_some_iff.mp h
      exact .tup (f.less hν) (r.mapO ih h1)
    | lst f r =>
      obtain ⟨es, h1, rfl⟩ := Option.map_eq_some_iff.mp h
      exact .lst (f.less hν) (r.mapO ih h1)
    | scr f r =>
      obtain ⟨es, h1, rfl⟩ := Option.map_eq_some_iff.mp h
      exact .scr (f.less hν) (r.mapO ih h1)
    | ptp f r =>
      obtain ⟨es, h1, rfl⟩ := Option.map_eq_some_iff.mp h
      exact .ptp (f.less hν) (r.mapO ih h1)
    | dicF k f r q =>
      unfold frzGo at h
      split at h
      · next a b h1 h2 =>
        split at h
        · next hp => cases h; exact .dicF (fun z => k (hν _ z)) f (RepL.pure hν _ hp r) (q.mapO ih h2)
        · cases h
      · cases h
    | dicN k f e r q =>
      unfold frzGo at h
      split at h
      · next a b h1 h2 =>
        split at h
        · next hp => cases h; exact .dicN (fun z => k (hν _ z)) f e (RepL.pure hν _ hp r) (q.mapO ih h2)
        · cases h
      · cases h
    | obj k f e r =>
      obtain ⟨es, h1, rfl⟩ := Option.map_eq_some_iff.mp h
      exact .obj (fun z => k (hν _ z)) f e (r.mapO ih h1)
    | @ref k a hk =>
      have na : a ∉ ν := hμ a (List.mem_of_getElem? hk)
      unfold frzGo at h
      split at h
      · next ds h1 =>
        obtain ⟨es, h2, rfl⟩ := Option.map_eq_some_iff.mp h
        cases hm.at_ _ _ _ hk h1 with
        | lst f r => exact .lst ⟨na, f⟩ (r.mapO ih h2)
      · next ks vs h1 =>
        split at h
        · next hp =>
          obtain ⟨es, h2, rfl⟩ := Option.map_eq_some_iff.mp h
          cases hm.at_ _ _ _ hk h1 with
          | dicF f r q => exact .dicF na (.inl f) (RepL.pure hν _ hp r) (q.mapO ih h2)
          | dicN f e r q => exact .dicN na (.inl f) e (RepL.pure hν _ hp r) (q.mapO ih h2)
        · cases h
      · next c ns vs h1 =>
        obtain ⟨es, h2, rfl⟩ := Option.map_eq_some_iff.mp h
        cases hm.at_ _ _ _ hk h1 with
        | ins f e r => exact .obj na f e (r.mapO ih h2)
      · cases h
theorem frz_ok {ν : List Addr} (hm : RepH g T H m) (hν : ∀ a ∈ ν, a ∈ T.ν) (hμ : ∀ a ∈ T.μ, a ∉ ν) {d e : D} {v : V} (h : frz m d = some e) (r : Rep g T H d v) : Rep g (T0 ν) H e v := by
  unfold frz at h
  split at h
  · next hp => cases h; exact Rep.pure hν _ hp r
  · exact frzGo_ok hm hν hμ _ _ _ _ h r
theorem frzL_ok {ν : List Addr} (hm : RepH g T H m) (hν : ∀ a ∈ ν, a ∈ T.ν) (hμ : ∀ a ∈ T.μ, a ∉ ν) {d e : List D} {v : List V} (h : frzL m d = some e) (r : RepL g T H d v) : RepL g (T0 ν) H e v := by
  unfold frzL at h
  split at h
  · next hp => cases h; exact RepL.pure hν _ hp r
  · exact r.mapO (fun d e v h r => frz_ok hm hν hμ h r) h
end
structure FnG (P : Program) (w : World) (K : PySem.W.Frag) (mg : Str → Option Value) (base : Heap) (CX : CXT) (k : Nat) (f : Addr) (fd : FuncData) (ps : List Str) (sp : Sp) : Prop where
  len : ∀ vs H Q E, sp vs H Q E → vs.length = ps.length
  run : ∀ (A : Around) (outer : List Env) (s : Shared) (H : Hp) (args : Args) (us : List Value) (vs : List V) (Q : VK) (E : XK), A.guards = some [] → Room k A → Env0 P w K mg base A outer s H →
    BindsTo s fd args (ps.zip us) → Vals vs us → sp vs H Q E → codeAny (model P w) A (.call (.ref f) args) (CR CX outer P w H s Q E) s
theorem FnG.old {P : Program} {w : World} {K : PySem.W.Frag} {mg : Str → Option Value} {base : Heap} {k : Nat} {f : Addr} {fd : FuncData} {ps : List Str} {sp : Sp} (F : L3.FnG P w K mg base k f fd ps sp) : FnG P w K mg base CX0 k f fd ps sp := ⟨F.len, F.run⟩
/-- where a call may be made -/
structure Gd (k : Nat) (X : Cx) : Prop where
  g : X.A.guards = some []
  r : Room k X.A
theorem Gd.mono {j k : Nat} {X : Cx} (h : Gd k X) (l : j ≤ k) : Gd j X := ⟨h.g, h.r.mono l⟩
section
variable {X : Cx} {k : Nat} {f : Addr} {fd : FuncData} {ps : List Str} {sp : Sp} {ds : List Value} {dvs : List V}
theorem FnG.call (F : FnG X.prog X.w X.K X.mg X.base CX0 k f fd ps sp) (hr : Gd k X) (hb : Binds X.K fd ps ds) (hd : Vals dvs ds) : CallR X (.ref f) fun vs H Q => sp (vs ++ dvs) H Q E0 := by
  intro pins s σ H vs us Q I r h
  have r2 : Vals (vs ++ dvs) (us ++ ds) := r.append hd
  have hl : (us ++ ds).length = ps.length := by rw [← r2.length]; exact F.len _ _ _ _ h
  refine wpAny_call (codeAny_mono (F.run X.A X.stack s H ⟨us, []⟩ (us ++ ds) (vs ++ dvs) Q E0 hr.g hr.r I.env0 (hb s us I.kIn hl) r2 h) fun r s' hq => ?_)
  cases r with
  | error e => exact hq.elim
  | ok fl =>
    cases fl with
    | ret u => exact I.after hq
    | next => exact False.elim hq
    | brk => exact False.elim hq
    | cont => exact False.elim hq
variable {r : List V → Hp → VK → Prop} {x : Str} {p pos : Pos} {e : Expr} {es : List Expr} {t : TA}
theorem pe_callR (hc : CallR X (.ref f) r) (hg : Gl X x) (hm : X.mg x = some (.ref f)) (hk : PySem.W.keepIn X.K (.ref f) = true) (ha : PA X (e :: es) t) (hdb : (x == ("__debug__" : Str)) = false := by decide)
    (he : starEach (e :: es) X.env = (false, eval e X.env) :: starEach es X.env := by rfl) (hpl : (backTo pos (starEach es X.env)).any (·.1) = false := by rfl) : PE X (.Call (.Name x p) (e :: es) [] pos) (tCB r t) := by
  refine ⟨fun pins s σ H Q I h => ?_⟩
  refine wpAny_Call_Name_kw (ld_glob I hg hm ?_ hdb)
  refine PySem.W.callWith_K (h₀ := X.base) I.ok.mod.kin hk (thn (ha.run pos pins s σ H _ I h) fun us s1 ⟨vs, H1, I1, r, q⟩ => ⟨I1.kIn, ?_⟩) he hpl
  exact hc pins s1 σ H1 vs us Q I1 r q
theorem pe_callR0 (hc : CallR X (.ref f) r) (hg : Gl X x) (hm : X.mg x = some (.ref f)) (hk : PySem.W.keepIn X.K (.ref f) = true) (hdb : (x == ("__debug__" : Str)) = false := by decide) : PE X (.Call (.Name x p) [] [] pos) (tCB r tNil) := by
  refine ⟨fun pins s σ H Q I h => ?_⟩
  refine wpAny_Call_Name_kw (ld_glob I hg hm ?_ hdb)
  exact PySem.W.callWith_K0 I.kIn hk (hc pins s σ H [] [] Q I .nil h)
end
/-- what a def on plain data promises -/
def spP (g : G) (n : Nat) (F : List D → Option D) : Sp := fun vs H Q _ => vs.length = n ∧ ∃ (ν : List Addr) (ds : List D) (d : D), (∀ a ∈ ν, ∃ u, H a = some u ∧ Mu u) ∧ RepL g (T0 ν) H ds vs ∧ F ds = some d ∧
  ∀ v H', (∀ a u, H a = some u → H' a = some u) → Rep g (T0 ν) H' d v → Q v H'
/-- .. on tracked things too -/
def spM (g : G) (n : Nat) (F : List D → M → Option (D × M)) : Sp := fun vs H Q _ => vs.length = n ∧ ∃ (T : Tk) (m : M) (ds : List D) (d : D) (m' : M), RepH g T H m ∧ RepL g T H ds vs ∧ F ds m = some (d, m') ∧ KV g T H m' d Q
def startD (n : Nat) (ds : List D) : Ss := ds.map some ++ List.replicate (n - ds.length) none
theorem repS_start {g : G} {T : Tk} {H : Hp} {N : List Str} {ds : List D} {vs : List V} (r : RepL g T H ds vs) : RepS g T H (L2.start N vs) (startD N.length ds) := by
  refine ⟨by simp [L2.start, startD, r.length], fun i d h => ?_⟩
  unfold startD at h
  by_cases hi : i < ds.length
  · rw [List.getElem?_append_left (by simpa using hi), List.getElem?_map] at h
    obtain ⟨e, h1, h2⟩ := Option.map_eq_some_iff.mp h
    cases h2
    obtain ⟨v, h3, q⟩ := r.get h1
    exact ⟨v, by
      unfold L2.start
      rw [List.getElem?_append_left (by simpa [← r.length] using hi), List.getElem?_map, h3]
      rfl, q⟩
  · rw [List.getElem?_append_right (by simpa using hi)] at h
    have := List.mem_of_getElem? h
    simp at this
def endP : Option (Fl × M) → Option D
  | some (.rt d, m) => frz m d
  | some (.nx _, _) => some .non
  | _ => none
def endM : Option (Fl × M) → Option (D × M)
  | some (.rt d, m') => some (d, m')
  | some (.nx _, m') => some (.non, m')
  | _ => none
def runP (a n : Nat) (b : SF) (ds : List D) : Option D := if ds.length = a then endP (b (startD n ds) []) else none
def runM (a n : Nat) (b : SF) (ds : List D) (m : M) : Option (D × M) := if ds.length = a then endM (b (startD n ds) m) else none
theorem ite_some {α : Type} {c : Prop} [Decidable c] {a : Option α} {b : α} (h : (if c then a else none) = some b) : c ∧ a = some b := by
  split at h
  · next hc => exact ⟨hc, h⟩
  · cases h
theorem runP_len {a n : Nat} {b : SF} {ds : List D} {d : D} (h : runP a n b ds = some d) : ds.length = a := (ite_some h).1
theorem runM_len {a n : Nat} {b : SF} {ds : List D} {m : M} {r : D × M} (h : runM a n b ds m = some r) : ds.length = a := (ite_some h).1
theorem spP_run {g : G} {n a : Nat} {N : List Str} {t : TS} {b : SF} (ht : RfS g t b) {vs : List V} {H : Hp} {Q : VK} {E : XK} (h : spP g n (runP a N.length b) vs H Q E) : t { nx := fun _ H' => Q .non H', rt := Q } (L2.start N vs) H := by
  obtain ⟨_, ν, ds, d, hν, r, hf, k⟩ := h
  have hm : RepH g (T0 ν) H [] := ⟨rfl, List.nodup_nil, hν, fun n a o h _ => by cases h⟩
  replace hf := (ite_some hf).2
  unfold endP at hf
  split at hf
  · next d' m e =>
    refine ht (T0 ν) _ H _ [] _ _ hm (repS_start r) e _ fun v T' H' l hm' rv => ?_
    refine k v H' (fun a u h => l.keep a u h fun z => nomatch z) (frz_ok hm' (fun a h => l.up a h) (fun a h z => ?_) hf rv)
    have := l.newμ a h fun z => nomatch z
    obtain ⟨u, q, _⟩ := hν a z
    rw [this] at q
    cases q
  · next e =>
    cases hf
    exact ht (T0 ν) _ H _ [] _ _ hm (repS_start r) e _ fun σ T' H' l hm' rv => k _ H' (fun a u h => l.keep a u h fun z => nomatch z) .non
  · cases hf
theorem spM_run {g : G} {n a : Nat} {N : List Str} {t : TS} {b : SF} (ht : RfS g t b) {vs : List V} {H : Hp} {Q : VK} {E : XK} (h : spM g n (runM a N.length b) vs H Q E) : t { nx := fun _ H' => Q .non H', rt := Q } (L2.start N vs) H := by
  obtain ⟨_, T, m, ds, d, m', hm, r, hf, k⟩ := h
  replace hf := (ite_some hf).2
  unfold endM at hf
  split at hf
  · next d' m e =>
    cases hf
    exact ht T _ H _ m _ _ hm (repS_start r) e _ k
  · next e =>
    cases hf
    exact ht T _ H _ m _ _ hm (repS_start r) e _ fun σ T' H' l hm' rv => k _ T' H' l hm' .non
  · cases hf
/-- a call of a def on plain data: tracked things are lent where what comes back is plain -/
def callP (F : List D → Option D) (m : M) (ds : List D) : Option D := if pureL ds then F ds else match mapO (frz m) ds with
  | some es => match F es with
    | some d => if groundD d then some d else none
    | none => none
  | none => none
theorem rf_callP {g : G} {n : Nat} {F : List D → Option D} (hn : ∀ ds d, F ds = some d → ds.length = n) : RfC g (fun vs H Q => spP g n F vs H Q E0) (callP F) := by
  intro T H m xs vs d hm r hf Q k
  unfold callP at hf
  split at hf
  · next hp =>
    refine ⟨by rw [← r.length]; exact hn _ _ hf, T.ν, xs, d, hm.has, RepL.pure (fun _ h => h) _ hp r, hf, fun v H' up rv => ?_⟩
    obtain ⟨l, hm'⟩ := hm.grow up
    exact k v T H' l hm' (Rep.lift _ rv)
  · split at hf
    · next es h1 =>
      split at hf
      · next d' h2 =>
        split at hf
        · next hg =>
          cases hf
          have re : RepL g (T0 []) H es vs := r.mapO (fun d e v h q => frz_ok hm (fun a h => (List.not_mem_nil h).elim) (fun a _ h => (List.not_mem_nil h).elim) h q) h1
          refine ⟨by rw [← re.length]; exact hn _ _ h2, [], es, d, fun a h => (List.not_mem_nil h).elim, re, h2, fun v H' up rv => ?_⟩
          obtain ⟨l, hm'⟩ := hm.grow up
          exact k v T H' l hm' (Rep.ground hm'.has _ hg rv)
        · cases hf
      · cases hf
    · cases hf
/-- a call of a def on tracked things -/
def eCallM (F : List D → M → Option (D × M)) (a : AF) : EF := fun ρ m => bd (a ρ m) fun xs m1 => F xs m1
theorem rf_callM {g : G} {n : Nat} {F : List D → M → Option (D × M)} {t : TA} {a : AF} (hn : ∀ ds m r, F ds m = some r → ds.length = n) (ha : RfA g t a) : RfE g (tCB (fun vs H Q => spM g n F vs H Q E0) t) (eCallM F a) := by
  intro T σ H ρ m d m' hm hs hf Q k
  obtain ⟨x, m1, e1, hf⟩ := bd_some hf
  refine ha T σ H ρ m x _ hm hs e1 _ fun v T1 H1 l1 hm1 r1 => ?_
  exact ⟨by rw [← r1.length]; exact hn _ _ _ hf, T1, m1, x, d, m', hm1, r1, hf, k.le l1⟩
end L4
namespace L4
open PySem L2
def subD : M → D → D → Option D
  | _, .int i, .int j => some (.int (i - j))
  | _, _, _ => none
def fdivD : M → D → D → Option D
  | _, .int i, .int j => if 0 < j ∧ j < 1073741824 then some (.int (i / j)) else none
  | _, _, _ => none
def modD : M → D → D → Option D
  | _, .int i, .int j => if 0 < j then some (.int (i % j)) else none
  | _, _, _ => none
def powD : M → D → D → Option D
  | _, .int i, .int j => if 0 ≤ j ∧ j ≤ 1000000 ∧ i.natAbs < 2 ^ 64 then some (.int (i ^ j.toNat)) else none
  | _, _, _ => none
def negD : M → D → Option D
  | _, .int i => some (.int (-i))
  | _, _ => none
section
variable {X : Cx} {g : G} {T : Tk} {H : Hp} {m : M} {Q : VK}
theorem KV.now {d : D} {v : V} (k : KV g T H m d Q) (hm : RepH g T H m) (r : Rep g T H d v) : Q v H := k v T H .refl hm r
theorem op_sub' : OpD X (binaryOp .Sub) subD := ⟨_, op_sub, fun T H m x y v u d hm rx ry hf Q k => by
  cases rx <;> cases ry <;> first | (cases hf; exact ⟨_, _, rfl, rfl, k.now hm (.int _)⟩) | (cases hf; done)⟩
theorem op_fdiv' : OpD X (binaryOp .FloorDiv) fdivD := ⟨_, op_fdiv, fun T H m x y v u d hm rx ry hf Q k => by
  cases rx <;> cases ry <;> first | (cases hf; done) | (obtain ⟨h, hf⟩ := ite_some hf; cases hf; exact ⟨_, _, rfl, rfl, h, k.now hm (.int _)⟩)⟩
theorem op_mod' : OpD X (binaryOp .Mod) modD := ⟨_, op_mod, fun T H m x y v u d hm rx ry hf Q k => by
  cases rx <;> cases ry <;> first | (cases hf; done) | (obtain ⟨h, hf⟩ := ite_some hf; cases hf; exact ⟨_, _, rfl, rfl, h, k.now hm (.int _)⟩)⟩
theorem op_pow' : OpD X (binaryOp .Pow) powD := ⟨_, op_pow, fun T H m x y v u d hm rx ry hf Q k => by
  cases rx <;> cases ry <;> first | (cases hf; done) | (obtain ⟨h, hf⟩ := ite_some hf; cases hf; exact ⟨_, _, rfl, rfl, h, k.now hm (.int _)⟩)⟩
theorem un_neg' : UnD X (unaryOp .USub) negD := ⟨_, un_neg, fun T H m x v d hm rx hf Q k => by
  cases rx <;> first | (cases hf; exact ⟨_, rfl, k.now hm (.int _)⟩) | (cases hf; done)⟩
def cmpI (p : Int → Int → Bool) (q : List Nat → List Nat → Bool) : M → D → D → Option D
  | _, .int i, .int j => some (.bl (p i j))
  | _, .str i, .str j => some (.bl (q i.cps.toList j.cps.toList))
  | _, _, _ => none
def ltD := cmpI (fun i j => decide (i < j)) (fun i j => decide (i < j))
def leD : M → D → D → Option D
  | _, .int i, .int j => some (.bl (decide (i ≤ j)))
  | _, _, _ => none
def gtD : M → D → D → Option D
  | _, .int i, .int j => some (.bl (decide (j < i)))
  | _, _, _ => none
def geD : M → D → D → Option D
  | _, .int i, .int j => some (.bl (decide (j ≤ i)))
  | _, _, _ => none
theorem orR {F : Value → Value → Sem Value} {r q : R2} (h1 : OpR X F r) (h2 : OpR X F q) : OpR X F (fun x y H Q => r x y H Q ∨ q x y H Q) := by
  intro pins s σ H x y v u Q I rx ry h
  rcases h with h | h
  · exact h1 pins s σ H x y v u Q I rx ry h
  · exact h2 pins s σ H x y v u Q I rx ry h
theorem op_lt' : OpD X (compareOp .Lt) ltD := ⟨_, orR op_lt op_lt_str, fun T H m x y v u d hm rx ry hf Q k => by
  cases rx <;> cases ry <;> first | (cases hf; exact .inl ⟨_, _, rfl, rfl, k.now hm (.bl _)⟩) | (cases hf; exact .inr ⟨_, _, rfl, rfl, k.now hm (.bl _)⟩) | (cases hf; done)⟩
theorem op_le' : OpD X (compareOp .LtE) leD := ⟨_, op_le, fun T H m x y v u d hm rx ry hf Q k => by
  cases rx <;> cases ry <;> first | (cases hf; exact ⟨_, _, rfl, rfl, k.now hm (.bl _)⟩) | (cases hf; done)⟩
theorem op_gt' : OpD X (compareOp .Gt) gtD := ⟨_, op_gt, fun T H m x y v u d hm rx ry hf Q k => by
  cases rx <;> cases ry <;> first | (cases hf; exact ⟨_, _, rfl, rfl, k.now hm (.bl _)⟩) | (cases hf; done)⟩
theorem op_ge' : OpD X (compareOp .GtE) geD := ⟨_, op_ge, fun T H m x y v u d hm rx ry hf Q k => by
  cases rx <;> cases ry <;> first | (cases hf; exact ⟨_, _, rfl, rfl, k.now hm (.bl _)⟩) | (cases hf; done)⟩
def lstO : O → Option (List D)
  | .lst ds => some ds
  | _ => none
def lstOf (m : M) : D → Option (List D)
  | .lst ds => some ds
  | .ref n => (m[n]?).bind lstO
  | _ => none
theorem lst_rep {x : D} {v : V} {ds : List D} (hm : RepH g T H m) (r : Rep g T H x v) (h : lstOf m x = some ds) : ∃ a vs, v = .ref a ∧ H a = some (.lst vs) ∧ RepL g T H ds vs := by
  cases r with
  | lst f r => cases h; exact ⟨_, _, rfl, f.2, r⟩
  | ref e =>
    obtain ⟨o, h1, h2⟩ := Option.bind_eq_some_iff.mp h
    cases hm.at_ _ _ _ e h1 with
    | lst f r => cases h2; exact ⟨_, _, rfl, f, r⟩
    | _ => cases h2
  | _ => cases h
/-- a list that is read, the script too -/
def lstR (m : M) : D → Option (List D)
  | .scr ds => some ds
  | d => lstOf m d
theorem lstR_rep {x : D} {v : V} {ds : List D} (hm : RepH g T H m) (r : Rep g T H x v) (h : lstR m x = some ds) : ∃ a vs, v = .ref a ∧ SqL g.K H a vs ∧ RepL g T H ds vs := by
  unfold lstR at h
  split at h
  · cases h
    cases r with
    | scr f r => exact ⟨_, _, rfl, f.sq, r⟩
  · obtain ⟨a, vs, e, q, r⟩ := lst_rep hm r h
    exact ⟨a, vs, e, .of q, r⟩
theorem tup_rep {v : V} {ds : List D} (r : Rep g T H (.tup ds) v) : ∃ a vs, v = .ref a ∧ SqT g.K H a vs ∧ RepL g T H ds vs := by
  cases r with
  | tup f r => exact ⟨_, _, rfl, f.sq, r⟩
/-- a new tuple -/
theorem KV.tup {ds : List D} {vs : List V} (k : KV g T H m (.tup ds) Q) (hm : RepH g T H m) (r : RepL g T H ds vs) (p : Addr) (hp : H p = none) : Q (.ref p) (upd H p (.tup vs)) := by
  obtain ⟨l, hm'⟩ := hm.fresh (u := .tup vs) hp
  exact k _ T _ l hm' (.tup (.inl ⟨fun z => hm.nope hp z, .inl upd_same⟩) (r.le l))
/-- a new list that stays as it is -/
theorem KV.lst {ds : List D} {vs : List V} (k : KV g T H m (.lst ds) Q) (hm : RepH g T H m) (r : RepL g T H ds vs) (p : Addr) (hp : H p = none) : Q (.ref p) (upd H p (.lst vs)) := by
  obtain ⟨l, hm'⟩ := hm.fresh (u := .lst vs) hp
  exact k _ T _ l hm' (.lst ⟨fun z => hm.nope hp z, upd_same⟩ (r.le l))
/-- a new list that is tracked -/
theorem KV.newL {ds : List D} {vs : List V} (k : KV g T H (m ++ [.lst ds]) (.ref m.length) Q) (hm : RepH g T H m) (r : RepL g T H ds vs) (p : Addr) (hp : H p = none) : Q (.ref p) (upd H p (.lst vs)) := by
  obtain ⟨l, hm'⟩ := hm.push (u := .lst vs) (o := .lst ds) hp fun l => .lst upd_same (r.le l)
  refine k _ (T.push p) _ l hm' (.ref ?_)
  show (T.μ ++ [p])[m.length]? = some p
  rw [← hm.len, List.getElem?_append_right (Nat.le_refl _)]
  simp
def eTup (a : AF) : EF := fun ρ m => bd (a ρ m) fun xs m1 => if xs.length ≤ sizeLine then some (.tup xs, m1) else none
def eLst (a : AF) : EF := fun ρ m => bd (a ρ m) fun xs m1 => if xs.length ≤ sizeLine then some (.lst xs, m1) else none
def eNewL (a : AF) : EF := fun ρ m => bd (a ρ m) fun xs m1 => if xs.length ≤ sizeLine then some (.ref m1.length, m1 ++ [.lst xs]) else none
variable {pos : Pos}
theorem de_tup {es : List Expr} {f : AF} {k} (ha : DA X es f) : DE X (.Tuple es k pos) (eTup f) := by
  obtain ⟨ta, pa, ra⟩ := ha.ex
  refine ⟨_, pe_tup pa, fun T σ H ρ m d m' hm hs hf Q k => ?_⟩
  obtain ⟨x, m1, e1, hf⟩ := bd_some hf
  obtain ⟨hz, hf⟩ := ite_some hf
  cases hf
  refine ra T σ H ρ m x _ hm hs e1 _ fun vs T1 H1 l1 hm1 r1 => ⟨by rw [← r1.length]; exact hz, fun p hp => ?_⟩
  exact (k.le l1).tup hm1 r1 p hp
theorem de_lst {es : List Expr} {f : AF} (ha : DA X es f) : DE X (.List es pos) (eLst f) := by
  obtain ⟨ta, pa, ra⟩ := ha.ex
  refine ⟨_, pe_lst pa, fun T σ H ρ m d m' hm hs hf Q k => ?_⟩
  obtain ⟨x, m1, e1, hf⟩ := bd_some hf
  obtain ⟨hz, hf⟩ := ite_some hf
  cases hf
  refine ra T σ H ρ m x _ hm hs e1 _ fun vs T1 H1 l1 hm1 r1 => ⟨by rw [← r1.length]; exact hz, fun p hp => ?_⟩
  exact (k.le l1).lst hm1 r1 p hp
theorem de_newL {es : List Expr} {f : AF} (ha : DA X es f) : DE X (.List es pos) (eNewL f) := by
  obtain ⟨ta, pa, ra⟩ := ha.ex
  refine ⟨_, pe_lst pa, fun T σ H ρ m d m' hm hs hf Q k => ?_⟩
  obtain ⟨x, m1, e1, hf⟩ := bd_some hf
  obtain ⟨hz, hf⟩ := ite_some hf
  cases hf
  refine ra T σ H ρ m x _ hm hs e1 _ fun vs T1 H1 l1 hm1 r1 => ⟨by rw [← r1.length]; exact hz, fun p hp => ?_⟩
  exact (k.le l1).newL hm1 r1 p hp
/-- two texts, one behind the other -/
def catS (i j : Str) : Str := ⟨(i.cps.toList ++ j.cps.toList).toArray⟩
theorem catS_eq (i j : Str) : i ++ j = catS i j := by
  cases i with
  | mk a => cases j with
    | mk b =>
      show (⟨a ++ b⟩ : Str) = ⟨(a.toList ++ b.toList).toArray⟩
      congr 1
      exact Array.ext' (by simp)
def addD (m : M) (x y : D) : Option D := match x, y with
  | .int i, .int j => some (.int (i + j))
  | .str i, .str j => if i.length + j.length ≤ sizeLine then some (.str (catS i j)) else none
  | .tup a, .tup b => if a.length + b.length ≤ sizeLine then some (.tup (a ++ b)) else none
  | x, y => match lstOf m x, lstOf m y with
    | some a, some b => if a.length + b.length ≤ sizeLine then some (.lst (a ++ b)) else none
    | _, _ => none
theorem addD_lst {m : M} {x y d : D} (h : addD m x y = some d) : (∃ i j, x = .int i ∧ y = .int j ∧ d = .int (i + j)) ∨ (∃ i j, x = .str i ∧ y = .str j ∧ i.length + j.length ≤ sizeLine ∧ d = .str (catS i j)) ∨
    (∃ a b, x = .tup a ∧ y = .tup b ∧ a.length + b.length ≤ sizeLine ∧ d = .tup (a ++ b)) ∨ (∃ a b, lstOf m x = some a ∧ lstOf m y = some b ∧ a.length + b.length ≤ sizeLine ∧ d = .lst (a ++ b)) := by
  unfold addD at h
  split at h
  · cases h; exact .inl ⟨_, _, rfl, rfl, rfl⟩
  · obtain ⟨hz, h⟩ := ite_some h; cases h; exact .inr (.inl ⟨_, _, rfl, rfl, hz, rfl⟩)
  · obtain ⟨hz, h⟩ := ite_some h; cases h; exact .inr (.inr (.inl ⟨_, _, rfl, rfl, hz, rfl⟩))
  · split at h
    · next h1 h2 => obtain ⟨hz, h⟩ := ite_some h; cases h; exact .inr (.inr (.inr ⟨_, _, h1, h2, hz, rfl⟩))
    · cases h
theorem op_add' : OpD X (binaryOp .Add) addD := ⟨_, orR op_add (orR op_add_str (orR op_catA op_cat)), fun T H m x y v u d hm rx ry hf Q k => by
  rcases addD_lst hf with ⟨i, j, rfl, rfl, rfl⟩ | ⟨i, j, rfl, rfl, hz, rfl⟩ | ⟨a, b, rfl, rfl, hz, rfl⟩ | ⟨a, b, h1, h2, hz, rfl⟩
  · cases rx; cases ry; exact .inl ⟨_, _, rfl, rfl, k.now hm (.int _)⟩
  · cases rx; cases ry; exact .inr (.inl ⟨_, _, rfl, rfl, hz, by rw [catS_eq]; exact k.now hm (.str _)⟩)
  · obtain ⟨p, xs, rfl, hx, r1⟩ := tup_rep rx
    obtain ⟨q, ys, rfl, hy, r2⟩ := tup_rep ry
    refine .inr (.inr (.inl ⟨p, q, xs, ys, rfl, rfl, hx, hy, by rw [← r1.length, ← r2.length]; exact hz, fun e => ?_, fun _ e => ?_, fun _ _ z hz => k.tup hm (r1.append r2) z hz⟩))
    · subst e; cases r1; exact k.now hm ry
    · subst e; cases r2; rw [List.append_nil] at k; exact k.now hm rx
  · obtain ⟨p, xs, rfl, hx, r1⟩ := lst_rep hm rx h1
    obtain ⟨q, ys, rfl, hy, r2⟩ := lst_rep hm ry h2
    exact .inr (.inr (.inr ⟨p, q, xs, ys, rfl, rfl, hx, hy, by rw [← r1.length, ← r2.length]; exact hz, fun z hz => k.lst hm (r1.append r2) z hz⟩))⟩
def mulD (m : M) (x y : D) : Option D := match x, y with
  | .int i, .int j => if (-(2 ^ 64) < i ∧ i < 2 ^ 64) ∨ (-(2 ^ 64) < j ∧ j < 2 ^ 64) then some (.int (i * j)) else none
  | .tup a, .int k => if a ≠ [] ∧ a.length ≤ 1000 ∧ 0 ≤ k ∧ k ≤ 1000 then some (.tup (List.replicate k.toNat a).flatten) else none
  | .lst a, .int k => if a.length ≤ 1000 ∧ 0 ≤ k ∧ k ≤ 1000 then some (.lst (List.replicate k.toNat a).flatten) else none
  | _, _ => none
theorem tuple_mul1 (l : Addr) (items : Array Value) (n : Nat) (dd : Option Addr) (sl : Array (Option Value)) (u : Tok) :
    Meets (Builtin.«tuple.__mul__» ⟨[.ref l, .int 1 u], []⟩) (fun _ R s => s.heap.get? l = some { cls := .type "tuple", dict := dd, data := .seq items n, slots := sl } ∧ R (.ok (.ret (Value.ref l))) s) :=
  .of_wp fun prog w A R s h => by
    obtain ⟨hp, g, d, tk, os⟩ := s
    obtain ⟨hl, h⟩ := h
    have f1 := AutoSeq1.idx_int
    wp_walk using wpAny_loadPart' hl
    exact ⟨_, rfl, h⟩
theorem tuple_mul0 (l : Addr) (items : Array Value) (n : Nat) (dd : Option Addr) (sl : Array (Option Value)) (u : Tok) (hi : items.isEmpty = false) :
    Meets (Builtin.«tuple.__mul__» ⟨[.ref l, .int 0 u], []⟩) (fun _ R s => s.heap.get? l = some { cls := .type "tuple", dict := dd, data := .seq items n, slots := sl } ∧ R (.ok (.ret (Value.ref s.heap.objs.size))) { s with heap := s.heap.push { cls := Value.type "tuple", data := Data.seq #[] } }) :=
  .of_wp fun prog w A R s h => by
    obtain ⟨hp, g, d, tk, os⟩ := s
    obtain ⟨hl, h⟩ := h
    have f1 := AutoSeq1.idx_int
    have c1 : (items.isEmpty || (0 : Int) == 1) = false := by rw [hi]; rfl
    wp_walk using wpAny_loadPart' hl
    repeat (first
      | (refine wpAny_ite_false (decide_eq_false (by rw [c1]; exact Bool.false_ne_true)) ?_; wp_walk using wpAny_loadPart' hl))
    exact ⟨_, rfl, h⟩
theorem repT_core {l : Addr} {k : Int} {t : Tok} {xs : List V} {pins : List (Addr × Obj)} {s : Shared} {σ : L2.St} {H : Hp} {Q : VK} (I : Inv X pins σ H s) (hT : SqT X.K H l xs) (h1 : k = 1 → Q (.ref l) H) (h0 : k = 0 → xs ≠ [] ∧ ∀ p, H p = none → Q (.ref p) (upd H p (.tup []))) (hk : k = 0 ∨ k = 1) :
    wpAny (model X.prog X.w) X.A (binaryOp .Mult (.ref l) (.int k t)) (EP X pins σ Q) X.xe s := by
  obtain ⟨its, r, ⟨⟨cls, dd, data, sl⟩, ho, hc, n, hd⟩, hs⟩ := I.tuple hT
  simp only at hc hd
  subst hc hd
  refine wpAny_binaryOp_repeat_ref (T := "tuple") (U := "int") (by decide) ⟨_, ho, rfl⟩ (fun s' => typeIs_int s' k t) noFill_tuple_mul F.fills_int_mul F.slot_int_rmul repeat_tuple F.slot_int_index.lookup
    (call_meets F.slot_int_rmul (typeIs_int s k t) F.entry_int_rmul (F.args_int_rmul_2 _ _) (int_rmul_tuple k t l its.toArray n dd sl)
      ⟨ho, rfl, ⟨_, ho, rfl⟩, ?_⟩)
  rcases hk with rfl | rfl
  · obtain ⟨hne, q⟩ := h0 rfl
    refine call_meets F.slot_tuple_mul ⟨_, ho, rfl⟩ F.entry_tuple_mul (F.args_tuple_mul_2 _ _) (tuple_mul0 l its.toArray n dd sl t ?_) ⟨ho, ?_⟩
    · cases its with
      | nil => cases r; exact absurd rfl hne
      | cons _ _ => rfl
    · exact ⟨.ref s.heap.objs.size, _, I.laid (t' := s.toks) (o := .tup []) (fun b ob q => Heap.get?_push_of_some _ q) (Nat.le_refl _) ⟨Nat.zero_le _, _, .nil, PyProof.Rows.IsTup.new _ _⟩, rfl, q _ (I.hok.fresh (Nat.le_refl _))⟩
  · refine call_meets F.slot_tuple_mul ⟨_, ho, rfl⟩ F.entry_tuple_mul (F.args_tuple_mul_2 _ _) (tuple_mul1 l its.toArray n dd sl t) ⟨ho, ?_⟩
    exact ⟨.ref l, H, I, rfl, h1 rfl⟩
def rRepS (K : PySem.W.Frag) : R2 := fun x y H Q => ∃ l k xs, x = .ref l ∧ y = .int k ∧ SqT K H l xs ∧ (k = 1 → Q (.ref l) H) ∧ (k = 0 → xs ≠ [] ∧ ∀ p, H p = none → Q (.ref p) (upd H p (.tup []))) ∧ (k = 0 ∨ k = 1)
theorem op_repS : OpR X (binaryOp .Mult) (rRepS X.K) := by
  intro pins s σ H x y v u Q I rx ry h
  obtain ⟨l, k, xs, rfl, rfl, hT, h1, h0, hk⟩ := h
  cases rx
  obtain ⟨t, rfl⟩ := ry
  exact repT_core I hT h1 h0 hk
theorem rep_nil {α : Type} (xs : List α) : (List.replicate 1 xs).flatten = xs := by simp
theorem RepL.rep {xs : List D} {vs : List V} (r : RepL g T H xs vs) : ∀ n : Nat, RepL g T H (List.replicate n xs).flatten (List.replicate n vs).flatten
  | 0 => .nil
  | n + 1 => by
    rw [List.replicate_succ, List.replicate_succ, List.flatten_cons, List.flatten_cons]
    exact r.append (RepL.rep r n)
theorem mulD_some {m : M} {x y d : D} (h : mulD m x y = some d) : (∃ i j, x = .int i ∧ y = .int j ∧ CMul i j ∧ d = .int (i * j)) ∨
    (∃ a k, x = .tup a ∧ y = .int k ∧ (a ≠ [] ∧ a.length ≤ 1000 ∧ 0 ≤ k ∧ k ≤ 1000) ∧ d = .tup (List.replicate k.toNat a).flatten) ∨ (∃ a k, x = .lst a ∧ y = .int k ∧ (a.length ≤ 1000 ∧ 0 ≤ k ∧ k ≤ 1000) ∧ d = .lst (List.replicate k.toNat a).flatten) := by
  unfold mulD at h
  split at h
  · obtain ⟨hz, h⟩ := ite_some h; cases h; exact .inl ⟨_, _, rfl, rfl, hz, rfl⟩
  · obtain ⟨hz, h⟩ := ite_some h; cases h; exact .inr (.inl ⟨_, _, rfl, rfl, hz, rfl⟩)
  · obtain ⟨hz, h⟩ := ite_some h; cases h; exact .inr (.inr ⟨_, _, rfl, rfl, hz, rfl⟩)
  · cases h
theorem op_mul' : OpD X (binaryOp .Mult) mulD := ⟨_, orR op_mul (orR op_repS (orR op_repT op_rep)), fun T H m x y v u d hm rx ry hf Q k => by
  rcases mulD_some hf with ⟨i, j, rfl, rfl, hc, rfl⟩ | ⟨a, n, rfl, rfl, ⟨h1, h2, h3, h4⟩, rfl⟩ | ⟨a, n, rfl, rfl, ⟨h2, h3, h4⟩, rfl⟩
  · cases rx; cases ry; exact .inl ⟨_, _, rfl, rfl, hc, k.now hm (.int _)⟩
  · obtain ⟨p, xs, rfl, hx, r1⟩ := tup_rep rx
    cases ry
    have hne : xs ≠ [] := fun e => by subst e; cases r1; exact h1 rfl
    by_cases hn : n = 0 ∨ n = 1
    · refine .inr (.inl ⟨p, n, xs, rfl, rfl, hx, fun e => ?_, fun e => ⟨hne, fun z hz => ?_⟩, hn⟩)
      · subst e; rw [show (List.replicate (1 : Int).toNat a).flatten = a from rep_nil a] at k; exact k.now hm rx
      · subst e; exact k.tup hm .nil z hz
    · refine .inr (.inr (.inl ⟨p, n, xs, rfl, rfl, hx, hne, by omega, h4, by rw [← r1.length]; exact h2, fun z hz => k.tup hm (r1.rep _) z hz⟩))
  · cases rx with
    | lst f r1 =>
      cases ry
      refine .inr (.inr (.inr ⟨_, n, _, rfl, rfl, f.2, by omega, by omega, ?_, fun z hz => k.lst hm (r1.rep _) z hz⟩))
      rw [← r1.length, sizeLine_eq]
      have : a.length * n.toNat ≤ 1000 * 1000 := Nat.mul_le_mul h2 (by omega)
      omega⟩
/-- [e] * n as a tracked list -/
def eRepNew (a n : EF) : EF := fun ρ m => bd (a ρ m) fun x m1 => bd (n ρ m1) fun y m2 => match x, y with
  | .lst a, .int k => if a.length ≤ 1000 ∧ 0 ≤ k ∧ k ≤ 1000 then some (.ref m2.length, m2 ++ [.lst (List.replicate k.toNat a).flatten]) else none
  | _, _ => none
theorem de_repNew {a b : Expr} {fa fb : EF} (ha : DE X a fa) (hb : DE X b fb) : DE X (.BinOp a .Mult b pos) (eRepNew fa fb) := by
  obtain ⟨ta, pa, ra⟩ := ha.ex; obtain ⟨tb, pb, rb⟩ := hb.ex
  refine ⟨_, pe_op op_rep pa pb, fun T σ H ρ m d m' hm hs hf Q k => ?_⟩
  obtain ⟨x, m1, e1, hf⟩ := bd_some hf
  obtain ⟨y, m2, e2, hf⟩ := bd_some hf
  refine ra T σ H ρ m x m1 hm hs e1 _ fun v T1 H1 l1 hm1 r1 => ?_
  refine rb T1 σ H1 ρ m1 y _ hm1 (hs.le l1) e2 _ fun u T2 H2 l2 hm2 r2 => ?_
  cases r1.le l2 with
  | @lst p vs a f q1 => cases r2 with
    | int n =>
      obtain ⟨⟨h2, h3, h4⟩, hf⟩ := ite_some hf
      cases hf
      refine ⟨_, n, _, rfl, rfl, f.2, by omega, by omega, ?_, fun z hz => (k.le (l1.trans l2)).newL hm2 (q1.rep _) z hz⟩
      rw [← q1.length, sizeLine_eq]
      have : a.length * n.toNat ≤ 1000 * 1000 := Nat.mul_le_mul h2 (by omega)
      omega
    | _ => cases hf
  | _ => cases hf
end
end L4
namespace L4
open PySem L2
section
variable {X : Cx} {g : G} {T : Tk} {H : Hp} {m : M} {Q : VK} {pos : Pos}
theorem RepL.atI {ds : List D} {vs : List V} {i : Int} {d : D} (r : RepL g T H ds vs) (h : L2.atI ds i = some d) : ∃ v, L2.atI vs i = some v ∧ Rep g T H d v := by
  unfold L2.atI at h ⊢
  obtain ⟨j, h1, h2⟩ := Option.bind_eq_some_iff.mp h
  obtain ⟨v, h3, q⟩ := r.get h2
  rw [← r.length, h1]
  exact ⟨v, h3, q⟩
def ixD (m : M) (x y : D) : Option D := match x, y with
  | .tup ds, .int i => L2.atI ds i
  | .str z, .int i => if z.length ≤ sizeLine then (L2.atI z.cps.toList i).map fun c => .str ⟨#[c]⟩ else none
  | x, .int i => (lstR m x).bind fun ds => L2.atI ds i
  | _, _ => none
theorem ixD_some {m : M} {x y d : D} (h : ixD m x y = some d) : (∃ ds i, x = .tup ds ∧ y = .int i ∧ L2.atI ds i = some d) ∨ (∃ z i c, x = .str z ∧ y = .int i ∧ z.length ≤ sizeLine ∧ L2.atI z.cps.toList i = some c ∧ d = .str ⟨#[c]⟩) ∨ (∃ ds i, lstR m x = some ds ∧ y = .int i ∧ L2.atI ds i = some d) := by
  unfold ixD at h
  split at h
  · exact .inl ⟨_, _, rfl, rfl, h⟩
  · obtain ⟨hz, h⟩ := ite_some h
    obtain ⟨c, h1, h2⟩ := Option.map_eq_some_iff.mp h
    exact .inr (.inl ⟨_, _, c, rfl, rfl, hz, h1, h2.symm⟩)
  · obtain ⟨ds, h1, h2⟩ := Option.bind_eq_some_iff.mp h
    exact .inr (.inr ⟨ds, _, h1, rfl, h2⟩)
  · cases h
theorem ixR_or {r q : R2} (h1 : IxR X r) (h2 : IxR X q) : IxR X (fun x y H Q => r x y H Q ∨ q x y H Q) := by
  intro value slice pins s σ H x y v u Q I rx ry h hs
  rcases h with h | h
  · exact h1 value slice pins s σ H x y v u Q I rx ry h hs
  · exact h2 value slice pins s σ H x y v u Q I rx ry h hs
abbrev OF := Ss → M → Option (Option Int × M)
def RfP (g : G) (t : TO) (f : OF) : Prop := ∀ T σ H ρ m d m', RepH g T H m → RepS g T H σ ρ → f ρ m = some (d, m') → ∀ Q : Option Int → Hp → Prop, (∀ T' H', Le T H T' H' → RepH g T' H' m' → Q d H') → t σ H Q
structure DP (X : Cx) (e : Option Expr) (f : OF) : Prop where
  ex : ∃ t, PO X e t ∧ RfP (gx X) t f
def oNo : OF := fun _ m => some (none, m)
def oYes (a : EF) : OF := fun ρ m => bd (a ρ m) fun x m1 => match x with
  | .int i => some (some i, m1)
  | _ => none
theorem dp_no : DP X none oNo := ⟨_, po_none, fun T σ H ρ m d m' hm hs hf Q k => by cases hf; exact k T H .refl hm⟩
theorem dp_yes {e : Expr} {f : EF} (h : DE X e f) : DP X (some e) (oYes f) := by
  obtain ⟨t, p, r⟩ := h.ex
  refine ⟨_, po_some p, fun T σ H ρ m d m' hm hs hf Q k => ?_⟩
  obtain ⟨x, m1, e1, hf⟩ := bd_some hf
  refine r T σ H ρ m x m1 hm hs e1 _ fun v T1 H1 l1 hm1 r1 => ?_
  cases r1 with
  | int i => cases hf; exact ⟨i, rfl, k T1 H1 l1 hm1⟩
  | _ => cases hf
def cutD {α : Type} (xs : List α) (lo hi : Option Int) : List α := (xs.drop (HT.sIx xs.length 0 lo)).take (HT.sIx xs.length xs.length hi - HT.sIx xs.length 0 lo)
theorem RepL.drop {ds : List D} {vs : List V} (n : Nat) (r : RepL g T H ds vs) : RepL g T H (ds.drop n) (vs.drop n) := by
  induction n generalizing ds vs with
  | zero => exact r
  | succ n ih => cases r with
    | nil => exact .nil
    | cons _ s => exact ih s
theorem RepL.take {ds : List D} {vs : List V} (n : Nat) (r : RepL g T H ds vs) : RepL g T H (ds.take n) (vs.take n) := by
  induction n generalizing ds vs with
  | zero => exact .nil
  | succ n ih => cases r with
    | nil => exact .nil
    | cons q s => exact .cons q (ih s)
theorem RepL.cut {ds : List D} {vs : List V} (r : RepL g T H ds vs) (lo hi : Option Int) : RepL g T H (cutD ds lo hi) (L2.cutV vs lo hi) := by
  unfold cutD L2.cutV
  rw [r.length]
  exact (r.drop _).take _
def slD (m : M) (x : D) (lo hi : Option Int) : Option D := match x with
  | .tup ds => some (.tup (cutD ds lo hi))
  | .str z => if z.length ≤ sizeLine then some (.str (L2.cutS z lo hi)) else none
  | x => (lstR m x).map fun ds => .lst (cutD ds lo hi)
theorem slD_some {m : M} {x d : D} {lo hi : Option Int} (h : slD m x lo hi = some d) : (∃ ds, x = .tup ds ∧ d = .tup (cutD ds lo hi)) ∨ (∃ z, x = .str z ∧ z.length ≤ sizeLine ∧ d = .str (L2.cutS z lo hi)) ∨ (∃ ds, lstR m x = some ds ∧ d = .lst (cutD ds lo hi)) := by
  unfold slD at h
  split at h
  · cases h; exact .inl ⟨_, rfl, rfl⟩
  · obtain ⟨hz, h⟩ := ite_some h; cases h; exact .inr (.inl ⟨_, rfl, hz, rfl⟩)
  · obtain ⟨ds, h1, h2⟩ := Option.map_eq_some_iff.mp h
    exact .inr (.inr ⟨ds, h1, h2.symm⟩)
theorem slR_or {r q : V → Option Int → Option Int → Hp → VK → Prop} (h1 : SlR X r) (h2 : SlR X q) : SlR X (fun x lo hi H Q => r x lo hi H Q ∨ q x lo hi H Q) := by
  intro pins s σ H x v vl vu lo hi sl Q I rx hs pl pu h
  rcases h with h | h
  · exact h1 pins s σ H x v vl vu lo hi sl Q I rx hs pl pu h
  · exact h2 pins s σ H x v vl vu lo hi sl Q I rx hs pl pu h
def eSl (a : EF) (lo hi : OF) : EF := fun ρ m => bd (a ρ m) fun x m1 => bd (lo ρ m1) fun l m2 => bd (hi ρ m2) fun u m3 => pu (slD m3 x l u) m3
theorem whole_cut {α : Type} {xs : List α} {lo hi : Option Int} (h : HT.sIx xs.length 0 lo = 0 ∧ HT.sIx xs.length xs.length hi = xs.length) : cutD xs lo hi = xs := by
  unfold cutD
  rw [h.1, h.2]
  simp
theorem de_sl {e : Expr} {lo hi : Option Expr} {f : EF} {fl fh : OF} {p2 : Pos} (he : DE X e f) (hl : DP X lo fl) (hh : DP X hi fh) : DE X (.Subscript e (.Slice lo hi none p2) pos) (eSl f fl fh) := by
  obtain ⟨t, p, r⟩ := he.ex; obtain ⟨tl, pl, rl⟩ := hl.ex; obtain ⟨th, ph, rh⟩ := hh.ex
  refine ⟨_, pe_slice (slR_or sl_tupA (slR_or sl_str sl_list)) p pl ph, fun T σ H ρ m d m' hm hs hf Q k => ?_⟩
  obtain ⟨x, m1, e1, hf⟩ := bd_some hf
  obtain ⟨a, m2, e2, hf⟩ := bd_some hf
  obtain ⟨b, m3, e3, hf⟩ := bd_some hf
  obtain ⟨e4, rfl⟩ := pu_some hf
  refine r T σ H ρ m x m1 hm hs e1 _ fun v T1 H1 l1 hm1 r1 => ?_
  refine rl T1 σ H1 ρ m1 a m2 hm1 (hs.le l1) e2 _ fun T2 H2 l2 hm2 => ?_
  refine rh T2 σ H2 ρ m2 b _ hm2 (hs.le (l1.trans l2)) e3 _ fun T3 H3 l3 hm3 => ?_
  have k3 := k.le (l1.trans (l2.trans l3))
  have r3 := r1.le (l2.trans l3)
  rcases slD_some e4 with ⟨ds, rfl, rfl⟩ | ⟨z, rfl, hz, rfl⟩ | ⟨ds, h1, rfl⟩
  · obtain ⟨q, vs, rfl, hx, rr⟩ := tup_rep r3
    refine .inl ⟨q, vs, rfl, hx, fun hw => ?_, fun _ z hz => k3.tup hm3 (rr.cut _ _) z hz⟩
    rw [← rr.length] at hw
    rw [whole_cut hw] at k3
    exact k3.now hm3 r3
  · cases r3
    exact .inr (.inl ⟨z, rfl, hz, k3.now hm3 (.str _)⟩)
  · obtain ⟨q, vs, rfl, hx, rr⟩ := lstR_rep hm3 r3 h1
    exact .inr (.inr ⟨q, vs, rfl, hx, fun z hz => k3.lst hm3 (rr.cut _ _) z hz⟩)
mutual
def pd : D → Option PyData
  | .non => some .none
  | .bl b => some (.bool b)
  | .int i => some (.int i)
  | .str x => some (.str x)
  | .tup ds => (pdL ds).map .tuple
  | .lst ds => (pdL ds).map .list
  | .scr ds => (pdL ds).map .list
  | .dic _ _ => none
  | .obj _ _ _ => none
  | .ref _ => none
  | .glo _ => none
  | .ty _ => none
  | .ptp ds => (pdL ds).map .tuple
def pdL : List D → Option (List PyData)
  | [] => some []
  | d :: ds => match pd d, pdL ds with
    | some a, some b => some (a :: b)
    | _, _ => none
end
mutual
theorem pd_rep : ∀ (d : D) {v : V} {a : PyData}, pd d = some a → Rep g T H d v → Dp g.K H v a
  | .non, _, _, h, r => by rw [pd] at h; cases h; cases r; exact .non
  | .bl _, _, _, h, r => by rw [pd] at h; cases h; cases r; exact .bl _
  | .int _, _, _, h, r => by rw [pd] at h; cases h; cases r; exact .int _
  | .str _, _, _, h, r => by rw [pd] at h; cases h; cases r; exact .str _
  | .tup ds, _, _, h, r => by
    rw [pd] at h
    obtain ⟨as, h1, rfl⟩ := Option.map_eq_some_iff.mp h
    cases r with
    | tup f r => exact .tup f.sq (pdL_rep ds h1 r)
  | .lst ds, _, _, h, r => by
    rw [pd] at h
    obtain ⟨as, h1, rfl⟩ := Option.map_eq_some_iff.mp h
    cases r with
    | lst f r => exact .lst f.sq (pdL_rep ds h1 r)
  | .scr ds, _, _, h, r => by
    rw [pd] at h
    obtain ⟨as, h1, rfl⟩ := Option.map_eq_some_iff.mp h
    cases r with
    | scr f r => exact .lst f.sq (pdL_rep ds h1 r)
  | .dic _ _, _, _, h, _ => by rw [pd] at h; cases h
  | .obj _ _ _, _, _, h, _ => by rw [pd] at h; cases h
  | .ref _, _, _, h, _ => by rw [pd] at h; cases h
  | .glo _, _, _, h, _ => by rw [pd] at h; cases h
  | .ty _, _, _, h, _ => by rw [pd] at h; cases h
  | .ptp ds, _, _, h, r => by
    rw [pd] at h
    obtain ⟨as, h1, rfl⟩ := Option.map_eq_some_iff.mp h
    cases r with
    | ptp f r =>
      obtain ⟨_, o, f, _⟩ := f
      exact .tup (.inl (.inr ⟨o, f⟩)) (pdL_rep ds h1 r)
theorem pdL_rep : ∀ (ds : List D) {vs : List V} {as : List PyData}, pdL ds = some as → RepL g T H ds vs → DpAll g.K H vs as
  | [], _, _, h, r => by rw [pdL] at h; cases h; cases r; exact .nil
  | d :: ds, _, _, h, r => by
    rw [pdL] at h
    cases h1 : pd d with
    | none => rw [h1] at h; cases h
    | some a => cases h2 : pdL ds with
      | none => rw [h1, h2] at h; cases h
      | some b =>
        rw [h1, h2] at h
        cases h
        cases r with
        | cons r s => exact .cons (pd_rep d h1 r) (pdL_rep ds h2 s)
end
/-- the plain data of a value, of a tracked list too -/
def pdM (m : M) (d : D) : Option PyData := match (frz m d).bind pd with
  | some a => if SeqAt.shaped a then some a else none
  | none => none
theorem pdM_rep {d : D} {v : V} {a : PyData} (hm : RepH g T H m) (h : pdM m d = some a) (r : Rep g T H d v) : Dp g.K H v a ∧ SeqAt.shaped a = true := by
  unfold pdM at h
  split at h
  · next h1 =>
    obtain ⟨hz, h⟩ := ite_some h
    cases h
    obtain ⟨e, h2, h3⟩ := Option.bind_eq_some_iff.mp h1
    exact ⟨pd_rep e h3 (frz_ok hm (fun a h => (List.not_mem_nil h).elim) (fun a _ h => (List.not_mem_nil h).elim) h2 r), hz⟩
  · cases h
def eqD (m : M) (x y : D) : Option D := match pdM m x, pdM m y with
  | some a, some b => some (.bl (PyData.eqv a b))
  | _, _ => none
def neD (m : M) (x y : D) : Option D := match pdM m x, pdM m y with
  | some a, some b => some (.bl (!PyData.eqv a b))
  | _, _ => none
theorem Gd.u64 {k : Nat} (h : Gd k X) : X.A.units + 65 < cLine := by have := h.r.un; omega
theorem op_eq' {k : Nat} (gd : Gd k X) : OpD X (compareOp .Eq) eqD := ⟨_, op_eqD (by have := gd.u64; omega), fun T H m x y v u d hm rx ry hf Q k => by
  unfold eqD at hf
  split at hf
  · next h1 h2 => cases hf; obtain ⟨d1, s1⟩ := pdM_rep hm h1 rx; obtain ⟨d2, s2⟩ := pdM_rep hm h2 ry; exact ⟨_, _, d1, d2, s1, s2, k.now hm (.bl _)⟩
  · cases hf⟩
theorem op_ne' {k : Nat} (gd : Gd k X) : OpD X (compareOp .NotEq) neD := ⟨_, op_neD (by have := gd.u64; omega), fun T H m x y v u d hm rx ry hf Q k => by
  unfold neD at hf
  split at hf
  · next h1 h2 => cases hf; obtain ⟨d1, s1⟩ := pdM_rep hm h1 rx; obtain ⟨d2, s2⟩ := pdM_rep hm h2 ry; exact ⟨_, _, d1, d2, s1, s2, k.now hm (.bl _)⟩
  · cases hf⟩
def rInT (K : PySem.W.Frag) (b : Bool) : R2 := fun x y H Q => ∃ d ds, Dp K H x d ∧ Dp K H y (.tuple ds) ∧ SeqAt.shaped d = true ∧ SeqAt.shaped (.tuple ds) = true ∧ Q (.bl ((ds.any fun z => PyData.eqv z d) != b)) H
theorem room_t {A : Around} {d : PyData} {ds : List PyData} (sd : SeqAt.shaped d = true) (hu : A.units + 65 < cLine) : A.units + 1 + min (PyData.depthAll ds) d.depth < cLine := by
  have := SeqAt.depth_of_shaped sd
  have h2 : min (PyData.depthAll ds) d.depth ≤ d.depth := Nat.min_le_right _ _
  omega
theorem op_inT (hu : X.A.units + 65 < cLine) : OpR X (compareOp .In) (rInT X.K false) := by
  intro pins s σ H x y v u Q I rx ry h
  obtain ⟨d, ds, hd, he, sd, se, q⟩ := h
  obtain ⟨as, r1⟩ := Dp.reads I d x v hd rx
  obtain ⟨bs, r2⟩ := Dp.reads I (.tuple ds) y u he ry
  rw [Bool.bne_false] at q
  exact SeqAt.in_tuple_reads r2 r1 (SeqAt.canLay_of_shaped se) (SeqAt.canLay_of_shaped sd) (room_t sd hu) ⟨.bl _, H, I, rfl, q⟩
theorem op_ninT (hu : X.A.units + 65 < cLine) : OpR X (compareOp .NotIn) (rInT X.K true) := by
  intro pins s σ H x y v u Q I rx ry h
  obtain ⟨d, ds, hd, he, sd, se, q⟩ := h
  obtain ⟨as, r1⟩ := Dp.reads I d x v hd rx
  obtain ⟨bs, r2⟩ := Dp.reads I (.tuple ds) y u he ry
  rw [Bool.bne_true] at q
  exact SeqAt.notIn_tuple_reads r2 r1 (SeqAt.canLay_of_shaped se) (SeqAt.canLay_of_shaped sd) (room_t sd hu) ⟨.bl _, H, I, rfl, q⟩
/-- x in a text: one sign is looked up by itself -/
def inStr (i j : Str) : Bool := match i.cps.toList with
  | [c] => j.cps.toList.contains c
  | _ => !(Builtin.Str.occurrences j i 0 j.length 1).isEmpty
theorem sign_of {i : Str} {c : Nat} (h : i.cps.toList = [c]) : i = ⟨#[c]⟩ := by
  cases i with
  | mk a => congr 1; exact Array.ext' h
/-- x in a tuple, a list, a text -/
def inB (m : M) (x y : D) : Option Bool := match x, y with
  | .str i, .str j => some (inStr i j)
  | x, y => match pdM m x, pdM m y with
    | some a, some (.tuple ds) => some (ds.any fun z => PyData.eqv z a)
    | some a, some (.list ds) => some (ds.any fun z => PyData.eqv z a)
    | _, _ => none
theorem inB_some {m : M} {x y : D} {b : Bool} (h : inB m x y = some b) : (∃ i j, x = .str i ∧ y = .str j ∧ b = inStr i j) ∨
    (∃ a ds, pdM m x = some a ∧ pdM m y = some (.tuple ds) ∧ b = ds.any fun z => PyData.eqv z a) ∨ (∃ a ds, pdM m x = some a ∧ pdM m y = some (.list ds) ∧ b = ds.any fun z => PyData.eqv z a) := by
  unfold inB at h
  split at h
  · cases h; exact .inl ⟨_, _, rfl, rfl, rfl⟩
  · split at h
    · next h1 h2 => cases h; exact .inr (.inl ⟨_, _, h1, h2, rfl⟩)
    · next h1 h2 => cases h; exact .inr (.inr ⟨_, _, h1, h2, rfl⟩)
    · cases h
def inD (m : M) (x y : D) : Option D := (inB m x y).map .bl
def ninD (m : M) (x y : D) : Option D := (inB m x y).map fun b => .bl (!b)
theorem op_in' {k : Nat} (gd : Gd k X) : OpD X (compareOp .In) inD := ⟨_, orR op_in_sign (orR op_in_str (orR (op_inT gd.u64) (op_inD gd.u64))), fun T H m x y v u d hm rx ry hf Q k => by
  obtain ⟨b, hb, rfl⟩ := Option.map_eq_some_iff.mp hf
  rcases inB_some hb with ⟨i, j, rfl, rfl, rfl⟩ | ⟨a, ds, h1, h2, rfl⟩ | ⟨a, ds, h1, h2, rfl⟩
  · cases rx; cases ry
    unfold inStr at k
    split at k
    · next c hc =>
      refine .inl ⟨c, j, by rw [sign_of hc], rfl, ?_⟩
      have e : decide (c ∈ j.cps.toList) = j.cps.toList.contains c := by simp
      rw [e]
      exact k.now hm (.bl _)
    · exact .inr (.inl ⟨i, j, rfl, rfl, k.now hm (.bl _)⟩)
  · obtain ⟨d1, s1⟩ := pdM_rep hm h1 rx; obtain ⟨d2, s2⟩ := pdM_rep hm h2 ry
    exact .inr (.inr (.inl ⟨a, ds, d1, d2, s1, s2, by rw [Bool.bne_false]; exact k.now hm (.bl _)⟩))
  · obtain ⟨d1, s1⟩ := pdM_rep hm h1 rx; obtain ⟨d2, s2⟩ := pdM_rep hm h2 ry
    exact .inr (.inr (.inr ⟨a, ds, d1, d2, s1, s2, k.now hm (.bl _)⟩))⟩
theorem op_nin' {k : Nat} (gd : Gd k X) : OpD X (compareOp .NotIn) ninD := ⟨_, orR op_notIn_sign (orR op_notin_str (orR (op_ninT gd.u64) (op_notInD gd.u64))), fun T H m x y v u d hm rx ry hf Q k => by
  obtain ⟨b, hb, rfl⟩ := Option.map_eq_some_iff.mp hf
  rcases inB_some hb with ⟨i, j, rfl, rfl, rfl⟩ | ⟨a, ds, h1, h2, rfl⟩ | ⟨a, ds, h1, h2, rfl⟩
  · cases rx; cases ry
    unfold inStr at k
    split at k
    · next c hc =>
      refine .inl ⟨c, j, by rw [sign_of hc], rfl, ?_⟩
      have e : decide (c ∈ j.cps.toList) = j.cps.toList.contains c := by simp
      rw [e]
      exact k.now hm (.bl _)
    · exact .inr (.inl ⟨i, j, rfl, rfl, k.now hm (.bl _)⟩)
  · obtain ⟨d1, s1⟩ := pdM_rep hm h1 rx; obtain ⟨d2, s2⟩ := pdM_rep hm h2 ry
    exact .inr (.inr (.inl ⟨a, ds, d1, d2, s1, s2, by rw [Bool.bne_true]; exact k.now hm (.bl _)⟩))
  · obtain ⟨d1, s1⟩ := pdM_rep hm h1 rx; obtain ⟨d2, s2⟩ := pdM_rep hm h2 ry
    exact .inr (.inr (.inr ⟨a, ds, d1, d2, s1, s2, k.now hm (.bl _)⟩))⟩
end
end L4
namespace L4
open PySem L2
section
variable {X : Cx} {g : G} {T T' : Tk} {H : Hp} {m : M} {Q : VK} {pos : Pos}
mutual
theorem Rep.wk (hμ : T'.μ = T.μ) (hν : ∀ a ∈ T'.ν, a ∈ T.ν) : ∀ (d : D) {v : V}, Rep g T H d v → Rep g T' H d v
  | .non, _, r => by cases r; exact .non
  | .bl _, _, r => by cases r; exact .bl _
  | .int _, _, r => by cases r; exact .int _
  | .str _, _, r => by cases r; exact .str _
  | .glo _, _, r => by cases r; exact .glo _
  | .ty _, _, r => by cases r; exact .ty _
  | .ref _, _, r => by
    cases r with
    | ref h => exact .ref (by rw [hμ]; exact h)
  | .tup ds, _, r => by
    cases r with
    | tup f r =>
      refine .tup ?_ (RepL.wk hμ hν ds r)
      rcases f with ⟨n, f⟩ | f
      · exact .inl ⟨fun z => n (hν _ z), f⟩
      · exact .inr f
  | .lst ds, _, r => by
    cases r with
    | lst f r => exact .lst ⟨fun z => f.1 (hν _ z), f.2⟩ (RepL.wk hμ hν ds r)
  | .scr ds, _, r => by
    cases r with
    | scr f r =>
      refine .scr ?_ (RepL.wk hμ hν ds r)
      rcases f with ⟨n, f⟩ | f
      · exact .inl ⟨fun z => n (hν _ z), f⟩
      · exact .inr f
  | .dic ks vs, _, r => by
    cases r with
    | dicF n f r q => exact .dicF (fun z => n (hν _ z)) f (RepL.wk hμ hν ks r) (RepL.wk hμ hν vs q)
    | dicN n f e r q => exact .dicN (fun z => n (hν _ z)) f e (RepL.wk hμ hν ks r) (RepL.wk hμ hν vs q)
  | .obj c ns vs, _, r => by
    cases r with
    | obj n f e r => exact .obj (fun z => n (hν _ z)) f e (RepL.wk hμ hν vs r)
  | .ptp ds, _, r => by
    cases r with
    | ptp f r => exact .ptp ⟨fun z => f.1 (hν _ z), f.2⟩ (RepL.wk hμ hν ds r)
theorem RepL.wk (hμ : T'.μ = T.μ) (hν : ∀ a ∈ T'.ν, a ∈ T.ν) : ∀ (ds : List D) {vs : List V}, RepL g T H ds vs → RepL g T' H ds vs
  | [], _, r => by cases r; exact .nil
  | d :: ds, _, r => by
    cases r with
    | cons r s => exact .cons (Rep.wk hμ hν d r) (RepL.wk hμ hν ds s)
end
theorem pre_get {α : Type} {xs ys : List α} {n : Nat} {a : α} (h : xs <+: ys) (e : xs[n]? = some a) : ys[n]? = some a := by
  obtain ⟨t, rfl⟩ := h
  rw [List.getElem?_append_left (List.getElem?_eq_some_iff.mp e).1]
  exact e
mutual
theorem Rep.ext (hμ : T.μ <+: T'.μ) (hν : ∀ a ∈ T'.ν, a ∈ T.ν) : ∀ (d : D) {v : V}, Rep g T H d v → Rep g T' H d v
  | .non, _, r => by cases r; exact .non
  | .bl _, _, r => by cases r; exact .bl _
  | .int _, _, r => by cases r; exact .int _
  | .str _, _, r => by cases r; exact .str _
  | .glo _, _, r => by cases r; exact .glo _
  | .ty _, _, r => by cases r; exact .ty _
  | .ref _, _, r => by
    cases r with
    | ref h => exact .ref (pre_get hμ h)
  | .tup ds, _, r => by
    cases r with
    | tup f r =>
      refine .tup ?_ (RepL.ext hμ hν ds r)
      rcases f with ⟨n, f⟩ | f
      · exact .inl ⟨fun z => n (hν _ z), f⟩
      · exact .inr f
  | .lst ds, _, r => by
    cases r with
    | lst f r => exact .lst ⟨fun z => f.1 (hν _ z), f.2⟩ (RepL.ext hμ hν ds r)
  | .scr ds, _, r => by
    cases r with
    | scr f r =>
      refine .scr ?_ (RepL.ext hμ hν ds r)
      rcases f with ⟨n, f⟩ | f
      · exact .inl ⟨fun z => n (hν _ z), f⟩
      · exact .inr f
  | .dic ks vs, _, r => by
    cases r with
    | dicF n f r q => exact .dicF (fun z => n (hν _ z)) f (RepL.ext hμ hν ks r) (RepL.ext hμ hν vs q)
    | dicN n f e r q => exact .dicN (fun z => n (hν _ z)) f e (RepL.ext hμ hν ks r) (RepL.ext hμ hν vs q)
  | .obj c ns vs, _, r => by
    cases r with
    | obj n f e r => exact .obj (fun z => n (hν _ z)) f e (RepL.ext hμ hν vs r)
  | .ptp ds, _, r => by
    cases r with
    | ptp f r => exact .ptp ⟨fun z => f.1 (hν _ z), f.2⟩ (RepL.ext hμ hν ds r)
theorem RepL.ext (hμ : T.μ <+: T'.μ) (hν : ∀ a ∈ T'.ν, a ∈ T.ν) : ∀ (ds : List D) {vs : List V}, RepL g T H ds vs → RepL g T' H ds vs
  | [], _, r => by cases r; exact .nil
  | d :: ds, _, r => by
    cases r with
    | cons r s => exact .cons (Rep.ext hμ hν d r) (RepL.ext hμ hν ds s)
end
/-- a forbidden object changes -/
theorem rd_upd {a p : Addr} {u w : HO} (n : a ∉ T.ν) (hp : p ∈ T.ν) (h : Rd H a u) : Rd (upd H p w) a u := by
  have : a ≠ p := by rintro rfl; exact n hp
  unfold Rd
  rw [upd_ne this]
  exact h
mutual
theorem Rep.upF {p : Addr} {w : HO} (hp : p ∈ T.ν) : ∀ (d : D) {v : V}, Rep g T H d v → Rep g T (upd H p w) d v
  | .non, _, r => by cases r; exact .non
  | .bl _, _, r => by cases r; exact .bl _
  | .int _, _, r => by cases r; exact .int _
  | .str _, _, r => by cases r; exact .str _
  | .glo _, _, r => by cases r; exact .glo _
  | .ty _, _, r => by cases r; exact .ty _
  | .ref _, _, r => by
    cases r with
    | ref h => exact .ref h
  | .tup ds, _, r => by
    cases r with
    | tup f r =>
      refine .tup ?_ (RepL.upF hp ds r)
      rcases f with ⟨n, f⟩ | f
      · exact .inl ⟨n, by unfold Rd; rw [upd_ne (show _ ≠ p by rintro rfl; exact n hp)]; exact f⟩
      · exact .inr f
  | .lst ds, _, r => by
    cases r with
    | lst f r => exact .lst ⟨f.1, by rw [upd_ne (show _ ≠ p by rintro rfl; exact f.1 hp)]; exact f.2⟩ (RepL.upF hp ds r)
  | .scr ds, _, r => by
    cases r with
    | scr f r =>
      refine .scr ?_ (RepL.upF hp ds r)
      rcases f with ⟨n, o, f⟩ | f
      · exact .inl ⟨n, o, by rw [upd_ne (show _ ≠ p by rintro rfl; exact n hp)]; exact f⟩
      · exact .inr f
  | .dic ks vs, _, r => by
    cases r with
    | dicF n f r q => exact .dicF n (rd_upd n hp f) (RepL.upF hp ks r) (RepL.upF hp vs q)
    | dicN n f e r q => exact .dicN n (rd_upd n hp f) e (RepL.upF hp ks r) (RepL.upF hp vs q)
  | .obj c ns vs, _, r => by
    cases r with
    | obj n f e r => exact .obj n (by rw [upd_ne (show _ ≠ p by rintro rfl; exact n hp)]; exact f) e (RepL.upF hp vs r)
  | .ptp ds, _, r => by
    cases r with
    | ptp f r =>
      obtain ⟨n, o, f, e⟩ := f
      exact .ptp ⟨n, o, by rw [upd_ne (show _ ≠ p by rintro rfl; exact n hp)]; exact f, e⟩ (RepL.upF hp ds r)
theorem RepL.upF {p : Addr} {w : HO} (hp : p ∈ T.ν) : ∀ (ds : List D) {vs : List V}, RepL g T H ds vs → RepL g T (upd H p w) ds vs
  | [], _, r => by cases r; exact .nil
  | d :: ds, _, r => by
    cases r with
    | cons r s => exact .cons (Rep.upF hp d r) (RepL.upF hp ds s)
end
theorem RepO.wk (hμ : T'.μ = T.μ) (hν : ∀ a ∈ T'.ν, a ∈ T.ν) {a : Addr} {o : O} (r : RepO g T H a o) : RepO g T' H a o := by
  cases r with
  | lst h r => exact .lst h (RepL.wk hμ hν _ r)
  | dicF h r q => exact .dicF h (RepL.wk hμ hν _ r) (RepL.wk hμ hν _ q)
  | dicN h k r q => exact .dicN h k (RepL.wk hμ hν _ r) (RepL.wk hμ hν _ q)
  | ins h k r => exact .ins h k (RepL.wk hμ hν _ r)
theorem RepO.ext (hμ : T.μ <+: T'.μ) (hν : ∀ a ∈ T'.ν, a ∈ T.ν) {a : Addr} {o : O} (r : RepO g T H a o) : RepO g T' H a o := by
  cases r with
  | lst h r => exact .lst h (RepL.ext hμ hν _ r)
  | dicF h r q => exact .dicF h (RepL.ext hμ hν _ r) (RepL.ext hμ hν _ q)
  | dicN h k r q => exact .dicN h k (RepL.ext hμ hν _ r) (RepL.ext hμ hν _ q)
  | ins h k r => exact .ins h k (RepL.ext hμ hν _ r)
theorem RepO.upF {p : Addr} {w : HO} (hp : p ∈ T.ν) {a : Addr} {o : O} (ha : a ≠ p) (r : RepO g T H a o) : RepO g T (upd H p w) a o := by
  cases r with
  | lst h r => exact .lst (by rw [upd_ne ha]; exact h) (RepL.upF hp _ r)
  | dicF h r q => exact .dicF (by rw [upd_ne ha]; exact h) (RepL.upF hp _ r) (RepL.upF hp _ q)
  | dicN h k r q => exact .dicN (by rw [upd_ne ha]; exact h) k (RepL.upF hp _ r) (RepL.upF hp _ q)
  | ins h k r => exact .ins (by rw [upd_ne ha]; exact h) k (RepL.upF hp _ r)
def Tk.forb (T : Tk) (p : Addr) : Tk := ⟨T.μ, p :: T.ν, fun a h => List.mem_cons_of_mem _ (T.sub a h)⟩
structure Made (g : G) (T : Tk) (H : Hp) (m : M) (p : Addr) (ds : List D) : Prop where
  np : p ∉ T.ν
  hm : RepH g (T.forb p) H m
  at_ : ∃ vs, H p = some (.lst vs) ∧ RepL g (T.forb p) H ds vs
theorem Made.new {p : Addr} (hm : RepH g T H m) (hp : H p = none) : Made g T (upd H p (.lst [])) m p [] ∧ Le T H (T.forb p) (upd H p (.lst [])) := by
  have np : p ∉ T.ν := hm.nope hp
  have l : Le T H (T.forb p) (upd H p (.lst [])) := ⟨List.prefix_rfl, fun a u e _ => by rw [upd_ne (ne_of_none e hp)]; exact e, fun a ha n => by
    rcases List.mem_cons.mp ha with rfl | z
    · exact hp
    · exact absurd z n, fun a ha n => absurd ha n, fun a h => List.mem_cons_of_mem _ h⟩
  refine ⟨⟨np, ⟨hm.len, hm.nd, fun a ha => ?_, fun n a o h1 h2 => (hm.at_ n a o h1 h2).le l ?_⟩, [], upd_same, .nil⟩, l⟩
  · rcases List.mem_cons.mp ha with rfl | z
    · exact ⟨_, upd_same, trivial⟩
    · obtain ⟨u, e, q⟩ := hm.has a z
      exact ⟨u, by rw [upd_ne (ne_of_none e hp)]; exact e, q⟩
  · obtain ⟨v, e, _⟩ := (hm.at_ n a o h1 h2).has
    rw [upd_ne (ne_of_none e hp)]
/-- what came of an evaluation while the list was being made -/
theorem Le.unforb {p : Addr} {T0 T1 : Tk} {H0 H1 : Hp} (l0 : Le T0 H0 T H) (hp0 : H0 p = none) (np : p ∉ T.ν) (hH : ∃ u, H p = some u) (l : Le (T.forb p) H T1 H1) : ∃ T2 : Tk, T2.μ = T1.μ ∧ p ∉ T2.ν ∧ (∀ a, a ∈ (T2.forb p).ν ↔ a ∈ T1.ν) ∧ Le T0 H0 T2 H1 := by
  obtain ⟨u, hu⟩ := hH
  have npμ : p ∉ T1.μ := fun z => by
    have := l.newμ p z (fun y => np (T.sub p y))
    rw [hu] at this
    cases this
  refine ⟨⟨T1.μ, T1.ν.filter (· ≠ p), fun a h => List.mem_filter.mpr ⟨T1.sub a h, by simp; rintro rfl; exact npμ h⟩⟩, rfl, by simp, fun a => ?_, ?_⟩
  · show a ∈ p :: T1.ν.filter (· ≠ p) ↔ _
    by_cases ha : a = p
    · subst ha
      simp
      exact l.up _ (List.mem_cons_self ..)
    · simp [ha]
  · refine ⟨l0.pre.trans l.pre, fun a v h n => ?_, fun a ha n => ?_, fun a ha n => ?_, fun a h => ?_⟩
    · have h1 : a ∉ T.μ := fun z => by rw [l0.newμ a z n] at h; cases h
      exact l.keep a v (l0.keep a v h n) h1
    · obtain ⟨ha, hne⟩ := List.mem_filter.mp ha
      cases e : H0 a with
      | none => rfl
      | some v =>
        have n1 : a ∉ T.ν := l0.out e n
        have := l.new a ha (fun z => by rcases List.mem_cons.mp z with z | z; simp [z] at hne; exact n1 z)
        rw [l0.keep a v e (Tk.out n)] at this
        cases this
    · cases e : H0 a with
      | none => rfl
      | some v =>
        have h1 : a ∉ T.μ := fun z => by rw [l0.newμ a z n] at e; cases e
        have := l.newμ a ha h1
        rw [l0.keep a v e n] at this
        cases this
    · refine List.mem_filter.mpr ⟨l.up a (List.mem_cons_of_mem _ (l0.up a h)), ?_⟩
      have : a ≠ p := by rintro rfl; exact np (l0.up _ h)
      simpa using this
/-- one element more -/
theorem Made.app {p : Addr} {T0 : Tk} {H0 : Hp} {ds : List D} {d : D} {v : V} (l0 : Le T0 H0 T H) (hp0 : H0 p = none) (k : Made g T H m p ds) (r : Rep g (T.forb p) H d v) {vs : List V} (hv : H p = some (.lst vs)) :
    Made g T (upd H p (.lst (vs ++ [v]))) m p (ds ++ [d]) ∧ Le T0 H0 T (upd H p (.lst (vs ++ [v]))) := by
  obtain ⟨np, hm, ws, hw, rl⟩ := k
  rw [hv] at hw
  cases hw
  have hp : p ∈ (T.forb p).ν := List.mem_cons_self ..
  refine ⟨⟨np, ⟨hm.len, hm.nd, fun a ha => ?_, fun n a o h1 h2 => (hm.at_ n a o h1 h2).upF hp ?_⟩, _, upd_same, (RepL.upF hp _ rl).append (.cons (Rep.upF hp _ r) .nil)⟩, ⟨l0.pre, fun a u h n => ?_, l0.new, l0.newμ, l0.up⟩⟩
  · by_cases z : a = p
    · rw [z]; exact ⟨_, upd_same, trivial⟩
    · obtain ⟨u, e, q⟩ := hm.has a ha
      exact ⟨u, by rw [upd_ne z]; exact e, q⟩
  · rintro rfl
    exact np (T.sub _ (List.mem_of_getElem? h1))
  · rw [upd_ne (ne_of_none h hp0)]
    exact l0.keep a u h n
/-- the list is done -/
theorem Made.done {p : Addr} {T0 : Tk} {H0 : Hp} {ds : List D} (l0 : Le T0 H0 T H) (k : Made g T H m p ds) : RepH g T H m ∧ Rep g T H (.lst ds) (.ref p) := by
  obtain ⟨np, hm, ws, hw, rl⟩ := k
  have sub : ∀ a ∈ T.ν, a ∈ (T.forb p).ν := fun a h => List.mem_cons_of_mem _ h
  exact ⟨⟨hm.len, hm.nd, fun a h => hm.has a (sub a h), fun n a o h1 h2 => RepO.wk (T := T.forb p) (T' := T) rfl sub (hm.at_ n a o h1 h2)⟩, .lst ⟨np, hw⟩ (RepL.wk (T := T.forb p) (T' := T) rfl sub _ rl)⟩
theorem Made.step {p : Addr} {T0 T1 : Tk} {H0 H1 : Hp} {ds : List D} {m1 : M} (l0 : Le T0 H0 T H) (hp0 : H0 p = none) (k : Made g T H m p ds) (l : Le (T.forb p) H T1 H1) (hm : RepH g T1 H1 m1) :
    ∃ T2 : Tk, Le T0 H0 T2 H1 ∧ Made g T2 H1 m1 p ds ∧ T2.μ = T1.μ ∧ ∀ a, a ∈ (T2.forb p).ν ↔ a ∈ T1.ν := by
  obtain ⟨np, _, ws, hw, rl⟩ := k
  obtain ⟨T2, e1, e2, e3, l2⟩ := l0.unforb hp0 np ⟨_, hw⟩ l
  refine ⟨T2, l2, ⟨e2, ⟨by rw [← hm.len]; exact congrArg List.length e1, by show T2.μ.Nodup; rw [e1]; exact hm.nd, fun a h => hm.has a ((e3 a).mp h), fun n a o h1 h2 => ?_⟩, ws, l.keep _ _ hw (fun y => np (T.sub p y)), ?_⟩, e1, e3⟩
  · exact RepO.wk (T := T1) (T' := T2.forb p) e1 (fun a h => (e3 a).mp h) (hm.at_ n a o (by rw [← e1]; exact h1) h2)
  · exact RepL.wk (T := T1) (T' := T2.forb p) e1 (fun a h => (e3 a).mp h) _ (rl.le l)
def setMany {α : Type} (σ : List (Option α)) : List Nat → List α → List (Option α)
  | i :: is, v :: vs => setMany (σ.set i (some v)) is vs
  | _, _ => σ
theorem wipe_set {i : Nat} {x : Option V} : ∀ {vs : List Nat} {σ : L2.St}, i ∈ vs → wipe (σ.set i x) vs = wipe σ vs := by
  intro vs
  induction vs with
  | nil => intro σ h; cases h
  | cons v vs ih =>
    intro σ h
    unfold wipe
    by_cases hi : i ∈ vs
    · rw [ih hi]
    · have e : i = v := by rcases List.mem_cons.mp h with z | z; exact z; exact absurd z hi
      subst e
      have key : ∀ (us : List Nat) (τ : L2.St), i ∉ us → wipe (τ.set i x) us = (wipe τ us).set i x := by
        intro us
        induction us with
        | nil => intro τ _; rfl
        | cons u us ih2 =>
          intro τ hu
          unfold wipe
          rw [ih2 τ (fun z => hu (List.mem_cons_of_mem _ z)), List.set_comm _ _ (fun z => hu (by rw [z]; exact List.mem_cons_self ..))]
      rw [key vs σ hi, List.set_set]
theorem wipe_wipe {vs : List Nat} {σ : L2.St} : ∀ us : List Nat, (∀ u ∈ us, u ∈ vs) → wipe (wipe σ us) vs = wipe σ vs
  | [], _ => rfl
  | u :: us, h => by
    show wipe ((wipe σ us).set u none) vs = _
    rw [wipe_set (h u (List.mem_cons_self ..)), wipe_wipe us fun w hw => h w (List.mem_cons_of_mem _ hw)]
theorem wipe_many {vs : List Nat} : ∀ (is : List Nat) (ws : List V) (σ : L2.St), (∀ u ∈ is, u ∈ vs) → wipe (setMany σ is ws) vs = wipe σ vs
  | [], _, _, _ => rfl
  | i :: is, [], _, _ => rfl
  | i :: is, w :: ws, σ, h => by
    show wipe (setMany (σ.set i (some w)) is ws) vs = _
    rw [wipe_many is ws _ fun u hu => h u (List.mem_cons_of_mem _ hu), wipe_set (h i (List.mem_cons_self ..))]
theorem many_len {α : Type} : ∀ (is : List Nat) (ws : List α) (σ : List (Option α)), (setMany σ is ws).length = σ.length
  | [], _, _ => rfl
  | i :: is, [], _ => rfl
  | i :: is, w :: ws, σ => by
    show (setMany (σ.set i (some w)) is ws).length = _
    rw [many_len]
    simp
theorem wipe_other {i : Nat} : ∀ {vs : List Nat} {σ : L2.St}, i ∉ vs → (wipe σ vs)[i]? = σ[i]?
  | [], _, _ => rfl
  | v :: vs, σ, h => by
    show ((wipe σ vs).set v none)[i]? = _
    rw [List.getElem?_set_ne (fun z => h (by rw [z]; exact List.mem_cons_self ..)), wipe_other fun z => h (List.mem_cons_of_mem _ z)]
theorem many_other {α : Type} {i : Nat} : ∀ {is : List Nat} {ws : List α} {σ : List (Option α)}, i ∉ is → (setMany σ is ws)[i]? = σ[i]?
  | [], _, _, _ => rfl
  | j :: is, [], _, _ => rfl
  | j :: is, w :: ws, σ, h => by
    show (setMany (σ.set j (some w)) is ws)[i]? = _
    rw [many_other fun z => h (List.mem_cons_of_mem _ z), List.getElem?_set_ne (fun z => h (by rw [z]; exact List.mem_cons_self ..))]
theorem RepS.many {σ : L2.St} {ρ : Ss} : ∀ {is : List Nat} {ds : List D} {vs : List V}, RepS g T H σ ρ → RepL g T H ds vs → RepS g T H (setMany σ is vs) (setMany ρ is ds)
  | [], _, _, h, _ => h
  | i :: is, _, _, h, .nil => h
  | i :: is, _, _, h, .cons r s => RepS.many (is := is) (RepS.set (i := i) h r) s
/-- the slots that are set are the ones that were wiped -/
theorem many_wiped {is : List Nat} {ds : List D} {vs : List V} {σ : L2.St} {ρ : Ss} (h : RepS g T H σ ρ) (r : RepL g T H ds vs) (hl : is.length = ds.length) : RepS g T H (setMany (wipe σ is) is vs) (setMany ρ is ds) := by
  have h0 : RepS g T H (setMany σ is vs) (setMany ρ is ds) := h.many r
  refine ⟨by rw [many_len, many_len, wipe_length]; exact h.len, fun i d e => ?_⟩
  obtain ⟨v, e1, q⟩ := h0.at_ i d e
  refine ⟨v, ?_, q⟩
  by_cases hi : i ∈ is
  · have key : ∀ (is : List Nat) (vs : List V) (σ τ : L2.St), σ.length = τ.length → is.length = vs.length → i ∈ is → (setMany σ is vs)[i]? = (setMany τ is vs)[i]? := by
      intro is
      induction is with
      | nil => intro vs σ τ _ _ hi; cases hi
      | cons j is ih =>
        intro vs σ τ hl hs hi
        cases vs with
        | nil => cases hs
        | cons w vs =>
          show (setMany (σ.set j (some w)) is vs)[i]? = (setMany (τ.set j (some w)) is vs)[i]?
          by_cases hj : i ∈ is
          · exact ih vs _ _ (by simpa using hl) (by simpa using hs) hj
          · rw [many_other hj, many_other hj]
            rcases List.mem_cons.mp hi with rfl | z
            · by_cases hb : i < σ.length
              · rw [List.getElem?_set_self hb, List.getElem?_set_self (by omega)]
              · rw [List.getElem?_eq_none (by simp; omega), List.getElem?_eq_none (by simp; omega)]
            · exact absurd z hj
    rw [key is vs (wipe σ is) σ (wipe_length _ _) (by rw [hl, r.length]) hi]
    exact e1
  · rw [many_other hi, wipe_other hi]
    rw [many_other hi] at e1
    exact e1
def unpk (n : Nat) (d : D) : Option (List D) := match d with
  | .tup ds => if ds.length = n then some ds else none
  | _ => none
inductive Tgt where
  | one (i : Nat) | many (is : List Nat)
def Tgt.is : Tgt → List Nat
  | .one i => [i]
  | .many is => is
def Tgt.un : Tgt → D → Option (List D)
  | .one _, d => some [d]
  | .many is, d => unpk is.length d
structure DGn (X : Cx) (e : Expr) (t : Tgt) : Prop where
  ex : ∃ tg, PG X e tg ∧ ∀ T σ H d v ds, Rep (gx X) T H d v → t.un d = some ds → ∀ Q, (∀ vs, RepL (gx X) T H ds vs → Q (setMany σ t.is vs) H) → tg v σ H Q
theorem dgn_name {i : Nat} {x : Str} (hN : X.N.Nodup) (hi : X.N[i]? = some x) (hx : Loc X.env.scope x) (hf : X.fn x = true ∨ X.env.scope.names.lookup x = some .local := by first | exact .inl rfl | exact .inr rfl | assumption) : DGn X (.Name x pos) (.one i) :=
  ⟨_, pg_name hN hi hx hf, fun T σ H d v ds r h Q k => by cases h; exact k [v] (.cons r .nil)⟩
structure DGns (X : Cx) (es : List Expr) (is : List Nat) : Prop where
  ex : ∃ tg, PGs X es tg ∧ ∀ vs σ H, vs.length = is.length → ∀ Q, Q (setMany σ is vs) H → tg vs σ H Q
theorem dgns_nil : DGns X [] [] := ⟨_, pgs_nil, fun vs σ H h Q k => ⟨List.eq_nil_of_length_eq_zero h, by cases vs; exact k; cases h⟩⟩
theorem dgns_cons {i : Nat} {x : Str} {es : List Expr} {is : List Nat} (hN : X.N.Nodup) (hi : X.N[i]? = some x) (hx : Loc X.env.scope x) (h2 : DGns X es is) (hf : X.fn x = true ∨ X.env.scope.names.lookup x = some .local := by first | exact .inl rfl | exact .inr rfl | assumption)
    (hs : (assignEach (.Name x pos :: es) X.env).map (·.2) = assign (.Name x pos) X.env :: (assignEach es X.env).map (·.2) := by rfl) : DGns X (.Name x pos :: es) (i :: is) := by
  obtain ⟨tg, pg, rg⟩ := h2.ex
  refine ⟨_, pgs_cons (pg_name hN hi hx hf) pg hs, fun vs σ H h Q k => ?_⟩
  cases vs with
  | nil => cases h
  | cons v vs => exact ⟨v, vs, rfl, rg vs _ H (by simpa using h) Q k⟩
theorem dgn_tup {es : List Expr} {k : Nat} {is : List Nat} (hc : X.calm = true) (h : DGns X es is)
    (hn : (assignEach es X.env).length = is.length := by rfl) (hst : (assignEach es X.env).findIdx? (·.1) = none := by rfl) : DGn X (.Tuple es k pos) (.many is) := by
  obtain ⟨tg, pg, rg⟩ := h.ex
  refine ⟨_, pg_tup hc pg hn hst, fun T σ H d v ds r h Q k => ?_⟩
  change unpk is.length d = some ds at h
  unfold unpk at h
  split at h
  · obtain ⟨hl, h⟩ := ite_some h
    cases h
    obtain ⟨a, vs, rfl, hx, rl⟩ := tup_rep r
    exact ⟨a, vs, rfl, hx, by rw [← rl.length]; exact hl, rg vs σ H (by rw [← rl.length]; exact hl) Q (k vs rl)⟩
  · cases h
/-- as the target of an assignment or a loop -/
def gTgt (t : Tgt) : GF := fun d ρ m => match t.un d with
  | some ds => some (setMany ρ t.is ds, m)
  | none => none
theorem dg_of {e : Expr} {t : Tgt} (h : DGn X e t) : DG X e (gTgt t) := by
  obtain ⟨tg, pg, rg⟩ := h.ex
  refine ⟨_, pg, fun T σ H ρ m d v ρ' m' hm hs r hf Q k => ?_⟩
  unfold gTgt at hf
  split at hf
  · next ds h1 =>
    cases hf
    exact rg T σ H d v ds r h1 Q fun vs rl => k _ T H .refl hm (hs.many rl)
  · cases hf
/-- an object that stood by itself is tracked from now on -/
theorem trackIt {p : Addr} {o : O} {T3 : Tk} (hm : RepH g T H m) (hp : p ∈ T.ν) (np : p ∉ T.μ) (e : T3.μ = T.μ ++ [p]) (e3 : ∀ a ∈ T3.ν, a ∈ T.ν) (ho : RepO g T3 H p o) : RepH g T3 H (m ++ [o]) := by
  have pre : T.μ <+: T3.μ := by rw [e]; exact List.prefix_append _ _
  refine ⟨by rw [e]; simp [hm.len], ?_, fun a ha => hm.has a (e3 a ha), fun n a o' h1 h2 => ?_⟩
  · rw [e]
    exact List.nodup_append.mpr ⟨hm.nd, by simp, fun a ha b hb => by rw [List.mem_singleton.mp hb]; rintro rfl; exact np ha⟩
  · rw [e] at h1
    by_cases hn : n < T.μ.length
    · rw [List.getElem?_append_left hn] at h1
      rw [List.getElem?_append_left (by rw [← hm.len]; exact hn)] at h2
      exact (hm.at_ n a o' h1 h2).ext pre e3
    · rw [List.getElem?_append_right (by omega)] at h1
      rw [List.getElem?_append_right (by rw [← hm.len]; omega), ← hm.len] at h2
      generalize n - T.μ.length = k at h1 h2
      cases k with
      | zero => cases h1; cases h2; exact ho
      | succ k => cases h1
theorem Le.pushed {p : Addr} {T0 : Tk} {H0 : Hp} (l : Le T0 H0 T H) (hp0 : H0 p = none) : Le T0 H0 (T.push p) H := by
  refine ⟨l.pre.trans (List.prefix_append _ _), l.keep, fun a ha n => ?_, fun a ha n => ?_, fun a h => List.mem_append_left _ (l.up a h)⟩
  · rcases List.mem_append.mp ha with z | z
    · exact l.new a z n
    · rw [List.mem_singleton.mp z]; exact hp0
  · rcases List.mem_append.mp ha with z | z
    · exact l.newμ a z n
    · rw [List.mem_singleton.mp z]; exact hp0
theorem forb_push {p a : Addr} : a ∈ (T.push p).ν → a ∈ (T.forb p).ν := fun h => by
  rcases List.mem_append.mp h with z | z
  · exact List.mem_cons_of_mem _ z
  · rw [List.mem_singleton.mp z]; exact List.mem_cons_self ..
theorem Made.track {p : Addr} {T0 : Tk} {H0 : Hp} {ds : List D} (l0 : Le T0 H0 T H) (hp0 : H0 p = none) (k : Made g T H m p ds) : Le T0 H0 (T.push p) H ∧ RepH g (T.push p) H (m ++ [.lst ds]) ∧ Rep g (T.push p) H (.ref m.length) (.ref p) := by
  obtain ⟨np, hm, ws, hw, rl⟩ := k
  have sub : ∀ a ∈ (T.push p).ν, a ∈ (T.forb p).ν := fun a h => forb_push h
  have l : T.μ.length = m.length := hm.len
  refine ⟨l0.pushed hp0, trackIt (T := T.forb p) hm (List.mem_cons_self ..) (fun z => np (T.sub p z)) rfl sub (.lst hw (RepL.ext (T := T.forb p) (List.prefix_append _ _) sub _ rl)), .ref ?_⟩
  show (T.μ ++ [p])[m.length]? = some p
  rw [← l, List.getElem?_append_right (Nat.le_refl _)]
  simp
def compGo (t : Tgt) (c : TF) (e : EF) (ρ : Ss) : List D → M → Option (List D × M)
  | [], m => some ([], m)
  | x :: xs, m => match t.un x with
    | some ds => bd (c (setMany ρ t.is ds) m) fun b m1 => if b then bd (e (setMany ρ t.is ds) m1) fun y m2 => bd (compGo t c e ρ xs m2) fun ys m3 => some (y :: ys, m3) else compGo t c e ρ xs m1
    | none => none
def eLcK (nw : Bool) (it : AF) (t : Tgt) (c : TF) (e : EF) : EF := fun ρ m => bd (it ρ m) fun xs m1 => if xs.length ≤ 1000000 then bd (compGo t c e ρ xs m1) fun ys m2 => some (bif nw then (.ref m2.length, m2 ++ [.lst ys]) else (.lst ys, m2)) else none
theorem Tgt.un_len {t : Tgt} {d : D} {ds : List D} (h : t.un d = some ds) : t.is.length = ds.length := by
  cases t with
  | one i => cases h; rfl
  | many is =>
    change unpk is.length d = some ds at h
    unfold unpk at h
    split at h
    · obtain ⟨hl, h⟩ := ite_some h; cases h; exact hl.symm
    · cases h
theorem rf_lc {wi : TI} {it : AF} {t : Tgt} {tg : TG} {tt : TT} {te : TE} {c : TF} {e : EF} (hi : RfI g wi it) (hg : ∀ T σ H d v ds, Rep g T H d v → t.un d = some ds → ∀ Q, (∀ vs, RepL g T H ds vs → Q (setMany σ t.is vs) H) → tg v σ H Q)
    (hc : RfT g tt c) (he : RfE g te e) {is : List Nat} (his : is = t.is) {nw : Bool} : RfE g (tLc wi tg tt te is) (eLcK nw it t c e) := by
  subst his
  intro T σ H ρ m d m' hm hs hf Q k
  obtain ⟨xs, m1, e1, hf⟩ := bd_some hf
  obtain ⟨hz, hf⟩ := ite_some hf
  obtain ⟨ys, mz, e2, hf⟩ := bd_some hf
  have hf := Option.some.inj hf
  refine hi T σ H ρ m xs m1 hm hs e1 _ fun J T0 H0 l0 hm0 ok p hp => ?_
  have hs0 := hs.le l0
  obtain ⟨md, lf⟩ := Made.new hm0 hp
  have start : Le T0 H0 T0 (upd H0 p (.lst [])) := ⟨List.prefix_rfl, fun a u e _ => by rw [upd_ne (ne_of_none e hp)]; exact e, fun a h n => absurd h n, fun a h n => absurd h n, fun a h => h⟩
  refine ⟨fun i j H1 => i + j = xs.length ∧ ∃ T1 m1 ds rest, Le T0 H0 T1 H1 ∧ Made g T1 H1 m1 p ds ∧ ds.length ≤ i ∧ RepS g (T1.forb p) H1 σ ρ ∧ compGo t c e ρ (xs.drop i) m1 = some (rest, mz) ∧ ys = ds ++ rest, ⟨xs.length, by simp, T0, m1, [], ys, start, md, Nat.le_refl _, hs0.le lf, by simpa using e2, rfl⟩, ?_⟩
  rintro i j H1 ⟨hij, T1, m1', ds, rest, l1, md1, hdl, hs1, hf1, hy⟩
  obtain ⟨vs1, hv1, rl1⟩ := md1.at_
  have okT : ItOk g (T1.forb p) H1 J xs := fun T2 H2 l2 mm hmm => ok (⟨T2.μ, T2.ν, T2.sub⟩) H2 (by
    refine ⟨l1.pre.trans l2.pre, fun a u h n => l2.keep a u (l1.keep a u h n) fun z => ?_, fun a ha n => ?_, fun a ha n => ?_, fun a h => l2.up a (List.mem_cons_of_mem _ (l1.up a h))⟩
    · rw [l1.newμ a z n] at h; cases h
    · cases e : H0 a with
      | none => rfl
      | some u =>
        have n1 : a ∉ (T1.forb p).ν := fun z => by
          rcases List.mem_cons.mp z with rfl | z
          · rw [hp] at e; cases e
          · exact l1.out e n z
        have := l2.new a ha n1
        rw [l1.keep a u e (Tk.out n)] at this
        cases this
    · cases e : H0 a with
      | none => rfl
      | some u =>
        have n1 : a ∉ T1.μ := fun z => by rw [l1.newμ a z n] at e; cases e
        have := l2.newμ a ha n1
        rw [l1.keep a u e n] at this
        cases this) mm hmm
  obtain ⟨okG, okS⟩ := okT (T1.forb p) H1 .refl m1' md1.hm i
  cases j with
  | zero =>
    left
    rw [List.drop_of_length_le (by omega)] at hf1
    cases hf1
    rw [List.append_nil] at hy
    subst hy
    refine ⟨okS (by omega), ?_⟩
    cases nw with
    | false =>
      cases hf
      obtain ⟨hmd, rd⟩ := md1.done l1
      exact k _ T1 H1 (l0.trans l1) hmd rd
    | true =>
      cases hf
      obtain ⟨l3, hmd, rd⟩ := md1.track l1 hp
      exact k _ _ H1 (l0.trans l3) hmd rd
  | succ j =>
    right
    have hi' : i < xs.length := by omega
    rw [List.drop_eq_getElem_cons hi'] at hf1
    obtain ⟨go, yl⟩ := okG xs[i] (List.getElem?_eq_getElem hi')
    refine ⟨go, _, fun _ q => q, fun x H2 y2 => ?_⟩
    obtain ⟨T2, l2, hm2, r2⟩ := yl x H2 y2
    unfold compGo at hf1
    split at hf1
    · next es hes =>
      obtain ⟨b, m3, e3, hf3⟩ := bd_some hf1
      refine hg T2 (wipe σ t.is) H2 xs[i] x es r2 hes _ fun vs rv => ⟨?_, ?_⟩
      · rw [wipe_many t.is vs _ fun u hu => hu, wipe_wipe t.is fun u hu => hu]
      · have hs2 : RepS g T2 H2 (setMany (wipe σ t.is) t.is vs) (setMany ρ t.is es) := many_wiped (hs1.le l2) rv (Tgt.un_len hes)
        refine hc T2 _ H2 _ m1' b m3 hm2 hs2 e3 _ fun T3 H3 l3 hm3 => ?_
        cases b with
        | false =>
          obtain ⟨T4, l4, md4, e4, e5⟩ := md1.step l1 hp (l2.trans l3) hm3
          exact ⟨j, Nat.lt_succ_self _, by omega, T4, m3, ds, rest, l4, md4, by omega, ⟨hs1.len, fun q d hq => by
            obtain ⟨v, h1, h2⟩ := (hs1.le (l2.trans l3)).at_ q d hq
            exact ⟨v, h1, Rep.wk (T' := T4.forb p) e4 (fun a h => (e5 a).mp h) _ h2⟩⟩, hf3, hy⟩
        | true =>
          obtain ⟨y, m4, e6, hf4⟩ := bd_some hf3
          obtain ⟨ys', m5, e7, hf5⟩ := bd_some hf4
          cases hf5
          refine he T3 _ H3 _ m3 y m4 hm3 (hs2.le l3) e6 _ fun v T4 H4 l4 hm4 r4 => ?_
          obtain ⟨T5, l5, md5, e8, e9⟩ := md1.step l1 hp (l2.trans (l3.trans l4)) hm4
          obtain ⟨vs5, hv5, _⟩ := md5.at_
          have r5 : Rep g (T5.forb p) H4 y v := Rep.wk (T' := T5.forb p) e8 (fun a h => (e9 a).mp h) _ r4
          obtain ⟨md6, l6⟩ := md5.app l5 hp r5 hv5
          have hl5 : vs5.length = ds.length := by
            obtain ⟨w, hw, q⟩ := md5.at_
            rw [hv5] at hw
            cases hw
            exact q.length.symm
          refine ⟨vs5, hv5, ?_, j, Nat.lt_succ_self _, by omega, T5, m4, ds ++ [y], ys', l6, md6, by simp; omega, ⟨hs1.len, fun q d hq => ?_⟩, e7, by rw [hy]; simp⟩
          · rw [hl5, sizeLine_eq]; omega
          · obtain ⟨w, h1, h2⟩ := (hs1.le (l2.trans (l3.trans l4))).at_ q d hq
            exact ⟨w, h1, Rep.upF (List.mem_cons_self ..) _ (Rep.wk (T' := T5.forb p) e8 (fun a h => (e9 a).mp h) _ h2)⟩
    · cases hf1
end
end L4
namespace L4
open PySem L2
section
variable {X : Cx} {g : G} {T T' : Tk} {H : Hp} {m : M} {Q : VK} {pos : Pos}
structure DTs (X : Cx) (ifs : List Expr) (f : TF) : Prop where
  ex : ∃ t, PTs X ifs t ∧ RfT (gx X) t f
def tTrue : TF := fun _ m => some (true, m)
theorem dts_nil : DTs X [] tTrue := ⟨_, pts_nil, fun T σ H ρ m b m' hm hs hf Q k => by cases hf; exact k T H .refl hm⟩
theorem dts_one {c : Expr} {f : TF} (h : DT X c f) : DTs X [c] f := by
  obtain ⟨t, p, r⟩ := h.ex
  exact ⟨_, pts_one p, r⟩
theorem de_lc {nw : Bool} {elt tg iter : Expr} {ifs : List Expr} {scope : Scope} {own : List (Str × Nat)} {fi : AF} {t : Tgt} {fc : TF} {fe : EF} (hc : X.calm = true) (hN : X.N.Nodup) (hi : DI X tg iter fi) (ok : BlkOk X.N X.env.scope scope own)
    (hg : ∀ (s : Shared) (H : Hp) (C : Addr) (cl : List (Str × Addr)) (fp : List Addr), DGn (X.blk s H scope (compEnvC scope cl C X.env) fp) tg t) (ht : ∀ (s : Shared) (H : Hp) (C : Addr) (cl : List (Str × Addr)) (fp : List Addr), DTs (X.blk s H scope (compEnvC scope cl C X.env) fp) ifs fc)
    (he : ∀ (s : Shared) (H : Hp) (C : Addr) (cl : List (Str × Addr)) (fp : List Addr), DE (X.blk s H scope (compEnvC scope cl C X.env) fp) elt fe) (hq : own.map (·.2) = t.is := by rfl) (hs : ∀ x, foldedSetIterable iter X.env x = pure x := by intro _; rfl) :
    DE X (.ListComp elt [⟨tg, iter, ifs, 0⟩] scope pos) (eLcK nw fi t fc fe) := by
  obtain ⟨ti, pi, ri⟩ := hi.ex
  refine ⟨_, pe_lc (g := fun v σ H Q => ∀ s H' C cl fp, ∃ t, PG (X.blk s H' scope (compEnvC scope cl C X.env) fp) tg t ∧ t v σ H Q) (tt := fun σ H Q => ∀ s H' C cl fp, ∃ t, PTs (X.blk s H' scope (compEnvC scope cl C X.env) fp) ifs t ∧ t σ H Q)
    (te := fun σ H Q => ∀ s H' C cl fp, ∃ t, PE (X.blk s H' scope (compEnvC scope cl C X.env) fp) elt t ∧ t σ H Q) hc hN pi ok (fun s H C cl fp => ⟨fun pins s1 σ H1 v u Q I r h => ?_⟩) (fun s H C cl fp => ⟨fun pins s1 σ H1 Q I h => ?_⟩) (fun s H C cl fp => ⟨fun pins s1 σ H1 Q I h => ?_⟩) hs, ?_⟩
  · obtain ⟨t, p, q⟩ := h s H C cl fp
    exact p.run pins s1 σ H1 v u Q I r q
  · obtain ⟨t, p, q⟩ := h s H C cl fp
    exact p.run pins s1 σ H1 Q I q
  · obtain ⟨t, p, q⟩ := h s H C cl fp
    exact p.run pins s1 σ H1 Q I q
  · refine rf_lc ri ?_ ?_ ?_ hq
    · intro T σ H d v ds r hu Q k s H' C cl fp
      obtain ⟨t, p, q⟩ := (hg s H' C cl fp).ex
      exact ⟨t, p, q T σ H d v ds r hu Q k⟩
    · intro T σ H ρ m b m' hm hs hf Q k s H' C cl fp
      obtain ⟨t, p, q⟩ := (ht s H' C cl fp).ex
      exact ⟨t, p, q T σ H ρ m b m' hm hs hf Q k⟩
    · intro T σ H ρ m b m' hm hs hf Q k s H' C cl fp
      obtain ⟨t, p, q⟩ := (he s H' C cl fp).ex
      exact ⟨t, p, q T σ H ρ m b m' hm hs hf Q k⟩
theorem ds_setLc {nw : Bool} {i : Nat} {y : Str} {py : Pos} {elt tg iter : Expr} {ifs : List Expr} {scope : Scope} {own : List (Str × Nat)} {spos : Pos} {fi : AF} {t : Tgt} {fc : TF} {fe : EF} (hc : X.calm = true) (hN : X.N.Nodup) (hy : X.N[i]? = some y) (hyl : X.env.scope.names.lookup y = some .local)
    (hsw : swapsWith (.ListComp elt [⟨tg, iter, ifs, 0⟩] scope pos) (some (.Name y py)) spos.line X.env = pure true) (hi : DI X tg iter fi) (ok : BlkOk X.N X.env.scope scope own)
    (hg : ∀ (s : Shared) (H : Hp) (C : Addr) (cl : List (Str × Addr)) (fp : List Addr), DGn (X.blk s H scope (compEnvC scope cl C X.env) fp) tg t) (ht : ∀ (s : Shared) (H : Hp) (C : Addr) (cl : List (Str × Addr)) (fp : List Addr), DTs (X.blk s H scope (compEnvC scope cl C X.env) fp) ifs fc)
    (he : ∀ (s : Shared) (H : Hp) (C : Addr) (cl : List (Str × Addr)) (fp : List Addr), DE (X.blk s H scope (compEnvC scope cl C X.env) fp) elt fe) (hq : own.map (·.2) = t.is := by rfl) (hs : ∀ x, foldedSetIterable iter X.env x = pure x := by intro _; rfl) :
    DS X (.Assign [.Name y py] (.ListComp elt [⟨tg, iter, ifs, 0⟩] scope pos) spos) (sAsg (eLcK nw fi t fc fe) (gNm i)) := by
  obtain ⟨ti, pi, ri⟩ := hi.ex
  refine ⟨_, ps_setLc (g := fun v σ H Q => ∀ s H' C cl fp, ∃ t, PG (X.blk s H' scope (compEnvC scope cl C X.env) fp) tg t ∧ t v σ H Q) (tt := fun σ H Q => ∀ s H' C cl fp, ∃ t, PTs (X.blk s H' scope (compEnvC scope cl C X.env) fp) ifs t ∧ t σ H Q)
    (te := fun σ H Q => ∀ s H' C cl fp, ∃ t, PE (X.blk s H' scope (compEnvC scope cl C X.env) fp) elt t ∧ t σ H Q) hc hN hy hyl hsw pi ok (fun s H C cl fp => ⟨fun pins s1 σ H1 v u Q I r h => ?_⟩) (fun s H C cl fp => ⟨fun pins s1 σ H1 Q I h => ?_⟩) (fun s H C cl fp => ⟨fun pins s1 σ H1 Q I h => ?_⟩) hs, rf_asg ?_ ?_⟩
  · obtain ⟨t, p, q⟩ := h s H C cl fp
    exact p.run pins s1 σ H1 v u Q I r q
  · obtain ⟨t, p, q⟩ := h s H C cl fp
    exact p.run pins s1 σ H1 Q I q
  · obtain ⟨t, p, q⟩ := h s H C cl fp
    exact p.run pins s1 σ H1 Q I q
  · refine rf_lc ri ?_ ?_ ?_ hq
    · intro T σ H d v ds r hu Q k s H' C cl fp
      obtain ⟨t, p, q⟩ := (hg s H' C cl fp).ex
      exact ⟨t, p, q T σ H d v ds r hu Q k⟩
    · intro T σ H ρ m b m' hm hs hf Q k s H' C cl fp
      obtain ⟨t, p, q⟩ := (ht s H' C cl fp).ex
      exact ⟨t, p, q T σ H ρ m b m' hm hs hf Q k⟩
    · intro T σ H ρ m b m' hm hs hf Q k s H' C cl fp
      obtain ⟨t, p, q⟩ := (he s H' C cl fp).ex
      exact ⟨t, p, q T σ H ρ m b m' hm hs hf Q k⟩
  · exact fun T σ H ρ m d v ρ' m' hm hs r hf Q k => by cases hf; exact k _ T H .refl hm (hs.set r)
def iAny (K : PySem.W.Frag) (te : TE) : TI := fun σ H R => te σ H fun v H1 => (∃ a, v = .ref a ∧ (∃ xs, SqL K H1 a xs) ∧ R (Itl K a) H1) ∨ (∃ a, v = .ref a ∧ (∃ xs, SqT K H1 a xs) ∧ R (Itt K a) H1) ∨ ∃ x, v = .str x ∧ R (Its x) H1
theorem pi_any {tg e : Expr} {te : TE} (he : PE X e te) : PI X tg e (iAny X.K te) := by
  refine ⟨fun pins s σ H R I h => ?_⟩
  refine thn (he.run pins s σ H _ I h) fun v s1 ⟨y, H1, I1, r1, hq⟩ => ?_
  rcases hq with ⟨a, rfl, ⟨xs, hx⟩, q⟩ | ⟨a, rfl, ⟨xs, hx⟩, q⟩ | ⟨x, rfl, q⟩
  · cases r1
    obtain ⟨its, rv, p, hz⟩ := I1.list hx
    exact wpAny_pyIter_list p.isList (pi_one (tk := s1.toks) I1 _ (turn_list a _) ⟨_, Heap.get?_push_size _ rfl, rfl, rfl⟩ q)
  · cases r1
    obtain ⟨its, rv, p, hz⟩ := I1.tuple hx
    exact wpAny_pyIter_tuple (show s1.heap.IsTuple a its.toArray from p) (pi_one (tk := s1.toks) I1 _ (turn_tuple a _) ⟨_, Heap.get?_push_size _ rfl, rfl, rfl⟩ q)
  · obtain ⟨t, rfl⟩ := r1
    cases ha : x.cps.all (· < 128)
    · exact wpAny_pyIter_wide ha (pi_one (tk := s1.toks) I1 _ (turn_str _ x t "str_iterator" (.inr rfl)) ⟨_, Heap.get?_push_size _ rfl, rfl, rfl⟩ q)
    · exact wpAny_pyIter_ascii ha (pi_one (tk := s1.toks) I1 _ (turn_str _ x t "str_ascii_iterator" (.inl rfl)) ⟨_, Heap.get?_push_size _ rfl, rfl, rfl⟩ q)
theorem RepL.none {ds : List D} {vs : List V} {i : Nat} (r : RepL g T H ds vs) (h : ds.length ≤ i) : vs.length ≤ i := by rw [← r.length]; exact h
theorem itok_L {a : Addr} {ds : List D} (h : ∀ T1 H1, Le T H T1 H1 → ∃ vs, SqL g.K H1 a vs ∧ RepL g T1 H1 ds vs) : ItOk g T H (Itl g.K a) ds := by
  intro T1 H1 l m1 hm1 i
  obtain ⟨vs, hx, r⟩ := h T1 H1 l
  refine ⟨fun d hd => ?_, fun hl => ⟨vs, hx, r.none (Nat.le_of_eq hl)⟩⟩
  obtain ⟨v, hv, q⟩ := r.get hd
  refine ⟨⟨vs, v, hx, hv⟩, fun x H2 ⟨e, hy⟩ => ?_⟩
  subst e
  have := hy vs hx
  rw [hv] at this
  cases this
  exact ⟨T1, .refl, hm1, q⟩
theorem itok_T {a : Addr} {ds : List D} (h : ∀ T1 H1, Le T H T1 H1 → ∃ vs, SqT g.K H1 a vs ∧ RepL g T1 H1 ds vs) : ItOk g T H (Itt g.K a) ds := by
  intro T1 H1 l m1 hm1 i
  obtain ⟨vs, hx, r⟩ := h T1 H1 l
  refine ⟨fun d hd => ?_, fun hl => ⟨vs, hx, r.none (Nat.le_of_eq hl)⟩⟩
  obtain ⟨v, hv, q⟩ := r.get hd
  refine ⟨⟨vs, v, hx, hv⟩, fun x H2 ⟨e, hy⟩ => ?_⟩
  subst e
  have := hy vs hx
  rw [hv] at this
  cases this
  exact ⟨T1, .refl, hm1, q⟩
theorem itok_S {x : Str} : ItOk g T H (Its x) (x.cps.toList.map fun c => .str ⟨#[c]⟩) := by
  intro T1 H1 l m1 hm1 i
  refine ⟨fun d hd => ?_, fun hl => by show x.cps.size ≤ i; have := Nat.le_of_eq hl; simpa using this⟩
  rw [List.getElem?_map] at hd
  obtain ⟨c, hc, rfl⟩ := Option.map_eq_some_iff.mp hd
  have hc' : x.cps[i]? = some c := by simpa using hc
  refine ⟨(Array.getElem?_eq_some_iff.mp hc').1, fun y H2 ⟨e, c', h1, h2⟩ => ?_⟩
  subst e h2
  rw [hc'] at h1
  cases h1
  exact ⟨T1, .refl, hm1, .str _⟩
theorem itok_R {lo : Int} {n : Nat} : ItOk g T H (Itr lo n) ((List.range n).map fun (i : Nat) => .int (lo + i)) := by
  intro T1 H1 l m1 hm1 i
  refine ⟨fun d hd => ?_, fun hl => by show n ≤ i; have := Nat.le_of_eq hl; simpa using this⟩
  rw [List.getElem?_map] at hd
  obtain ⟨c, hc, rfl⟩ := Option.map_eq_some_iff.mp hd
  obtain ⟨h1, h2⟩ := List.getElem?_eq_some_iff.mp hc
  simp at h1 h2
  subst h2
  refine ⟨h1, fun y H2 ⟨e, h2⟩ => ?_⟩
  subst e h2
  exact ⟨T1, .refl, hm1, .int _⟩
/-- the items of what is walked: nothing that is tracked -/
def items : D → Option (List D)
  | .tup ds => some ds
  | .lst ds => some ds
  | .scr ds => some ds
  | .str x => some (x.cps.toList.map fun c => .str ⟨#[c]⟩)
  | _ => none
def iIt (a : EF) : AF := fun ρ m => bd (a ρ m) fun x m1 => pu (items x) m1
theorem di_any {tg e : Expr} {f : EF} (h : DE X e f) : DI X tg e (iIt f) := by
  obtain ⟨t, p, r⟩ := h.ex
  refine ⟨_, pi_any p, fun T σ H ρ m ds m' hm hs hf R k => ?_⟩
  obtain ⟨x, m1, e1, hf⟩ := bd_some hf
  obtain ⟨e2, rfl⟩ := pu_some hf
  refine r T σ H ρ m x _ hm hs e1 _ fun v T1 H1 l1 hm1 r1 => ?_
  cases r1 with
  | tup f q => cases e2; exact .inr (.inl ⟨_, rfl, ⟨_, f.sq⟩, k _ T1 H1 l1 hm1 (itok_T fun T2 H2 l => ⟨_, (f.le l).sq, q.le l⟩)⟩)
  | lst f q => cases e2; exact .inl ⟨_, rfl, ⟨_, f.sq⟩, k _ T1 H1 l1 hm1 (itok_L fun T2 H2 l => ⟨_, (f.le l).sq, q.le l⟩)⟩
  | scr f q => cases e2; exact .inl ⟨_, rfl, ⟨_, f.sq⟩, k _ T1 H1 l1 hm1 (itok_L fun T2 H2 l => ⟨_, (f.le l).sq, q.le l⟩)⟩
  | str x => cases e2; exact .inr (.inr ⟨_, rfl, k _ T1 H1 l1 hm1 itok_S⟩)
  | _ => cases e2
def rngD (lo : Int) (n : Nat) : List D := (List.range n).map fun (i : Nat) => .int (lo + i)
def iR1 (a : AF) : AF := fun ρ m => bd (a ρ m) fun xs m1 => match xs with
  | [.int j] => if -(2 ^ 62) ≤ j ∧ j < 2 ^ 62 then some (rngD 0 j.toNat, m1) else none
  | _ => none
theorem di_range1 {tg a : Expr} {f : AF} {p : Pos} (hg : Gl X "range") (hm : X.mg "range" = none) (ha : DA X [a] f) (hs : starEach [a] X.env = [(false, eval a X.env)] := by rfl) : DI X tg (.Call (.Name "range" p) [a] [] pos) (iR1 f) := by
  obtain ⟨t, pa, r⟩ := ha.ex
  refine ⟨_, pi_range1 hg hm pa hs, fun T σ H ρ m ds m' hm hs hf R k => ?_⟩
  obtain ⟨x, m1, e1, hf⟩ := bd_some hf
  refine r T σ H ρ m x _ hm hs e1 _ fun v T1 H1 l1 hm1 r1 => ?_
  split at hf
  · obtain ⟨⟨h1, h2⟩, hf⟩ := ite_some hf
    cases hf
    cases r1 with
    | cons a b => cases a; cases b; exact ⟨_, rfl, h1, h2, k _ T1 H1 l1 hm1 itok_R⟩
  · cases hf
end
end L4
namespace L4
open PySem L2
structure PFn (P : Program) (w : World) (K : PySem.W.Frag) (mg : Str → Option Value) (base : Heap) (k : Nat) (x : Str) (n : Nat) (F : List D → Option D) : Prop where
  len : ∀ ds d, F ds = some d → ds.length = n
  ex : ∃ f fd ps, FnG P w K mg base CX0 k f fd ps (spP ⟨P, w, K⟩ n F) ∧ mg x = some (.ref f) ∧ PySem.W.keepIn K (.ref f) = true ∧ Binds K fd ps []
structure MFn (P : Program) (w : World) (K : PySem.W.Frag) (mg : Str → Option Value) (base : Heap) (k : Nat) (x : Str) (n : Nat) (F : List D → M → Option (D × M)) : Prop where
  len : ∀ ds m r, F ds m = some r → ds.length = n
  ex : ∃ f fd ps, FnG P w K mg base CX0 k f fd ps (spM ⟨P, w, K⟩ n F) ∧ mg x = some (.ref f) ∧ PySem.W.keepIn K (.ref f) = true ∧ Binds K fd ps []
/-- a method -/
structure PMt (P : Program) (w : World) (K : PySem.W.Frag) (mg : Str → Option Value) (base : Heap) (k : Nat) (c m : Str) (n : Nat) (F : List D → Option D) : Prop where
  len : ∀ ds d, F ds = some d → ds.length = n
  cl : Cls K (He.ga K c)
  ex : ∃ f fd ps, FnG P w K mg base CX0 k f fd ps (spP ⟨P, w, K⟩ n F) ∧ Meth K (He.ga K c) m f ∧ Binds K fd ps []
structure MMt (P : Program) (w : World) (K : PySem.W.Frag) (mg : Str → Option Value) (base : Heap) (k : Nat) (c m : Str) (n : Nat) (F : List D → M → Option (D × M)) : Prop where
  len : ∀ ds m r, F ds m = some r → ds.length = n
  cl : Cls K (He.ga K c)
  ex : ∃ f fd ps, FnG P w K mg base CX0 k f fd ps (spM ⟨P, w, K⟩ n F) ∧ Meth K (He.ga K c) m f ∧ Binds K fd ps []
/-- a class with its __init__ -/
structure MNw (P : Program) (w : World) (K : PySem.W.Frag) (mg : Str → Option Value) (base : Heap) (k : Nat) (c : Str) (n : Nat) (F : List D → M → Option (D × M)) : Prop where
  len : ∀ ds m r, F ds m = some r → ds.length = n
  mgC : mg c = some (.ref (He.ga K c))
  ex : ∃ f fd ps, FnG P w K mg base CX0 k f fd ps (spM ⟨P, w, K⟩ n F) ∧ Mk K (He.ga K c) f ∧ Binds K fd ps []
section
variable {P : Program} {w : World} {K : PySem.W.Frag} {mg : Str → Option Value} {base : Heap} {k : Nat} {x q m c : Str} {ps N : List Str} {st : Stmt} {b : SF}
theorem fnG_all {f : Addr} {fd : FuncData} {sp : Sp} (F : Fun K x q st f fd) (S : FnScope N ps (defScope st)) (len : ∀ vs H Q E, sp vs H Q E → vs.length = ps.length)
    (hrun : ∀ {t : TS}, RfS ⟨P, w, K⟩ t b → ∀ {vs : List V} {H : Hp} {Q : VK} {E : XK}, sp vs H Q E → t { nx := fun _ H' => Q .non H', rt := Q } (L2.start N vs) H)
    (hbody : ∀ (cdv : Value) (A : Around) (outer : List Env) (s : Shared) (H : Hp) (E : XK), Gd k (cxOf CX0 P w K mg base N q (defScope st) f cdv A outer s H E).nox →
      DSs (cxOf CX0 P w K mg base N q (defScope st) f cdv A outer s H E).nox (defBody st) b) : FnG P w K mg base CX0 (k + 1) f fd ps sp := by
  refine .old (L3.fnG_of F S len fun cdv A outer s H vs Q E hg hr hsp => ?_)
  obtain ⟨t, p, r⟩ := (hbody cdv A outer s H E ⟨hg, hr⟩).ex
  exact ⟨t, p, hrun r hsp⟩
theorem pfn_df (D : L3.Df K mg x st) (S : FnScope N ps (defScope st))
    (hb : ∀ (kV doc pm : Value) (an : Option Addr) (cdv ct : Value) (us : List Value), us.length = ps.length → bindArgs (PySem.W.fnOf x x (defArgs st) (defBody st) (defScope st) .none kV doc pm an cdv ct) ⟨us, []⟩ = pure (ps.zip us))
    (hbody : ∀ (f : Addr) (cdv : Value) (A : Around) (outer : List Env) (s : Shared) (H : Hp) (E : XK), Gd k (cxOf CX0 P w K mg base N x (defScope st) f cdv A outer s H E).nox →
      DSs (cxOf CX0 P w K mg base N x (defScope st) f cdv A outer s H E).nox (defBody st) b) : PFn P w K mg base (k + 1) x ps.length (runP ps.length N.length b) := by
  obtain ⟨f, fd, F, g⟩ := D.ex
  exact ⟨fun ds d h => runP_len h, f, fd, ps, fnG_all F S (fun vs H Q E h => h.1) (fun r => spP_run r) (hbody f), g, F.kp, F.binds hb⟩
theorem mfn_df (D : L3.Df K mg x st) (S : FnScope N ps (defScope st))
    (hb : ∀ (kV doc pm : Value) (an : Option Addr) (cdv ct : Value) (us : List Value), us.length = ps.length → bindArgs (PySem.W.fnOf x x (defArgs st) (defBody st) (defScope st) .none kV doc pm an cdv ct) ⟨us, []⟩ = pure (ps.zip us))
    (hbody : ∀ (f : Addr) (cdv : Value) (A : Around) (outer : List Env) (s : Shared) (H : Hp) (E : XK), Gd k (cxOf CX0 P w K mg base N x (defScope st) f cdv A outer s H E).nox →
      DSs (cxOf CX0 P w K mg base N x (defScope st) f cdv A outer s H E).nox (defBody st) b) : MFn P w K mg base (k + 1) x ps.length (runM ps.length N.length b) := by
  obtain ⟨f, fd, F, g⟩ := D.ex
  exact ⟨fun ds m d h => runM_len h, f, fd, ps, fnG_all F S (fun vs H Q E h => h.1) (fun r => spM_run r) (hbody f), g, F.kp, F.binds hb⟩
theorem pmt_md (D : L3.Md K (He.ga K c) m q st) (cl : Cls K (He.ga K c)) (S : FnScope N ps (defScope st))
    (hb : ∀ (kV doc pm : Value) (an : Option Addr) (cdv ct : Value) (us : List Value), us.length = ps.length → bindArgs (PySem.W.fnOf m q (defArgs st) (defBody st) (defScope st) .none kV doc pm an cdv ct) ⟨us, []⟩ = pure (ps.zip us))
    (hbody : ∀ (f : Addr) (cdv : Value) (A : Around) (outer : List Env) (s : Shared) (H : Hp) (E : XK), Gd k (cxOf CX0 P w K mg base N q (defScope st) f cdv A outer s H E).nox →
      DSs (cxOf CX0 P w K mg base N q (defScope st) f cdv A outer s H E).nox (defBody st) b) : PMt P w K mg base (k + 1) c m ps.length (runP ps.length N.length b) := by
  obtain ⟨f, fd, F, g⟩ := D.ex
  exact ⟨fun ds d h => runP_len h, cl, f, fd, ps, fnG_all F S (fun vs H Q E h => h.1) (fun r => spP_run r) (hbody f), g, F.binds hb⟩
theorem mmt_md (D : L3.Md K (He.ga K c) m q st) (cl : Cls K (He.ga K c)) (S : FnScope N ps (defScope st))
    (hb : ∀ (kV doc pm : Value) (an : Option Addr) (cdv ct : Value) (us : List Value), us.length = ps.length → bindArgs (PySem.W.fnOf m q (defArgs st) (defBody st) (defScope st) .none kV doc pm an cdv ct) ⟨us, []⟩ = pure (ps.zip us))
    (hbody : ∀ (f : Addr) (cdv : Value) (A : Around) (outer : List Env) (s : Shared) (H : Hp) (E : XK), Gd k (cxOf CX0 P w K mg base N q (defScope st) f cdv A outer s H E).nox →
      DSs (cxOf CX0 P w K mg base N q (defScope st) f cdv A outer s H E).nox (defBody st) b) : MMt P w K mg base (k + 1) c m ps.length (runM ps.length N.length b) := by
  obtain ⟨f, fd, F, g⟩ := D.ex
  exact ⟨fun ds m d h => runM_len h, cl, f, fd, ps, fnG_all F S (fun vs H Q E h => h.1) (fun r => spM_run r) (hbody f), g, F.binds hb⟩
theorem mnw_ki (D : L3.Ki K mg c (He.ga K c) q st) (S : FnScope N ps (defScope st))
    (hb : ∀ (kV doc pm : Value) (an : Option Addr) (cdv ct : Value) (us : List Value), us.length = ps.length → bindArgs (PySem.W.fnOf "__init__" q (defArgs st) (defBody st) (defScope st) .none kV doc pm an cdv ct) ⟨us, []⟩ = pure (ps.zip us))
    (hbody : ∀ (f : Addr) (cdv : Value) (A : Around) (outer : List Env) (s : Shared) (H : Hp) (E : XK), Gd k (cxOf CX0 P w K mg base N q (defScope st) f cdv A outer s H E).nox →
      DSs (cxOf CX0 P w K mg base N q (defScope st) f cdv A outer s H E).nox (defBody st) b) : MNw P w K mg base (k + 1) c ps.length (runM ps.length N.length b) := by
  obtain ⟨f, fd, F, g⟩ := D.ex
  exact ⟨fun ds m d h => runM_len h, D.mgC, f, fd, ps, fnG_all F S (fun vs H Q E h => h.1) (fun r => spM_run r) (hbody f), g, F.binds hb⟩
end
section
variable {X : Cx} {g : G} {T T' : Tk} {H : Hp} {m : M} {Q : VK} {pos p apos : Pos} {e o : Expr} {es : List Expr} {k n : Nat} {x c nm : Str}
theorem app_nil {r : List V → Hp → VK → Prop} {v : Value} {sp : Sp} (h : CallR X v fun vs H Q => sp (vs ++ []) H Q E0) : CallR X v fun vs H Q => sp vs H Q E0 := by
  intro pins s σ H xs us Q I r q
  exact h pins s σ H xs us Q I r (by show sp (xs ++ []) H Q E0; rw [List.append_nil]; exact q)
theorem de_pfn {F : List D → Option D} {f : AF} (hF : PFn X.prog X.w X.K X.mg X.base k x n F) (gd : Gd k X) (hg : Gl X x) (ha : DA X (e :: es) f) (hdb : (x == ("__debug__" : Str)) = false := by decide)
    (he : starEach (e :: es) X.env = (false, eval e X.env) :: starEach es X.env := by rfl) (hpl : (backTo pos (starEach es X.env)).any (·.1) = false := by rfl) : DE X (.Call (.Name x p) (e :: es) [] pos) (eCall (callP F) f) := by
  obtain ⟨fa, fd, ps, G, hm, kp, b⟩ := hF.ex
  obtain ⟨t, pa, ra⟩ := ha.ex
  exact ⟨_, pe_callR (app_nil (r := fun _ _ _ => True) (G.call gd b .nil)) hg hm kp pa hdb he hpl, rf_call (rf_callP hF.len) ra⟩
theorem de_pfn0 {F : List D → Option D} (hF : PFn X.prog X.w X.K X.mg X.base k x n F) (gd : Gd k X) (hg : Gl X x) (hdb : (x == ("__debug__" : Str)) = false := by decide) : DE X (.Call (.Name x p) [] [] pos) (eCall (callP F) aNil) := by
  obtain ⟨fa, fd, ps, G, hm, kp, b⟩ := hF.ex
  obtain ⟨t, pa, ra⟩ := (da_nil (X := X)).ex
  refine ⟨_, pe_callR0 (app_nil (r := fun _ _ _ => True) (G.call gd b .nil)) hg hm kp hdb, rf_call (rf_callP hF.len) ?_⟩
  exact fun T σ H ρ m ds m' hm hs hf Q k => by cases hf; exact k [] T H .refl hm .nil
theorem de_mfn {F : List D → M → Option (D × M)} {f : AF} (hF : MFn X.prog X.w X.K X.mg X.base k x n F) (gd : Gd k X) (hg : Gl X x) (ha : DA X (e :: es) f) (hdb : (x == ("__debug__" : Str)) = false := by decide)
    (he : starEach (e :: es) X.env = (false, eval e X.env) :: starEach es X.env := by rfl) (hpl : (backTo pos (starEach es X.env)).any (·.1) = false := by rfl) : DE X (.Call (.Name x p) (e :: es) [] pos) (eCallM F f) := by
  obtain ⟨fa, fd, ps, G, hm, kp, b⟩ := hF.ex
  obtain ⟨t, pa, ra⟩ := ha.ex
  exact ⟨_, pe_callR (app_nil (r := fun _ _ _ => True) (G.call gd b .nil)) hg hm kp pa hdb he hpl, rf_callM hF.len ra⟩
def tMthR (C : Addr) (m : Str) (r : List V → Hp → VK → Prop) (ta : TE) (t : TA) : TE := fun σ H Q => ta σ H fun x H1 => ∃ a dx fs, x = .ref a ∧ H1 a = some (.ins C dx fs) ∧ fs.lookup m = none ∧ t σ H1 fun vs H2 => r (x :: vs) H2 Q
theorem pe_mthR {pl : Sem Bool} {C f : Addr} {ta : TE} {t : TA} {r : List V → Hp → VK → Prop} (hc : CallR X (.ref f) r) (he : PE X o ta) (cl : Cls X.K C) (hm : Meth X.K C nm f) (ha : PA X (e :: es) t)
    (hst : starEach (e :: es) X.env = (false, eval e X.env) :: starEach es X.env := by rfl) (hpl : (backTo pos (starEach es X.env)).any (·.1) = false := by rfl)
    (ht : eval (.Call (.Attribute o nm apos) (e :: es) [] pos) X.env = (do
      let ov ← eval o X.env
      standAt apos.atName
      let (f, first) ← holding [ov] (getMethod ov nm pl)
      callWith pos f first (backTo pos (starEach (e :: es) X.env)) (backToKw pos (keywordEach [] X.env))) := by rfl) :
    PE X (.Call (.Attribute o nm apos) (e :: es) [] pos) (tMthR C nm r ta t) := by
  refine ⟨fun pins s σ H Q I h => PySem.W.methodCall_KW (pl := pl) (thn (he.run pins s σ H _ I h) fun u s1 ⟨x, H1, I1, rx, a, dx, fs, ex, ea, l, q⟩ => ?_) ht⟩
  cases ex
  cases rx
  refine getmeth_ok I1 ea cl hm l (PySem.W.callWith_K (first := [.ref a]) (h₀ := X.base) I.ok.mod.kin hm.kp (thn (ha.run pos pins s1 σ H1 _ I1 q) fun us s2 ⟨vs, H2, I2, rv, q2⟩ => ⟨I2.kIn, ?_⟩) hst hpl)
  exact hc pins s2 σ H2 (.ref a :: vs) (.ref a :: us) Q I2 (.cons rfl rv) q2
theorem pe_mthR0 {pl : Sem Bool} {C f : Addr} {ta : TE} {r : List V → Hp → VK → Prop} (hc : CallR X (.ref f) r) (he : PE X o ta) (cl : Cls X.K C) (hm : Meth X.K C nm f)
    (ht : eval (.Call (.Attribute o nm apos) [] [] pos) X.env = (do
      let ov ← eval o X.env
      standAt apos.atName
      let (f, first) ← holding [ov] (getMethod ov nm pl)
      callWith pos f first (backTo pos (starEach [] X.env)) (backToKw pos (keywordEach [] X.env))) := by rfl) :
    PE X (.Call (.Attribute o nm apos) [] [] pos) (tMthR C nm r ta tNil) := by
  refine ⟨fun pins s σ H Q I h => PySem.W.methodCall_KW (pl := pl) (thn (he.run pins s σ H _ I h) fun u s1 ⟨x, H1, I1, rx, a, dx, fs, ex, ea, l, q⟩ => ?_) ht⟩
  cases ex
  cases rx
  refine getmeth_ok I1 ea cl hm l (PySem.W.callWith_K0 (first := [.ref a]) I1.kIn hm.kp ?_)
  exact hc pins s1 σ H1 [.ref a] [.ref a] Q I1 (.cons rfl .nil) q
/-- the class and the fields of an object -/
def insO : O → Option (Str × List Str × List D)
  | .ins c ns vs => some (c, ns, vs)
  | _ => none
def insOf (m : M) : D → Option (Str × List Str × List D)
  | .obj c ns vs => some (c, ns, vs)
  | .ref n => (m[n]?).bind insO
  | _ => none
theorem ins_rep {d : D} {v : V} {ns : List Str} {vs : List D} (hm : RepH g T H m) (r : Rep g T H d v) (h : insOf m d = some (c, ns, vs)) : ∃ a dx fs, v = .ref a ∧ H a = some (.ins (He.ga g.K c) dx fs) ∧ fs.map Prod.fst = ns ∧ RepL g T H vs (fs.map Prod.snd) := by
  cases r with
  | obj n f e r => cases h; exact ⟨_, _, _, rfl, f, e, r⟩
  | ref e =>
    obtain ⟨o, h1, h2⟩ := Option.bind_eq_some_iff.mp h
    cases hm.at_ _ _ _ e h1 with
    | ins f e r => cases h2; exact ⟨_, _, _, rfl, f, e, r⟩
    | _ => cases h2
  | _ => cases h
theorem lookup_none {fs : List (Str × V)} {f : Str} (h : (fs.map Prod.fst).contains f = false) : fs.lookup f = none := by
  rw [List.lookup_eq_none_iff]
  intro p hp
  have : f ∉ fs.map Prod.fst := by simpa using h
  rw [bne_iff_ne]
  rintro rfl
  exact this (List.mem_map.mpr ⟨p, hp, rfl⟩)
/-- o.m(..): the object first, its class is asked -/
def eMth (c nm : Str) (F : M → List D → Option D) (o : EF) (a : AF) : EF := fun ρ m => bd (o ρ m) fun x m1 => match insOf m1 x with
  | some (c', ns, _) => if c' = c ∧ ns.contains nm = false then bd (a ρ m1) fun xs m2 => pu (F m2 (x :: xs)) m2 else none
  | none => none
def eMthM (c nm : Str) (F : List D → M → Option (D × M)) (o : EF) (a : AF) : EF := fun ρ m => bd (o ρ m) fun x m1 => match insOf m1 x with
  | some (c', ns, _) => if c' = c ∧ ns.contains nm = false then bd (a ρ m1) fun xs m2 => F (x :: xs) m2 else none
  | none => none
theorem rf_mth {F : List D → Option D} {fo : EF} {fa : AF} {ta : TE} {t : TA} (hn : ∀ ds d, F ds = some d → ds.length = n) (ho : RfE g ta fo) (ha : RfA g t fa) :
    RfE g (tMthR (He.ga g.K c) nm (fun vs H Q => spP g n F vs H Q E0) ta t) (eMth c nm (callP F) fo fa) := by
  intro T σ H ρ m d m' hm hs hf Q k
  obtain ⟨x, m1, e1, hf⟩ := bd_some hf
  refine ho T σ H ρ m x m1 hm hs e1 _ fun v T1 H1 l1 hm1 r1 => ?_
  split at hf
  · next c' ns vs hi =>
    obtain ⟨⟨ec, hc⟩, hf2⟩ := ite_some hf
    subst ec
    obtain ⟨xs, m2, e2, hf⟩ := bd_some hf2
    obtain ⟨e3, rfl⟩ := pu_some hf
    obtain ⟨a, dx, fs, rfl, ea, en, _⟩ := ins_rep hm1 r1 hi
    refine ⟨a, dx, fs, rfl, ea, lookup_none (by rw [en]; exact hc), ha T1 σ H1 ρ m1 xs _ hm1 (hs.le l1) e2 _ fun ws T2 H2 l2 hm2 r2 => ?_⟩
    exact rf_callP hn T2 H2 _ (x :: xs) (.ref a :: ws) d hm2 (.cons (r1.le l2) r2) e3 Q (k.le (l1.trans l2))
  · cases hf
theorem rf_mthM {F : List D → M → Option (D × M)} {fo : EF} {fa : AF} {ta : TE} {t : TA} (hn : ∀ ds m r, F ds m = some r → ds.length = n) (ho : RfE g ta fo) (ha : RfA g t fa) :
    RfE g (tMthR (He.ga g.K c) nm (fun vs H Q => spM g n F vs H Q E0) ta t) (eMthM c nm F fo fa) := by
  intro T σ H ρ m d m' hm hs hf Q k
  obtain ⟨x, m1, e1, hf⟩ := bd_some hf
  refine ho T σ H ρ m x m1 hm hs e1 _ fun v T1 H1 l1 hm1 r1 => ?_
  split at hf
  · next c' ns vs hi =>
    obtain ⟨⟨ec, hc⟩, hf2⟩ := ite_some hf
    subst ec
    obtain ⟨xs, m2, e2, hf⟩ := bd_some hf2
    obtain ⟨a, dx, fs, rfl, ea, en, _⟩ := ins_rep hm1 r1 hi
    refine ⟨a, dx, fs, rfl, ea, lookup_none (by rw [en]; exact hc), ha T1 σ H1 ρ m1 xs _ hm1 (hs.le l1) e2 _ fun ws T2 H2 l2 hm2 r2 => ?_⟩
    have q2 : RepL g T2 H2 (x :: xs) (.ref a :: ws) := .cons (r1.le l2) r2
    exact ⟨by rw [← q2.length]; exact hn _ _ _ hf, T2, m2, x :: xs, d, m', hm2, q2, hf, k.le (l1.trans l2)⟩
  · cases hf
theorem rf_nil : RfA g tNil aNil := fun T σ H ρ m ds m' hm hs hf Q k => by cases hf; exact k [] T H .refl hm .nil
theorem de_pmt {pl : Sem Bool} {F : List D → Option D} {fo : EF} {f : AF} (hF : PMt X.prog X.w X.K X.mg X.base k c nm n F) (gd : Gd k X) (ho : DE X o fo) (ha : DA X (e :: es) f)
    (hst : starEach (e :: es) X.env = (false, eval e X.env) :: starEach es X.env := by rfl) (hpl : (backTo pos (starEach es X.env)).any (·.1) = false := by rfl)
    (ht : eval (.Call (.Attribute o nm apos) (e :: es) [] pos) X.env = (do
      let ov ← eval o X.env
      standAt apos.atName
      let (f, first) ← holding [ov] (getMethod ov nm pl)
      callWith pos f first (backTo pos (starEach (e :: es) X.env)) (backToKw pos (keywordEach [] X.env))) := by rfl) : DE X (.Call (.Attribute o nm apos) (e :: es) [] pos) (eMth c nm (callP F) fo f) := by
  obtain ⟨fa, fd, ps, G, hm, b⟩ := hF.ex
  obtain ⟨t, pa, ra⟩ := ha.ex; obtain ⟨to, po, ro⟩ := ho.ex
  exact ⟨_, pe_mthR (app_nil (r := fun _ _ _ => True) (G.call gd b .nil)) po hF.cl hm pa hst hpl ht, rf_mth hF.len ro ra⟩
theorem de_mmt {pl : Sem Bool} {F : List D → M → Option (D × M)} {fo : EF} {f : AF} (hF : MMt X.prog X.w X.K X.mg X.base k c nm n F) (gd : Gd k X) (ho : DE X o fo) (ha : DA X (e :: es) f)
    (hst : starEach (e :: es) X.env = (false, eval e X.env) :: starEach es X.env := by rfl) (hpl : (backTo pos (starEach es X.env)).any (·.1) = false := by rfl)
    (ht : eval (.Call (.Attribute o nm apos) (e :: es) [] pos) X.env = (do
      let ov ← eval o X.env
      standAt apos.atName
      let (f, first) ← holding [ov] (getMethod ov nm pl)
      callWith pos f first (backTo pos (starEach (e :: es) X.env)) (backToKw pos (keywordEach [] X.env))) := by rfl) : DE X (.Call (.Attribute o nm apos) (e :: es) [] pos) (eMthM c nm F fo f) := by
  obtain ⟨fa, fd, ps, G, hm, b⟩ := hF.ex
  obtain ⟨t, pa, ra⟩ := ha.ex; obtain ⟨to, po, ro⟩ := ho.ex
  exact ⟨_, pe_mthR (app_nil (r := fun _ _ _ => True) (G.call gd b .nil)) po hF.cl hm pa hst hpl ht, rf_mthM hF.len ro ra⟩
theorem de_mmt0 {pl : Sem Bool} {F : List D → M → Option (D × M)} {fo : EF} (hF : MMt X.prog X.w X.K X.mg X.base k c nm n F) (gd : Gd k X) (ho : DE X o fo)
    (ht : eval (.Call (.Attribute o nm apos) [] [] pos) X.env = (do
      let ov ← eval o X.env
      standAt apos.atName
      let (f, first) ← holding [ov] (getMethod ov nm pl)
      callWith pos f first (backTo pos (starEach [] X.env)) (backToKw pos (keywordEach [] X.env))) := by rfl) : DE X (.Call (.Attribute o nm apos) [] [] pos) (eMthM c nm F fo aNil) := by
  obtain ⟨fa, fd, ps, G, hm, b⟩ := hF.ex
  obtain ⟨to, po, ro⟩ := ho.ex
  exact ⟨_, pe_mthR0 (app_nil (r := fun _ _ _ => True) (G.call gd b .nil)) po hF.cl hm ht, rf_mthM hF.len ro rf_nil⟩
def fldAt : List Str → List D → Str → Option D
  | n :: ns, v :: vs, f => if n = f then some v else fldAt ns vs f
  | _, _, _ => none
theorem fld_rep {f : Str} : ∀ {fs : List (Str × V)} {ns : List Str} {vs : List D} {d : D}, fs.map Prod.fst = ns → RepL g T H vs (fs.map Prod.snd) → fldAt ns vs f = some d → ∃ v, fs.lookup f = some v ∧ Rep g T H d v
  | [], _, _, _, e, r, h => by subst e; cases r; cases h
  | (n, w) :: fs, _, _, d, e, r, h => by
    subst e
    cases r with
    | cons r s =>
      change (if n = f then some _ else fldAt _ _ f) = some d at h
      by_cases hn : n = f
      · rw [if_pos hn] at h
        cases h
        subst hn
        exact ⟨w, by simp [List.lookup], r⟩
      · rw [if_neg hn] at h
        obtain ⟨v, e1, q⟩ := fld_rep (fs := fs) rfl s h
        refine ⟨v, ?_, q⟩
        have : (f == n) = false := by rw [beq_eq_false_iff_ne]; exact fun z => hn z.symm
        simp [List.lookup, this, e1]
def eFld (cs : List Str) (f : Str) (o : EF) : EF := fun ρ m => bd (o ρ m) fun x m1 => match insOf m1 x with
  | some (c, ns, vs) => if cs.contains c then pu (fldAt ns vs f) m1 else none
  | none => none
/-- none of these classes has the name f itself -/
def NA (K : PySem.W.Frag) (cs : List Str) (f : Str) : Prop := ∀ c ∈ cs, Cls K (He.ga K c) ∧ NoAttr K (He.ga K c) f
theorem na1 {K : PySem.W.Frag} {c f : Str} (h : Cls K (He.ga K c)) (n : NoAttr K (He.ga K c) f) : NA K [c] f := fun d hd => by rw [List.mem_singleton.mp hd]; exact ⟨h, n⟩
theorem naC {K : PySem.W.Frag} {c f : Str} {cs : List Str} (h : Cls K (He.ga K c)) (n : NoAttr K (He.ga K c) f) (r : NA K cs f) : NA K (c :: cs) f := fun d hd => by
  rcases List.mem_cons.mp hd with rfl | hd
  · exact ⟨h, n⟩
  · exact r d hd
theorem de_fld {cs : List Str} {f : Str} {fo : EF} (hn : NA X.K cs f) (ho : DE X o fo) (hb : attributeBase o f X.env (eval o X.env) = eval o X.env := by rfl) : DE X (.Attribute o f pos) (eFld cs f fo) := by
  obtain ⟨to, po, ro⟩ := ho.ex
  refine ⟨_, pe_fld po hb, fun T σ H ρ m d m' hm hs hf Q k => ?_⟩
  obtain ⟨x, m1, e1, hf⟩ := bd_some hf
  refine ro T σ H ρ m x m1 hm hs e1 _ fun v T1 H1 l1 hm1 r1 => ?_
  split at hf
  · next c' ns vs hi =>
    obtain ⟨hc, hf⟩ := ite_some hf
    obtain ⟨e3, rfl⟩ := pu_some hf
    obtain ⟨a, dx, fs, rfl, ea, en, rf⟩ := ins_rep hm1 r1 hi
    obtain ⟨w, e4, q⟩ := fld_rep en rf e3
    have hc' := hn c' (by simpa using hc)
    exact ⟨a, _, dx, fs, w, rfl, ea, hc'.1, hc'.2, e4, k _ T1 H1 l1 hm1 q⟩
  · cases hf
end
end L4
namespace L4
open PySem L2
section
variable {X : Cx} {g : G} {T T' : Tk} {H : Hp} {m : M} {Q : VK} {pos p apos : Pos} {e o : Expr} {es : List Expr} {k n : Nat} {x c nm : Str}
theorem FnG.make {C f : Addr} {fd : FuncData} {ps : List Str} {sp : Sp} (Mk : Mk X.K C f) (F : FnG X.prog X.w X.K X.mg X.base CX0 k f fd ps sp) (gd : Gd (k + 1) X) (hb : Binds X.K fd ps []) :
    CallR X (.ref C) fun vs H Q => ∀ x dx, H x = none → H dx = none → dx ≠ x → sp (.ref x :: vs) (upd (upd H dx (.own x)) x (.ins C dx [])) (fun v H2 => v = .non ∧ Q (.ref x) H2) E0 := by
  intro pins s σ H vs us Q I r h
  have hq := h (s.heap.objs.size + 1) s.heap.objs.size (I.hok.fresh (Nat.le_succ _)) (I.hok.fresh (Nat.le_refl _)) (Nat.ne_of_lt (Nat.lt_succ_self _))
  have I2 := Inv.made (C := C) I
  have r2 : Vals (V.ref (s.heap.objs.size + 1) :: vs) (Value.ref (s.heap.objs.size + 1) :: us) := .cons rfl r
  have hl : (Value.ref (s.heap.objs.size + 1) :: us ++ []).length = ps.length := by
    rw [List.append_nil, ← r2.length]
    exact F.len _ _ _ _ hq
  have hg : (X.A.under (.builtin "type.__call__" ⟨.ref C :: us, []⟩)).guards = some [] := by
    have := gd.g
    have e : (Code.builtin "type.__call__" ⟨.ref C :: us, []⟩).guards = [] := by simp [Code.guards, Code.isGuard, guardIds]
    simp [Around.under, e, pushGuards, this]
  have b := hb _ (Value.ref (s.heap.objs.size + 1) :: us) I2.kIn hl
  rw [List.append_nil] at b
  refine wpAny_call (make_map (f := f) I.kIn Mk.makes Mk.init (beq_iff_eq.mp Mk.fn) (codeAny_mono (F.run _ X.stack _ _ _ _ _ _ E0 hg (gd.r.make C us []) (I2.env0.make C us []) b r2 hq) fun res s' hres => ?_))
  match res, hres with
  | .error _, z => exact z.elim
  | .ok (.ret u), z =>
    obtain ⟨v, H', I3, rv, ev, q3⟩ := I2.after z
    cases ev
    exact ⟨rv, V.ref (s.heap.objs.size + 1), H', I3, rfl, q3⟩
/-- an object that is never changed behind its making: plain data -/
def newP (c : Str) (F : List D → M → Option (D × M)) (ds : List D) : Option D := match F (.ref 0 :: ds) [.ins c [] []] with
  | some (.non, m) => frz m (.ref 0)
  | _ => none
def pureC (F : List D → Option D) (_ : M) (ds : List D) : Option D := if pureL ds then F ds else none
theorem rf_newP {F : List D → M → Option (D × M)} (hn : ∀ ds m r, F ds m = some r → ds.length = n) :
    RfC g (fun vs H Q => ∀ x dx, H x = none → H dx = none → dx ≠ x → spM g n F (.ref x :: vs) (upd (upd H dx (.own x)) x (.ins (He.ga g.K c) dx [])) (fun v H2 => v = .non ∧ Q (.ref x) H2) E0) (pureC (newP c F)) := by
  intro T H m xs vs d hm r hf Q k x dx hx hdx hne
  obtain ⟨hp, hf⟩ := ite_some hf
  unfold newP at hf
  split at hf
  · next m2 hF =>
    have up : ∀ a u, H a = some u → upd (upd H dx (.own x)) x (.ins (He.ga g.K c) dx []) a = some u := fun a u e => by
      rw [upd_ne (ne_of_none e hx), upd_ne (ne_of_none e hdx)]; exact e
    have nx : x ∉ T.ν := hm.nope hx
    let Tc : Tk := ⟨[x], x :: T.ν, fun a h => by rw [List.mem_singleton.mp h]; exact List.mem_cons_self ..⟩
    obtain ⟨l1, hm1⟩ := hm.grow up
    have hmc : RepH g Tc (upd (upd H dx (.own x)) x (.ins (He.ga g.K c) dx [])) [.ins c [] []] := by
      refine ⟨rfl, by simp [Tc], fun a ha => ?_, fun i a o h1 h2 => ?_⟩
      · rcases List.mem_cons.mp ha with rfl | z
        · exact ⟨_, upd_same, trivial⟩
        · exact hm1.has a z
      · cases i with
        | zero => cases h1; cases h2; exact .ins upd_same rfl .nil
        | succ i => cases h2
    have rx : RepL g (T0 T.ν) H xs vs := RepL.pure (fun _ h => h) _ hp r
    have rc : RepL g Tc (upd (upd H dx (.own x)) x (.ins (He.ga g.K c) dx [])) xs vs := by
      have l0 : Le (T0 T.ν) H ⟨[], x :: T.ν, fun a h => nomatch h⟩ (upd (upd H dx (.own x)) x (.ins (He.ga g.K c) dx [])) := ⟨List.prefix_rfl, fun a u e _ => up a u e, fun a ha n => by
        rcases List.mem_cons.mp ha with rfl | z
        · exact hx
        · exact absurd z n, fun a h n => (nomatch h), fun a h => List.mem_cons_of_mem _ h⟩
      exact RepL.lift (T := Tc) _ (rx.le l0)
    refine ⟨by have := hn _ _ _ hF; rw [← this]; simp [r.length], Tc, _, .ref 0 :: xs, .non, m2, hmc, .cons (.ref rfl) rc, hF, fun v T2 H2 l2 hm2 rv => ?_⟩
    cases rv
    refine ⟨rfl, ?_⟩
    have upH : ∀ a u, H a = some u → H2 a = some u := fun a u e => l2.keep a u (up a u e) fun z => by
      rw [List.mem_singleton.mp z] at e
      rw [hx] at e
      cases e
    obtain ⟨l3, hm3⟩ := hm.grow upH
    have rz : Rep g T2 H2 (.ref 0) (.ref x) := .ref (l2.get (n := 0) rfl)
    refine k _ T H2 l3 hm3 (Rep.lift _ (frz_ok hm2 (ν := T.ν) (fun a h => l2.up a (List.mem_cons_of_mem _ h)) (fun a h z => ?_) hf rz))
    by_cases ha : a ∈ Tc.μ
    · rw [List.mem_singleton.mp ha] at z; exact nx z
    · obtain ⟨u, e, _⟩ := hm1.has a z
      rw [l2.newμ a h ha] at e
      cases e
  · cases hf
end
end L4
namespace L4
open PySem L2
section
variable {X : Cx} {g : G} {T T' : Tk} {H : Hp} {m : M} {Q : VK} {pos p apos : Pos} {e o : Expr} {es : List Expr} {k n : Nat} {x c nm : Str}
/-- an object that changes -/
def eNewM (c : Str) (F : List D → M → Option (D × M)) (a : AF) : EF := fun ρ m => bd (a ρ m) fun xs m1 => match F (.ref m1.length :: xs) (m1 ++ [.ins c [] []]) with
  | some (.non, m2) => some (.ref m1.length, m2)
  | _ => none
theorem rf_newM {F : List D → M → Option (D × M)} {t : TA} {f : AF} (hn : ∀ ds m r, F ds m = some r → ds.length = n) (ha : RfA g t f) :
    RfE g (tCB (fun vs H Q => ∀ x dx, H x = none → H dx = none → dx ≠ x → spM g n F (.ref x :: vs) (upd (upd H dx (.own x)) x (.ins (He.ga g.K c) dx [])) (fun v H2 => v = .non ∧ Q (.ref x) H2) E0) t) (eNewM c F f) := by
  intro T σ H ρ m d m' hm hs hf Q k
  obtain ⟨xs, m1, e1, hf⟩ := bd_some hf
  refine ha T σ H ρ m xs m1 hm hs e1 _ fun vs T1 H1 l1 hm1 r1 x dx hx hdx hne => ?_
  split at hf
  · next m2 hF =>
    cases hf
    obtain ⟨l2, hm2⟩ := hm1.fresh (u := .own x) hdx
    obtain ⟨l3, hm3⟩ := hm2.push (p := x) (u := .ins (He.ga g.K c) dx []) (o := .ins c [] []) (by rw [upd_ne (fun z => hne z.symm)]; exact hx) fun _ => .ins upd_same rfl .nil
    have rx : Rep g (T1.push x) (upd (upd H1 dx (.own x)) x (.ins (He.ga g.K c) dx [])) (.ref m1.length) (.ref x) := .ref (by
      show (T1.μ ++ [x])[m1.length]? = some x
      rw [← hm1.len, List.getElem?_append_right (Nat.le_refl _)]
      simp)
    have l23 := l2.trans l3
    refine ⟨by rw [← hn _ _ _ hF]; simp [r1.length], _, _, .ref m1.length :: xs, .non, _, hm3, .cons rx (r1.le l23), hF, fun v T4 H4 l4 hm4 rv => ?_⟩
    cases rv
    exact ⟨rfl, k _ T4 H4 (l1.trans (l23.trans l4)) hm4 (rx.le l4)⟩
  · cases hf
theorem de_newM {F : List D → M → Option (D × M)} {f : AF} (hF : MNw X.prog X.w X.K X.mg X.base k c n F) (gd : Gd (k + 1) X) (hg : Gl X c) (ha : DA X (e :: es) f) (hdb : (c == ("__debug__" : Str)) = false := by decide)
    (he : starEach (e :: es) X.env = (false, eval e X.env) :: starEach es X.env := by rfl) (hpl : (backTo pos (starEach es X.env)).any (·.1) = false := by rfl) : DE X (.Call (.Name c p) (e :: es) [] pos) (eNewM c F f) := by
  obtain ⟨fa, fd, ps, G, M, b⟩ := hF.ex
  obtain ⟨t, pa, ra⟩ := ha.ex
  exact ⟨_, pe_callR (G.make M gd b) hg hF.mgC M.kp pa hdb he hpl, rf_newM hF.len ra⟩
def putD (f : Str) (d : D) : List Str → List D → List Str × List D
  | n :: ns, v :: vs => if n = f then (n :: ns, d :: vs) else let r := putD f d ns vs; (n :: r.1, v :: r.2)
  | _, _ => ([f], [d])
theorem put_rep {f : Str} {d : D} {v : V} (rd : Rep g T H d v) : ∀ {fs : List (Str × V)} {vs : List D}, RepL g T H vs (fs.map Prod.snd) → (putF f v fs).map Prod.fst = (putD f d (fs.map Prod.fst) vs).1 ∧ RepL g T H (putD f d (fs.map Prod.fst) vs).2 ((putF f v fs).map Prod.snd)
  | [], _, r => by cases r; exact ⟨rfl, .cons rd .nil⟩
  | (n, w) :: fs, _, r => by
    cases r with
    | cons r s =>
      obtain ⟨h1, h2⟩ := put_rep (f := f) rd s
      unfold putF
      simp only [List.map_cons, putD]
      by_cases hn : n = f
      · rw [if_pos hn, if_pos hn]
        exact ⟨rfl, .cons rd s⟩
      · rw [if_neg hn, if_neg hn]
        exact ⟨by simp [h1], .cons r h2⟩
def sFldM (cs : List Str) (f : Str) (o v : EF) : SF := fun ρ m => bd (v ρ m) fun y m1 => bd (o ρ m1) fun x m2 => match x with
  | .ref n => match m2[n]? with
    | some (.ins c ns vs) => if cs.contains c ∧ vs.length < 1000 then some (.nx ρ, m2.set n (.ins c (putD f y ns vs).1 (putD f y ns vs).2)) else none
    | _ => none
  | _ => none
theorem ds_fld {cs : List Str} {f : Str} {value : Expr} {fo fv : EF} {pos' : Pos} (hn : NA X.K cs f) (ho : DE X o fo) (hv : DE X value fv) (hs : swapsWith value (some (.Attribute o f pos')) pos.line X.env = pure false := by rfl) :
    DS X (.Assign [.Attribute o f pos'] value pos) (sFldM cs f fo fv) := by
  obtain ⟨to, po, ro⟩ := ho.ex; obtain ⟨tv, pv, rv⟩ := hv.ex
  refine ⟨_, ps_fld po pv hs, fun T σ H ρ m d m' hm hs hf D k => ?_⟩
  obtain ⟨y, m1, e1, hf1⟩ := bd_some hf
  obtain ⟨x, m2, e2, hf2⟩ := bd_some hf1
  refine rv T σ H ρ m y m1 hm hs e1 _ fun v T1 H1 l1 hm1 r1 => ?_
  refine ro T1 σ H1 ρ m1 x m2 hm1 (hs.le l1) e2 _ fun u T2 H2 l2 hm2 r2 => ?_
  clear hf hf1
  split at hf2
  · next n =>
    split at hf2
    · next c ns vs hi =>
      obtain ⟨⟨hc, hl⟩, hf3⟩ := ite_some hf2
      cases hf3
      cases r2 with
      | ref ea =>
        cases hm2.at_ _ _ _ ea hi with
        | @ins dx fs _ _ _ h1 h2 r =>
          have hc' := hn c (by simpa using hc)
          refine ⟨_, _, dx, fs, rfl, h1, hc'.1, hc'.2, by have := r.length; simp at this; omega, ?_⟩
          obtain ⟨l3, hm3⟩ := hm2.put (u := .ins (He.ga X.K c) dx (putF f v fs)) (o := .ins c (putD f y ns vs).1 (putD f y ns vs).2) ea fun l => by
            obtain ⟨q1, q2⟩ := put_rep (f := f) ((r1.le l2).le l) (r.le l)
            rw [h2] at q1 q2
            exact .ins upd_same q1 q2
          exact k σ _ _ (l1.trans (l2.trans l3)) hm3 (hs.le (l1.trans (l2.trans l3)))
    · cases hf2
  · cases hf2
theorem lst_tracked {n : Nat} {v : V} {ds : List D} (hm : RepH g T H m) (r : Rep g T H (.ref n) v) (h : m[n]? = some (.lst ds)) : ∃ a vs, v = .ref a ∧ T.μ[n]? = some a ∧ H a = some (.lst vs) ∧ RepL g T H ds vs := by
  cases r with
  | ref e =>
    cases hm.at_ _ _ _ e h with
    | lst f r => exact ⟨_, _, rfl, e, f, r⟩
theorem tyL_of {K : PySem.W.Frag} {a : Addr} {vs : List V} (h : H a = some (.lst vs)) : tyV K "list" (.ref a) H := .inl ⟨rfl, _, SqL.of h⟩
def RfLm (g : G) (r : V → List V → Hp → VK → Prop) (F : M → List D → List D → Option (D × List D)) : Prop := ∀ T H m l xs ds ys vs d es, RepH g T H m → H l = some (.lst xs) → RepL g T H ds xs → RepL g T H ys vs → F m ds ys = some (d, es) → ∀ Q : VK,
  (∀ v zs, RepL g T H es zs → Rep g T H d v → Q v (upd H l (.lst zs))) → r (.ref l) vs H Q
theorem rf_lm {r : V → List V → Hp → VK → Prop} {F : M → List D → List D → Option (D × List D)} {to : TE} {t : TA} {fo : EF} {fa : AF} (hr : RfLm g r F) (ho : RfE g to fo) (ha : RfA g t fa) {ff : EF}
    (hff : ∀ ρ m, ff ρ m = bd (fo ρ m) fun x m1 => match x with
      | .ref n => match m1[n]? with
        | some (.lst _) => bd (fa ρ m1) fun ys m2 => match m2[n]? with
          | some (.lst ds) => (F m2 ds ys).map fun r => (r.1, m2.set n (.lst r.2))
          | _ => none
        | _ => none
      | _ => none) : RfE g (tBM g.K "list" r to t) ff := by
  intro T σ H ρ m d m' hm hs hf Q k
  rw [hff] at hf
  obtain ⟨x, m1, e1, hf1⟩ := bd_some hf
  clear hf
  refine ho T σ H ρ m x m1 hm hs e1 _ fun v T1 H1 l1 hm1 r1 => ?_
  split at hf1
  · next n =>
    split at hf1
    · next ds0 hi0 =>
      obtain ⟨ys, m2, e2, hf2⟩ := bd_some hf1
      obtain ⟨a, vs0, rfl, ea, h0, _⟩ := lst_tracked hm1 r1 hi0
      refine ⟨tyL_of h0, ha T1 σ H1 ρ m1 ys m2 hm1 (hs.le l1) e2 _ fun vs T2 H2 l2 hm2 r2 => ?_⟩
      split at hf2
      · next ds hi =>
        obtain ⟨⟨d', es⟩, h3, h4⟩ := Option.map_eq_some_iff.mp hf2
        obtain ⟨rfl, rfl⟩ : d' = d ∧ _ = m' := by injection h4 with h5 h6; exact ⟨h5, h6⟩
        obtain ⟨a', xs, e, ea2, h5, r5⟩ := lst_tracked hm2 (r1.le l2) hi
        cases e
        refine hr T2 H2 m2 a xs ds ys vs d' es hm2 h5 r5 r2 h3 Q fun v zs rz rv => ?_
        obtain ⟨l3, hm3⟩ := hm2.put (u := .lst zs) (o := .lst es) ea2 fun l => .lst upd_same (rz.le l)
        exact k v T2 _ (l1.trans (l2.trans l3)) hm3 (rv.le l3)
      · cases hf2
    · cases hf1
  · cases hf1
def appL (ds ys : List D) : Option (D × List D) := match ys with
  | [y] => if ds.length < sizeLine then some (.non, ds ++ [y]) else none
  | _ => none
def extL (m : M) (ds ys : List D) : Option (D × List D) := match ys with
  | [y] => match lstOf m y with
    | some es => if ds.length + es.length ≤ sizeLine then some (.non, ds ++ es) else none
    | none => none
  | _ => none
def eLm0 (F : M → List D → List D → Option (D × List D)) (o : EF) (a : AF) : EF := fun ρ m => bd (o ρ m) fun x m1 => match x with
  | .ref n => match m1[n]? with
    | some (.lst _) => bd (a ρ m1) fun ys m2 => match m2[n]? with
      | some (.lst ds) => (F m2 ds ys).map fun r => (r.1, m2.set n (.lst r.2))
      | _ => none
    | _ => none
  | _ => none
theorem rfl_app : RfLm g rAppend (fun _ => appL) := by
  intro T H m l xs ds ys vs d es hm hl rd ry hf Q k
  change appL ds ys = some (d, es) at hf
  unfold appL at hf
  split at hf
  · obtain ⟨hz, hf⟩ := ite_some hf
    cases hf
    cases ry with
    | cons r1 r2 => cases r2; exact ⟨l, xs, _, rfl, rfl, hl, by rw [← rd.length]; exact hz, k _ _ (rd.append (.cons r1 .nil)) .non⟩
  · cases hf
theorem rfl_ext : RfLm g rExtend extL := by
  intro T H m l xs ds ys vs d es hm hl rd ry hf Q k
  unfold extL at hf
  split at hf
  · split at hf
    · next h =>
      obtain ⟨hz, hf⟩ := ite_some hf
      cases hf
      cases ry with
      | cons r1 r2 =>
        cases r2
        obtain ⟨b, zs, rfl, hb, rz⟩ := lst_rep hm r1 h
        exact ⟨l, b, xs, zs, rfl, rfl, hl, hb, by rw [← rd.length, ← rz.length]; exact hz, k _ _ (rd.append rz) .non⟩
    · cases hf
  · cases hf
theorem de_lm {name : Str} {id : String} {r : V → List V → Hp → VK → Prop} {F : M → List D → List D → Option (D × List D)} {fo : EF} {f : AF} (slot : Slot "list" name id) (hty : typeOf (.builtin id) = pure (.type "method_descriptor")) (hm : MtR X id r) (hr : RfLm (gx X) r F) (ho : DE X o fo) (ha : DA X (e :: es) f)
    (hbase : attributeBase o name X.env (eval o X.env) = eval o X.env := by rfl)
    (hfew : ((backTo pos (starEach (e :: es) X.env)).all (fun x => !x.1) && (backToKw pos (keywordEach [] X.env)).all (fun x => x.1.isSome)
      && decide ((e :: es).length + ([] : List Keyword).length + (if ([] : List Keyword).isEmpty then 0 else 1) < 30)) = true := by rfl)
    (hline : (apos.endLine == pos.line) = true := by rfl) (hs : starEach (e :: es) X.env = (false, eval e X.env) :: starEach es X.env := by rfl) (hplain : (backTo pos (starEach es X.env)).any (·.1) = false := by rfl) :
    DE X (.Call (.Attribute o name apos) (e :: es) [] pos) (eLm0 F fo f) := by
  obtain ⟨to, po, ro⟩ := ho.ex; obtain ⟨t, pa, ra⟩ := ha.ex
  exact ⟨_, pe_bm PySem.F.plainAttrs_list slot hty hm po pa hbase hfew hline hs hplain, rf_lm hr ro ra fun _ _ => rfl⟩
theorem de_append {fo : EF} {f : AF} (ho : DE X o fo) (ha : DA X [e] f) (hbase : attributeBase o "append" X.env (eval o X.env) = eval o X.env := by rfl) (hline : (apos.endLine == pos.line) = true := by rfl) (hs : starEach [e] X.env = [(false, eval e X.env)] := by rfl)
    (hfew : ((backTo pos (starEach [e] X.env)).all (fun x => !x.1) && (backToKw pos (keywordEach [] X.env)).all (fun x => x.1.isSome) && decide ([e].length + ([] : List Keyword).length + (if ([] : List Keyword).isEmpty then 0 else 1) < 30)) = true := by rfl) :
    DE X (.Call (.Attribute o "append" apos) [e] [] pos) (eLm0 (fun _ => appL) fo f) := de_lm PySem.F.slot_list_append PySem.F.type_list_append mt_append rfl_app ho ha hbase hfew hline hs rfl
theorem de_extend {fo : EF} {f : AF} (ho : DE X o fo) (ha : DA X [e] f) (hbase : attributeBase o "extend" X.env (eval o X.env) = eval o X.env := by rfl) (hline : (apos.endLine == pos.line) = true := by rfl) (hs : starEach [e] X.env = [(false, eval e X.env)] := by rfl)
    (hfew : ((backTo pos (starEach [e] X.env)).all (fun x => !x.1) && (backToKw pos (keywordEach [] X.env)).all (fun x => x.1.isSome) && decide ([e].length + ([] : List Keyword).length + (if ([] : List Keyword).isEmpty then 0 else 1) < 30)) = true := by rfl) :
    DE X (.Call (.Attribute o "extend" apos) [e] [] pos) (eLm0 extL fo f) := de_lm PySem.F.slot_list_extend PySem.F.type_list_extend mt_extend rfl_ext ho ha hbase hfew hline hs rfl
theorem RepL.setAt {ds : List D} {vs : List V} {d : D} {v : V} {j : Nat} (r : RepL g T H ds vs) (q : Rep g T H d v) : RepL g T H (ds.set j d) (vs.set j v) := by
  induction j generalizing ds vs with
  | zero => cases r with
    | nil => exact .nil
    | cons _ s => exact .cons q s
  | succ j ih => cases r with
    | nil => exact .nil
    | cons a s => exact .cons a (ih s)
end
end L4
namespace L4
open PySem L2
section
variable {X : Cx} {g : G} {T T' : Tk} {H : Hp} {m : M} {Q : VK} {pos p apos : Pos} {e o : Expr} {es : List Expr} {k n : Nat} {x c nm : Str}
theorem Gd.blk {s : Shared} {H : Hp} {sc : Scope} {ev : Env} {fp : List Addr} (h : Gd k X) : Gd k (X.blk s H sc ev fp) := ⟨h.g, h.r⟩
theorem de_callB {id : String} {F : M → List D → Option D} {f : AF} (hc : CallD X (.builtin id) F) (hg : Gl X x) (hm : X.mg x = none) (hv : bootBuiltins x = some (.builtin id)) (ha : DA X (e :: es) f) (hn : x ≠ "__name__" := by decide) (hdb : (x == ("__debug__" : Str)) = false := by decide)
    (he : starEach (e :: es) X.env = (false, eval e X.env) :: starEach es X.env := by rfl) (hpl : (backTo pos (starEach es X.env)).any (·.1) = false := by rfl) : DE X (.Call (.Name x p) (e :: es) [] pos) (eCall F f) := by
  obtain ⟨r, h, q⟩ := hc.ex; obtain ⟨t, pa, ra⟩ := ha.ex
  exact ⟨_, pe_callB h hg hm hv pa hn hdb he hpl, rf_call q ra⟩
theorem de_callT {id : String} {F : M → List D → Option D} {f : AF} (hc : CallD X (.type id) F) (hg : Gl X x) (hm : X.mg x = none) (hv : bootBuiltins x = some (.type id)) (ha : DA X (e :: es) f) (hn : x ≠ "__name__" := by decide) (hdb : (x == ("__debug__" : Str)) = false := by decide)
    (he : starEach (e :: es) X.env = (false, eval e X.env) :: starEach es X.env := by rfl) (hpl : (backTo pos (starEach es X.env)).any (·.1) = false := by rfl) : DE X (.Call (.Name x p) (e :: es) [] pos) (eCall F f) := by
  obtain ⟨r, h, q⟩ := hc.ex; obtain ⟨t, pa, ra⟩ := ha.ex
  exact ⟨_, pe_callTy h hg hm hv pa hn hdb he hpl, rf_call q ra⟩
theorem orC {F : Value} {r q : List V → Hp → VK → Prop} (h1 : CallR X F r) (h2 : CallR X F q) : CallR X F (fun x H Q => r x H Q ∨ q x H Q) := by
  intro pins s σ H xs us Q I rx h
  rcases h with h | h
  · exact h1 pins s σ H xs us Q I rx h
  · exact h2 pins s σ H xs us Q I rx h
theorem RepL.one {d : D} {vs : List V} (r : RepL g T H [d] vs) : ∃ v, vs = [v] ∧ Rep g T H d v := by
  cases r with
  | cons r s => cases s; exact ⟨_, rfl, r⟩
theorem RepL.two {d e : D} {vs : List V} (r : RepL g T H [d, e] vs) : ∃ v w, vs = [v, w] ∧ Rep g T H d v ∧ Rep g T H e w := by
  cases r with
  | cons r s => obtain ⟨w, rfl, q⟩ := s.one; exact ⟨_, _, rfl, r, q⟩
def absD : M → List D → Option D
  | _, [.int i] => some (.int (if i < 0 then -i else i))
  | _, _ => none
theorem call_abs' : CallD X (.builtin "abs") absD := ⟨_, call_abs, fun T H m xs vs d hm r hf Q k => by
  unfold absD at hf; split at hf
  · cases hf; obtain ⟨v, rfl, q⟩ := r.one; cases q; exact ⟨_, rfl, k.now hm (.int _)⟩
  · cases hf⟩
def min2D : M → List D → Option D
  | _, [.int i, .int j] => some (.int (if j < i then j else i))
  | _, _ => none
theorem call_min2'' (hc : X.calm = true) : CallD X (.builtin "min") min2D := ⟨_, call_min2 hc, fun T H m xs vs d hm r hf Q k => by
  unfold min2D at hf; split at hf
  · cases hf; obtain ⟨v, w, rfl, q1, q2⟩ := r.two; cases q1; cases q2; exact ⟨_, _, rfl, k.now hm (.int _)⟩
  · cases hf⟩
def max2D : M → List D → Option D
  | _, [.int i, .int j] => some (.int (if j > i then j else i))
  | _, _ => none
theorem call_max2'' (hc : X.calm = true) : CallD X (.builtin "max") max2D := ⟨_, call_max2 hc, fun T H m xs vs d hm r hf Q k => by
  unfold max2D at hf; split at hf
  · cases hf; obtain ⟨v, w, rfl, q1, q2⟩ := r.two; cases q1; cases q2; exact ⟨_, _, rfl, k.now hm (.int _)⟩
  · cases hf⟩
def intD : M → List D → Option D
  | _, [.int i] => some (.int i)
  | _, [.bl b] => some (.int (if b then 1 else 0))
  | _, [.str a] => if a.length ≤ 640 then (PySem.intText? a).map .int else none
  | _, _ => none
theorem call_int' : CallD X (.type "int") intD := ⟨_, orC call_int1 call_int_str, fun T H m xs vs d hm r hf Q k => by
  unfold intD at hf; split at hf
  · cases hf; obtain ⟨v, rfl, q⟩ := r.one; cases q; exact .inl (.inl ⟨_, rfl, k.now hm (.int _)⟩)
  · cases hf; obtain ⟨v, rfl, q⟩ := r.one; cases q; exact .inl (.inr ⟨_, rfl, k.now hm (.int _)⟩)
  · obtain ⟨hz, hf⟩ := ite_some hf
    obtain ⟨n, hn, rfl⟩ := Option.map_eq_some_iff.mp hf
    obtain ⟨v, rfl, q⟩ := r.one; cases q; exact .inr ⟨_, n, rfl, hn, hz, k.now hm (.int _)⟩
  · cases hf⟩
def lenD : M → List D → Option D
  | _, [.tup ds] => some (.int ds.length)
  | _, [.str a] => if a.length ≤ sizeLine then some (.int a.length) else none
  | m, [x] => (lstR m x).map fun ds => .int ds.length
  | _, _ => none
theorem call_len' : CallD X (.builtin "len") lenD := ⟨_, call_len, fun T H m xs vs d hm r hf Q k => by
  unfold lenD at hf; split at hf
  · cases hf; obtain ⟨v, rfl, q⟩ := r.one
    obtain ⟨a, ws, rfl, hx, rl⟩ := tup_rep q
    exact ⟨_, _, rfl, .inr ⟨ws, hx, rl.length⟩, k.now hm (.int _)⟩
  · obtain ⟨hz, hf⟩ := ite_some hf
    cases hf; obtain ⟨v, rfl, q⟩ := r.one; cases q; exact ⟨_, _, rfl, ⟨hz, rfl⟩, k.now hm (.int _)⟩
  · obtain ⟨ds, h1, rfl⟩ := Option.map_eq_some_iff.mp hf
    obtain ⟨v, rfl, q⟩ := r.one
    obtain ⟨a, ws, rfl, hx, rl⟩ := lstR_rep hm q h1
    exact ⟨_, _, rfl, .inl ⟨ws, hx, rl.length⟩, k.now hm (.int _)⟩
  · cases hf⟩
def strD : M → List D → Option D
  | _, [.int i] => if i.natAbs.log2 < 1920 then some (.str (toString i)) else none
  | _, _ => none
def tupD : M → List D → Option D
  | _, [.tup ds] => some (.tup ds)
  | m, [x] => (lstR m x).map .tup
  | _, _ => none
theorem call_tup' : CallD X (.type "tuple") tupD := ⟨_, call_tuple_of, fun T H m xs vs d hm r hf Q k => by
  unfold tupD at hf; split at hf
  · cases hf; obtain ⟨v, rfl, q⟩ := r.one
    obtain ⟨a, ws, rfl, hx, rl⟩ := tup_rep q
    exact ⟨a, ws, rfl, .inr ⟨hx, k.now hm q⟩⟩
  · obtain ⟨ds, h1, rfl⟩ := Option.map_eq_some_iff.mp hf
    obtain ⟨v, rfl, q⟩ := r.one
    obtain ⟨a, ws, rfl, hx, rl⟩ := lstR_rep hm q h1
    exact ⟨a, ws, rfl, .inl ⟨hx, fun l hl => k.tup hm rl l hl⟩⟩
  · cases hf⟩
def lisD : M → List D → Option D
  | _, [.tup ds] => some (.lst ds)
  | m, [x] => (lstR m x).map .lst
  | _, _ => none
/-- list(x) that is changed behind it -/
def eLisN (a : EF) : EF := fun ρ m => bd (a ρ m) fun x m1 => match lisD m1 [x] with
  | some (.lst ds) => some (.ref m1.length, m1 ++ [.lst ds])
  | _ => none
theorem de_lisN {f : EF} (hg : Gl X "list") (hm : X.mg "list" = none) (ha : DE X e f) (he : starEach [e] X.env = (false, eval e X.env) :: starEach [] X.env := by rfl) : DE X (.Call (.Name "list" p) [e] [] pos) (eLisN f) := by
  obtain ⟨t, pa, ra⟩ := ha.ex
  refine ⟨_, pe_callTy call_list_of hg hm (by decide +kernel) (pa_cons pa pa_nil he) (by decide) (by decide) he rfl, fun T σ H ρ m d m' hm hs hf Q k => ?_⟩
  obtain ⟨x, m1, e1, hf⟩ := bd_some hf
  refine ra T σ H ρ m x m1 hm hs e1 _ fun v T1 H1 l1 hm1 r1 => ?_
  split at hf
  · next ds h =>
    cases hf
    unfold lisD at h
    split at h
    · next h2 =>
      cases h; cases h2
      obtain ⟨a, ws, rfl, hx, rl⟩ := tup_rep r1
      exact ⟨a, ws, rfl, .inr hx, fun l hl => (k.le l1).newL hm1 rl l hl⟩
    · next h2 =>
      cases h2
      obtain ⟨es, h3, h4⟩ := Option.map_eq_some_iff.mp h
      cases h4
      obtain ⟨a, ws, rfl, hx, rl⟩ := lstR_rep hm1 r1 h3
      exact ⟨a, ws, rfl, .inl hx, fun l hl => (k.le l1).newL hm1 rl l hl⟩
    · cases h
  · cases hf
def tyO : O → Option String
  | .lst _ => some "list"
  | _ => none
def tyName (m : M) : D → Option String
  | .non => some "NoneType"
  | .bl _ => some "bool"
  | .int _ => some "int"
  | .str _ => some "str"
  | .tup _ => some "tuple"
  | .lst _ => some "list"
  | .scr _ => some "list"
  | .ref n => (m[n]?).bind tyO
  | _ => none
def isiB (t c : String) : Bool := t == c || (t == "bool" && c == "int")
def kinds : List String := ["int", "bool", "str", "tuple", "list"]
def isiD : M → List D → Option D
  | m, [x, .ty c] => if kinds.contains c then (tyName m x).map fun t => .bl (isiB t c) else none
  | m, [x, .tup [.ty c, .ty c']] => if kinds.contains c && kinds.contains c' then (tyName m x).map fun t => .bl (isiB t c || isiB t c') else none
  | _, _ => none
/-- isinstance(x, (c1, c2)), the tuple in the heap, known or not -/
def rIsiR (K : PySem.W.Frag) : List V → Hp → VK → Prop := fun xs H Q => ∃ (x : V) (tp : Addr) (cs : List V) (t : Value) (us : List Value) (b : Bool), xs = [x, .ref tp] ∧ Rd H tp (.tup cs) ∧ Paired ClsV cs us ∧ TyX K H x t ∧ PySem.W.kitAny K t us = some b ∧ Q (.bl b) H
theorem call_isiR : CallR X (.builtin "isinstance") (rIsiR X.K) := fun pins s σ H xs us Q I r h => by
  obtain ⟨x, tp, cs, t, ws, b, rfl, hT, k, ty, e, q⟩ := h
  obtain ⟨u1, u2, rfl, r1, r2⟩ := vals2 r
  cases r2
  obtain ⟨Pz, Z, pz, hx⟩ := kit_of I r1 ty
  obtain ⟨_, its, rv, ⟨_, _, _, _⟩, h1, h2, n, h3⟩ := hT.ok I.hok
  cases h2; cases h3
  rw [ClsV.all k rv] at h1
  exact PySem.W.kia_tup Z I.kIn pz h1 e hx fun tk => ⟨.bl b, H, I.tok tk, rfl, q⟩
theorem tyX_of {d : D} {v : V} {t : String} (hm : RepH g T H m) (r : Rep g T H d v) (h : tyName m d = some t) : TyX g.K H v (.type t) := by
  cases r with
  | non => cases h; exact .base .non
  | bl b => cases h; exact .base (.bl b)
  | int b => cases h; exact .base (.int b)
  | str b => cases h; exact .base (.str b)
  | tup f _ =>
    cases h
    rcases f with ⟨_, f | ⟨_, f⟩⟩ | f
    · exact .base (.tup f)
    · exact .fTuple f
    · rcases f with (f | ⟨_, f⟩) | ⟨o, its, n, h1, h2, _⟩
      · cases f
      · cases f
      · exact .kTuple h1 h2
  | lst f _ => cases h; exact .base (.lst f.2)
  | scr f _ =>
    cases h
    rcases f with ⟨_, o, f⟩ | f
    · exact .base (.frz f)
    · rcases f with (f | ⟨_, f⟩) | ⟨o, its, n, h1, h2, _⟩
      · cases f
      · cases f
      · exact .kList h1 h2
  | ref e =>
    obtain ⟨o, h1, h2⟩ := Option.bind_eq_some_iff.mp h
    cases hm.at_ _ _ _ e h1 with
    | lst f r => cases h2; exact .base (.lst f)
    | _ => cases h2
  | _ => cases h
theorem tyO_lst {o : O} {t : String} (h : tyO o = some t) : t = "list" := by
  cases o with
  | lst ds => cases h; rfl
  | _ => cases h
theorem tyName_mem {d : D} {t : String} (h : tyName m d = some t) : t ∈ ["NoneType", "bool", "int", "str", "tuple", "list"] := by
  cases d with
  | ref n =>
    obtain ⟨o, h1, h2⟩ := Option.bind_eq_some_iff.mp h
    rw [tyO_lst h2]
    decide
  | non => cases h; decide
  | bl b => cases h; decide
  | int b => cases h; decide
  | str b => cases h; decide
  | tup b => cases h; decide
  | lst b => cases h; decide
  | scr b => cases h; decide
  | _ => cases h
theorem kit_isi : ∀ t ∈ ["NoneType", "bool", "int", "str", "tuple", "list"], ∀ c ∈ kinds, kitB t c = some (isiB t c) := by decide +kernel
theorem call_isi' : CallD X (.builtin "isinstance") isiD := ⟨_, orC call_isi (orC call_isiR call_isiK), fun T H m xs vs d hm r hf Q k => by
  unfold isiD at hf; split at hf
  · next y c =>
    obtain ⟨hc, hf⟩ := ite_some hf
    obtain ⟨t, h1, rfl⟩ := Option.map_eq_some_iff.mp hf
    obtain ⟨v, w, rfl, q1, q2⟩ := r.two
    cases q2
    exact .inl ⟨_, _, _, _, _, rfl, .ty _, tyX_of hm q1 h1, kit_ty (kit_isi t (tyName_mem h1) c (by simpa using hc)), k.now hm (.bl _)⟩
  · next y c c' =>
    obtain ⟨hc, hf⟩ := ite_some hf
    obtain ⟨t, h1, rfl⟩ := Option.map_eq_some_iff.mp hf
    obtain ⟨v, w, rfl, q1, q2⟩ := r.two
    obtain ⟨hc1, hc2⟩ := and2 hc
    have k1 := kit_isi t (tyName_mem h1) c (by simpa using hc1)
    have k2 := kit_isi t (tyName_mem h1) c' (by simpa using hc2)
    cases q2 with
    | tup f rl =>
      obtain ⟨v1, v2, rfl, z1, z2⟩ := rl.two
      cases z1; cases z2
      have key : PySem.W.kitAny X.K (.type t) [.type c, .type c'] = some (isiB t c || isiB t c') := by
        unfold PySem.W.kitAny
        rw [kit_ty k1]
        cases h2 : isiB t c with
        | true => rfl
        | false =>
          show PySem.W.kitAny _ _ _ = _
          unfold PySem.W.kitAny
          rw [kit_ty k2]
          cases h3 : isiB t c' <;> rfl
      rcases f with ⟨_, f⟩ | f
      · exact .inr (.inl ⟨_, _, _, _, _, _, rfl, f, .cons (.ty _) (.cons (.ty _) .nil), tyX_of hm q1 h1, key, k.now hm (.bl _)⟩)
      · rcases f with (f | ⟨_, f⟩) | ⟨⟨cl, dd, dt, sl⟩, its, n, h5, h6, h7, _, h8⟩
        · cases f
        · cases f
        · simp only at h6 h7
          subst h6 h7
          have e : its = #[.type c, .type c'] := by
            cases hi : its.toList with
            | nil => rw [hi] at h8; cases h8
            | cons a b =>
              rw [hi] at h8
              cases h8 with
              | cons y1 y2 =>
                cases y2 with
                | cons y3 y4 =>
                  cases y4
                  cases (show a = Value.type c from y1)
                  cases (show _ = Value.type c' from y3)
                  exact Array.ext' hi
          subst e
          exact .inr (.inr ⟨_, _, dd, [.type c, .type c'], n, sl, _, _, rfl, h5, tyX_of hm q1 h1, key, k.now hm (.bl _)⟩)
  · cases hf⟩
theorem de_ty {t : String} (hg : Gl X x) (hm : X.mg x = none) (hv : bootBuiltins x = some (.type t)) (hn : x ≠ "__name__" := by decide) (hd : (x == ("__debug__" : Str)) = false := by decide) : DE X (.Name x pos) (eC (.ty t)) :=
  ⟨_, pe_bltn (v := .ty t) hg hm hv rfl hn hd, rf_c fun _ _ => .ty t⟩
theorem de_glo (hg : Gl X x) (hm : X.mg x = some (.ref (He.ga X.K x))) (hd : (x == ("__debug__" : Str)) = false := by decide) : DE X (.Name x pos) (eC (.glo x)) :=
  ⟨_, pe_glob (v := .ref (He.ga X.K x)) hg hm rfl hd, rf_c fun _ _ => .glo x⟩
/-- a tuple of the top -/
theorem de_gtup {ds : List D} {vs : List V} (hg : Gl X x) (hm : X.mg x = some (.ref (He.ga X.K x))) (h : ∀ H, SqT X.K H (He.ga X.K x) vs) (hr : ∀ T H, RepL (gx X) T H ds vs) (hd : (x == ("__debug__" : Str)) = false := by decide) : DE X (.Name x pos) (eC (.tup ds)) :=
  ⟨_, pe_glob (v := .ref (He.ga X.K x)) hg hm rfl hd, rf_c fun T H => .tup (.inr (h _)) (hr T H)⟩
theorem de_gstr {v : Str} (hg : Gl X x) (hm : ∃ t, X.mg x = some (.str v t)) (hd : (x == ("__debug__" : Str)) = false := by decide) : DE X (.Name x pos) (eC (.str v)) := by
  obtain ⟨t, hm⟩ := hm
  exact ⟨_, pe_glob (v := .str v) hg hm ⟨t, rfl⟩ hd, rf_c fun T H => .str v⟩
def eM1 (F : M → D → D → Option D) (a b : EF) : EF := fun ρ m => bd (a ρ m) fun x m1 => match x with
  | .str z => bd (b ρ m1) fun y m2 => pu (F m2 (.str z) y) m2
  | _ => none
theorem rf_m1 {r : V → List V → Hp → VK → Prop} {F : M → D → D → Option D} {ta tb : TE} {a b : EF} (hr : ∀ T H m z y u d, RepH g T H m → Rep g T H y u → F m (.str z) y = some d → ∀ Q, KV g T H m d Q → r (.str z) [u] H Q) (ha : RfE g ta a) (hb : RfE g tb b) : RfE g (tM1 r ta tb) (eM1 F a b) := by
  intro T σ H ρ m d m' hm hs hf Q k
  obtain ⟨x, m1, e1, hf1⟩ := bd_some hf
  refine ha T σ H ρ m x m1 hm hs e1 _ fun v T1 H1 l1 hm1 r1 => ?_
  clear hf
  cases r1 with
  | str z =>
    obtain ⟨y, m2, e2, hf⟩ := bd_some hf1
    obtain ⟨e3, rfl⟩ := pu_some hf
    refine ⟨⟨z, rfl⟩, hb T1 σ H1 ρ m1 y _ hm1 (hs.le l1) e2 _ fun u T2 H2 l2 hm2 r2 => ?_⟩
    exact hr T2 H2 _ z y u d hm2 r2 e3 Q (k.le (l1.trans l2))
  | _ => cases hf1
def spl1 (c : Nat) : List Nat → List (List Nat)
  | [] => [[]]
  | x :: xs => if x = c then [] :: spl1 c xs else match spl1 c xs with
    | w :: ws => (x :: w) :: ws
    | [] => [[x]]
theorem spl1_ne (c : Nat) : ∀ l : List Nat, ∃ w ws, spl1 c l = w :: ws
  | [] => ⟨_, _, rfl⟩
  | x :: xs => by
    obtain ⟨w, ws, e⟩ := spl1_ne c xs
    simp only [spl1, e]
    split <;> exact ⟨_, _, rfl⟩
theorem spl_one (c : Nat) : ∀ (l acc w : List Nat) (ws : List (List Nat)), spl1 c l = w :: ws → TL.spl [c] 0 acc l = (acc ++ w) :: ws
  | [], acc, w, ws, h => by cases h; simp [TL.spl]
  | x :: xs, acc, w, ws, h => by
    obtain ⟨v, vs, e⟩ := spl1_ne c xs
    simp only [spl1, e] at h
    by_cases hx : x = c
    · rw [if_pos hx] at h
      cases h
      have hp : TL.pre [c] (x :: xs) = true := by simp [TL.pre, hx]
      simp only [TL.spl, hp, if_true, List.length_singleton, Nat.sub_self, List.append_nil]
      rw [spl_one c xs [] v vs e]
      simp
    · rw [if_neg hx] at h
      cases h
      have hp : TL.pre [c] (x :: xs) = false := by simp [TL.pre]; exact fun z => hx (by first | exact z | exact z.symm)
      simp only [TL.spl, hp, Bool.false_eq_true, if_false]
      rw [spl_one c xs _ _ _ e]
      simp
def splitS (a : Str) (c : Nat) : List Str := (spl1 c a.cps.toList).map fun l => ⟨l.toArray⟩
theorem splitS_eq {a : Str} {c : Nat} (hc : c < 256) : Txt.split a ⟨#[c]⟩ = splitS a c := by
  obtain ⟨w, ws, e⟩ := spl1_ne c a.cps.toList
  have h := SX.split_S (a := a.cps.toList) (b := [c]) (by simp) (by simpa using hc)
  rw [spl_one c _ [] w ws e] at h
  unfold splitS
  rw [e]
  have ea : (SX.S a.cps.toList : Str) = a := by cases a; rfl
  rw [ea] at h
  simpa using h
def splitD : M → D → D → Option D
  | _, .str a, .str b => match b.cps.toList with
    | [c] => if c < 256 ∧ a.length + 2 ≤ sizeLine then some (.lst ((splitS a c).map .str)) else none
    | _ => none
  | _, _, _ => none
theorem repL_strs (ys : List Str) : RepL g T H (ys.map .str) (ys.map V.str) := by
  induction ys with
  | nil => exact .nil
  | cons y ys ih => exact .cons (.str y) ih
theorem de_split {fo fe : EF} (ho : DE X o fo) (he : DE X e fe) (hs : starEach [e] X.env = [(false, eval e X.env)] := by rfl) (hbase : attributeBase o "split" X.env (eval o X.env) = eval o X.env := by rfl) (hline : (apos.endLine == pos.line) = true := by rfl) :
    DE X (.Call (.Attribute o "split" apos) [e] [] pos) (eM1 splitD fo fe) := by
  obtain ⟨to, po, ro⟩ := ho.ex; obtain ⟨te, pe, re⟩ := he.ex
  refine ⟨_, pe_split po pe hs hbase hline, rf_m1 (fun T H m z y u d hm ry hf Q k => ?_) ro re⟩
  cases ry with
  | str b =>
    change (match b.cps.toList with
      | [c] => if c < 256 ∧ z.length + 2 ≤ sizeLine then some (.lst ((splitS z c).map .str)) else none
      | _ => none) = some d at hf
    split at hf
    · next c hc =>
      obtain ⟨⟨h1, h2⟩, hf⟩ := ite_some hf
      cases hf
      have eb := sign_of hc
      subst eb
      exact ⟨z, _, rfl, rfl, rfl, h2, fun p hp => by rw [splitS_eq h1]; exact k.lst hm (repL_strs _) p hp⟩
    · cases hf
  | _ => cases hf
def txts : List D → Option (List Str)
  | [] => some []
  | .str x :: ds => (txts ds).map (x :: ·)
  | _ => none
theorem txts_rep : ∀ {ds : List D} {ys : List Str} {vs : List V}, txts ds = some ys → RepL g T H ds vs → vs = ys.map V.str
  | [], _, _, h, r => by cases h; cases r; rfl
  | .str x :: ds, _, _, h, r => by
    obtain ⟨ys, h1, rfl⟩ := Option.map_eq_some_iff.mp h
    cases r with
    | cons a s => cases a; rw [txts_rep h1 s]; rfl
  | .non :: _, _, _, h, _ => by cases h
  | .bl _ :: _, _, _, h, _ => by cases h
  | .int _ :: _, _, _, h, _ => by cases h
  | .tup _ :: _, _, _, h, _ => by cases h
  | .lst _ :: _, _, _, h, _ => by cases h
  | .scr _ :: _, _, _, h, _ => by cases h
  | .dic _ _ :: _, _, _, h, _ => by cases h
  | .obj _ _ _ :: _, _, _, h, _ => by cases h
  | .ref _ :: _, _, _, h, _ => by cases h
  | .glo _ :: _, _, _, h, _ => by cases h
  | .ty _ :: _, _, _, h, _ => by cases h
  | .ptp _ :: _, _, _, h, _ => by cases h
def seqD (m : M) : D → Option (List D)
  | .tup ds => some ds
  | y => lstR m y
theorem seq_rep {d : D} {v : V} {ds : List D} (hm : RepH g T H m) (r : Rep g T H d v) (h : seqD m d = some ds) : ∃ a vs, v = .ref a ∧ (SqL g.K H a vs ∨ SqT g.K H a vs) ∧ RepL g T H ds vs := by
  unfold seqD at h
  split at h
  · cases h
    obtain ⟨a, ws, rfl, hx, rl⟩ := tup_rep r
    exact ⟨a, ws, rfl, .inr hx, rl⟩
  · obtain ⟨a, ws, rfl, hx, rl⟩ := lstR_rep hm r h
    exact ⟨a, ws, rfl, .inl hx, rl⟩
def joinT (a : Str) (ys : List Str) : Str := ⟨(TL.joinL a.cps.toList (ys.map fun y => y.cps.toList)).toArray⟩
theorem joinT_eq (a : Str) (ys : List Str) : Txt.join a ys = joinT a ys := by
  have h := SX.join_S a.cps.toList (ys.map fun y => y.cps.toList)
  have ea : (SX.S a.cps.toList : Str) = a := by cases a; rfl
  have ey : (ys.map fun y => y.cps.toList).map SX.S = ys := by
    rw [List.map_map]
    conv => rhs; rw [← List.map_id ys]
    exact List.map_congr_left fun y _ => by cases y; rfl
  rw [ea, ey] at h
  exact h
def joinS (a : Str) (ys : List Str) : Option D := if (ys.map (·.length)).sum + ys.length * a.length ≤ 16777216 then some (.str (joinT a ys)) else none
def joinD (m : M) (x y : D) : Option D := match x with
  | .str a => ((seqD m y).bind txts).bind (joinS a)
  | _ => none
theorem de_join {fo fe : EF} (ho : DE X o fo) (he : DE X e fe) (hs : starEach [e] X.env = [(false, eval e X.env)] := by rfl) (hbase : attributeBase o "join" X.env (eval o X.env) = eval o X.env := by rfl) (hline : (apos.endLine == pos.line) = true := by rfl) :
    DE X (.Call (.Attribute o "join" apos) [e] [] pos) (eM1 joinD fo fe) := by
  obtain ⟨to, po, ro⟩ := ho.ex; obtain ⟨te, pe, re⟩ := he.ex
  refine ⟨_, pe_join po pe hs hbase hline, rf_m1 (fun T H m z y u d hm ry hf Q k => ?_) ro re⟩
  obtain ⟨ys, h1, h2⟩ := Option.bind_eq_some_iff.mp hf
  obtain ⟨ds, h3, h4⟩ := Option.bind_eq_some_iff.mp h1
  obtain ⟨hz, h5⟩ := ite_some h2
  cases h5
  obtain ⟨a, ws, rfl, hx, rl⟩ := seq_rep hm ry h3
  rw [txts_rep h4 rl] at hx
  exact ⟨z, a, ys, rfl, rfl, hx, hz, by rw [joinT_eq]; exact k.now hm (.str _)⟩
def fmtD (d : D) : Option Str := match d with
  | .str y => if y.length ≤ sizeLine then some y else none
  | .int i => if i.natAbs.log2 < 1920 then some (toString i) else none
  | _ => none
def eFmt (a : EF) : EF := fun ρ m => bd (a ρ m) fun x m1 => pu ((fmtD x).map .str) m1
theorem de_fmt {f : EF} (h : DE X e f) : DE X (.FormattedValue e (-1) none pos) (eFmt f) := by
  obtain ⟨t, p, r⟩ := h.ex
  refine ⟨_, pe_fmt p, fun T σ H ρ m d m' hm hs hf Q k => ?_⟩
  obtain ⟨x, m1, e1, hf⟩ := bd_some hf
  obtain ⟨e2, rfl⟩ := pu_some hf
  obtain ⟨y, h1, rfl⟩ := Option.map_eq_some_iff.mp e2
  refine r T σ H ρ m x _ hm hs e1 _ fun v T1 H1 l1 hm1 r1 => ?_
  cases r1 with
  | str z => obtain ⟨hz, h1⟩ := ite_some h1; cases h1; exact .inl ⟨_, rfl, hz, k _ T1 H1 l1 hm1 (.str _)⟩
  | int i => obtain ⟨hz, h1⟩ := ite_some h1; cases h1; exact .inr ⟨_, rfl, hz, k _ T1 H1 l1 hm1 (.str _)⟩
  | _ => cases h1
def joinF : List EF → Str → Ss → M → Option (D × M)
  | [], acc, _, m => some (.str acc, m)
  | f :: fs, acc, ρ, m => bd (f ρ m) fun x m1 => match x with
    | .str y => if (catS acc y).length ≤ sizeLine then joinF fs (catS acc y) ρ m1 else none
    | _ => none
inductive DJ (X : Cx) : List Expr → List EF → Prop where
  | nil : DJ X [] []
  | cons {e : Expr} {f : EF} {es : List Expr} {fs : List EF} (h : DE X e f) (r : DJ X es fs) : DJ X (e :: es) (f :: fs)
theorem dj_ex {es : List Expr} {fs : List EF} (h : DJ X es fs) : ∃ ts, PJ X es ts ∧ ∀ (acc : Str) T σ H ρ m d m', RepH (gx X) T H m → RepS (gx X) T H σ ρ → joinF fs acc ρ m = some (d, m') → ∀ Q : VK, KV (gx X) T H m' d Q → tJs ts acc σ H fun out H1 => Q (.str out) H1 := by
  induction h with
  | nil => exact ⟨[], .nil, fun acc T σ H ρ m d m' hm hs hf Q k => by cases hf; exact k.now hm (.str _)⟩
  | cons h _ ih =>
    obtain ⟨t, p, r⟩ := h.ex
    obtain ⟨ts, ps, rs⟩ := ih
    refine ⟨t :: ts, .cons p ps, fun acc T σ H ρ m d m' hm hs hf Q k => ?_⟩
    obtain ⟨x, m1, e1, hf1⟩ := bd_some hf
    refine r T σ H ρ m x m1 hm hs e1 _ fun v T1 H1 l1 hm1 r1 => ?_
    cases r1 with
    | str z =>
      obtain ⟨hz, hf2⟩ := ite_some hf1
      rw [← catS_eq] at hz hf2
      exact ⟨z, rfl, hz, rs _ T1 σ H1 ρ m1 d m' hm1 (hs.le l1) hf2 Q (k.le l1)⟩
    | _ => cases hf1
theorem de_joined {v1 v2 : Expr} {rest : List Expr} {fs : List EF} (h : DJ X (v1 :: v2 :: rest) fs) : DE X (.JoinedStr (v1 :: v2 :: rest) pos) (joinF fs Str.empty) := by
  obtain ⟨ts, p, r⟩ := dj_ex h
  exact ⟨_, pe_joined p, r _⟩
def sPar (is : List Nat) (a : AF) : SF := fun ρ m => bd (a ρ m) fun xs m1 => if xs.length = is.length then some (.nx (setMany ρ is xs), m1) else none
theorem ds_par3 {i j l : Nat} {x y z : Str} {a b c : Expr} {f : AF} {px py pz pt : Pos} {kt k2 pt2} (hc : X.calm = true) (hN : X.N.Nodup) (hi : X.N[i]? = some x) (hj : X.N[j]? = some y) (hl : X.N[l]? = some z) (hij : i ≠ j) (hil : i ≠ l) (hjl : j ≠ l)
    (hx : X.env.scope.names.lookup x = some .local) (hy : X.env.scope.names.lookup y = some .local) (hz : X.env.scope.names.lookup z = some .local) (ha : DA X [a, b, c] f)
    (hw : swappedStores [.Tuple [.Name x px, .Name y py, .Name z pz] kt pt] (.Tuple [a, b, c] k2 pt2) X.env = pure (some [x, y, z]))
    (hs : swapsWithSole [.Tuple [.Name x px, .Name y py, .Name z pz] kt pt] (.Tuple [a, b, c] k2 pt2) pos.line X.env = pure false := by rfl) : DS X (.Assign [.Tuple [.Name x px, .Name y py, .Name z pz] kt pt] (.Tuple [a, b, c] k2 pt2) pos) (sPar [i, j, l] f) := by
  obtain ⟨t, pa, ra⟩ := ha.ex
  refine ⟨_, ps_par3 hc hN hi hj hl hij hil hjl hx hy hz pa hw hs, fun T σ H ρ m d m' hm hs hf D k => ?_⟩
  obtain ⟨xs, m1, e1, hf⟩ := bd_some hf
  obtain ⟨hl, hf⟩ := ite_some hf
  cases hf
  refine ra T σ H ρ m xs _ hm hs e1 _ fun vs T1 H1 l1 hm1 r1 => ?_
  match xs, hl, r1 with
  | [d1, d2, d3], _, .cons q1 r1 =>
    obtain ⟨v, w, rfl, q2, q3⟩ := r1.two
    exact ⟨_, v, w, rfl, k _ T1 H1 l1 hm1 ((((hs.le l1).set q1).set q2).set q3)⟩
def eChain (f h : M → D → D → Option D) (a b c : EF) : EF := fun ρ m => bd (a ρ m) fun x m1 => bd (b ρ m1) fun y m2 => match f m2 x y with
  | some (.bl true) => bd (c ρ m2) fun z m3 => pu (h m3 y z) m3
  | some (.bl false) => some (.bl false, m2)
  | _ => none
theorem rf_chain {r r' : R2} {f h : M → D → D → Option D} {ta tb tc : TE} {a b c : EF} (h1 : RfO g r f) (h2 : RfO g r' h) (ha : RfE g ta a) (hb : RfE g tb b) (hc : RfE g tc c) : RfE g (tChain r r' ta tb tc) (eChain f h a b c) := by
  intro T σ H ρ m d m' hm hs hf Q k
  obtain ⟨x, m1, e1, hf1⟩ := bd_some hf
  obtain ⟨y, m2, e2, hf2⟩ := bd_some hf1
  clear hf hf1
  refine ha T σ H ρ m x m1 hm hs e1 _ fun v T1 H1 l1 hm1 r1 => ?_
  refine hb T1 σ H1 ρ m1 y m2 hm1 (hs.le l1) e2 _ fun u T2 H2 l2 hm2 r2 => ?_
  split at hf2
  · next hq =>
    obtain ⟨z, m3, e3, hf3⟩ := bd_some hf2
    obtain ⟨e4, e5⟩ := pu_some hf3
    subst e5
    refine h1 T2 H2 m2 x y v u _ hm2 (r1.le l2) r2 hq _ fun w T3 H3 l3 hm3 r3 => ?_
    cases r3
    refine ⟨true, rfl, ?_⟩
    rw [if_pos rfl]
    refine hc T3 σ H3 ρ m2 z _ hm3 (hs.le (l1.trans (l2.trans l3))) e3 _ fun w T4 H4 l4 hm4 r4 => ?_
    exact h2 T4 H4 _ y z u w d hm4 (r2.le (l3.trans l4)) r4 e4 Q (k.le (l1.trans (l2.trans (l3.trans l4))))
  · next hq =>
    cases hf2
    refine h1 T2 H2 _ x y v u _ hm2 (r1.le l2) r2 hq _ fun w T3 H3 l3 hm3 r3 => ?_
    cases r3
    exact ⟨false, rfl, by rw [if_neg Bool.false_ne_true]; exact k _ T3 H3 (l1.trans (l2.trans l3)) hm3 (.bl _)⟩
  · cases hf2
theorem dt_chain {op op' : CmpOp} {f h : M → D → D → Option D} {a b c : Expr} {fa fb fc : EF} (ho : OpD X (compareOp op) f) (ho' : OpD X (compareOp op') h) (ha : DE X a fa) (hb : DE X b fb) (hc : DE X c fc)
    (hm : lastMarks [op, op'] [b, c] = false := by with_unfolding_all rfl) : DT X (.Compare a [op, op'] [b, c] pos) (tVal (eChain f h fa fb fc)) := by
  obtain ⟨r, h1, q1⟩ := ho.ex; obtain ⟨r', h2, q2⟩ := ho'.ex; obtain ⟨ta, pa, ra⟩ := ha.ex; obtain ⟨tb, pb, rb⟩ := hb.ex; obtain ⟨tc, pc, rc⟩ := hc.ex
  exact ⟨_, pt_chain h1 h2 pa pb pc hm, rf_test (rf_chain q1 q2 ra rb rc)⟩
def aStar (a : EF) (r : AF) : AF := fun ρ m => bd (a ρ m) fun x m1 => match seqD m1 x with
  | some ds => bd (r ρ m1) fun ys m2 => some (ds ++ ys, m2)
  | none => none
theorem da_star {f : EF} {fr : AF} (he : DE X e f) (hr : DA X es fr) (hs : starEach (.Starred e p :: es) X.env = (true, eval e X.env) :: starEach es X.env := by rfl) : DA X (.Starred e p :: es) (aStar f fr) := by
  obtain ⟨te, pe, re⟩ := he.ex; obtain ⟨tr, pr, rr⟩ := hr.ex
  refine ⟨_, StX.pa_star pe pr hs, fun T σ H ρ m d m' hm hs hf Q k => ?_⟩
  obtain ⟨x, m1, e1, hf1⟩ := bd_some hf
  clear hf
  refine re T σ H ρ m x m1 hm hs e1 _ fun v T1 H1 l1 hm1 r1 => ?_
  split at hf1
  · next ds hd =>
    obtain ⟨ys, m2, e2, hf2⟩ := bd_some hf1
    cases hf2
    obtain ⟨a, ws, rfl, hx, rl⟩ := seq_rep hm1 r1 hd
    exact ⟨a, ws, rfl, hx.symm, rr T1 σ H1 ρ m1 ys _ hm1 (hs.le l1) e2 _ fun vs T2 H2 l2 hm2 r2 => k _ T2 H2 (l1.trans l2) hm2 ((rl.le l2).append r2)⟩
  · cases hf1
/-- a statement that is never come to -/
def sNo : SF := fun _ _ => none
theorem ds_never {s : Stmt} : DS X s sNo := ⟨_, ps_never, fun T σ H ρ m d m' hm hs hf D k => by cases hf⟩
end
end L4
namespace L4
open PySem L2
section
variable {X : Cx} {g : G} {T T' : Tk} {H : Hp} {m : M} {Q : VK} {pos p apos : Pos} {e o : Expr} {es : List Expr} {k n : Nat} {x c nm : Str}
theorem dv (i : Nat) {x : Str} {pos : Pos} (hN : X.N[i]? = some x := by rfl) (hv : Vis X.env.scope x := by first | exact Or.inl rfl | exact Or.inr (Or.inl rfl) | exact Or.inr (Or.inr rfl)) (hd : (x == ("__debug__" : Str)) = false := by decide)
    (hcd : (x == ("__classdict__" : Str)) = false := by decide) : DE X (.Name x pos) (eVar i) := de_var hN hv hd hcd
def big : Nat := 1000000
def sAug (i : Nat) (f : M → D → D → Option D) (a : EF) : SF := fun ρ m => match ρ.getD i none with
  | some x => bd (a ρ m) fun y m1 => bd (pu (f m1 x y) m1) fun z m2 => some (.nx (ρ.set i (some z)), m2)
  | none => none
def bools : List D → Option (List Bool)
  | [] => some []
  | .bl b :: ds => (bools ds).map (b :: ·)
  | _ => none
theorem bools_rep : ∀ {ds : List D} {bs : List Bool} {vs : List V}, bools ds = some bs → RepL g T H ds vs → vs = bs.map V.bl
  | [], _, _, h, r => by cases h; cases r; rfl
  | .bl x :: ds, _, _, h, r => by
    obtain ⟨ys, h1, rfl⟩ := Option.map_eq_some_iff.mp h
    cases r with
    | cons a s => cases a; rw [bools_rep h1 s]; rfl
  | .non :: _, _, _, h, _ => by cases h
  | .str _ :: _, _, _, h, _ => by cases h
  | .int _ :: _, _, _, h, _ => by cases h
  | .tup _ :: _, _, _, h, _ => by cases h
  | .lst _ :: _, _, _, h, _ => by cases h
  | .scr _ :: _, _, _, h, _ => by cases h
  | .dic _ _ :: _, _, _, h, _ => by cases h
  | .obj _ _ _ :: _, _, _, h, _ => by cases h
  | .ref _ :: _, _, _, h, _ => by cases h
  | .glo _ :: _, _, _, h, _ => by cases h
  | .ty _ :: _, _, _, h, _ => by cases h
  | .ptp _ :: _, _, _, h, _ => by cases h
end
end L4
namespace L4
open PySem L2
mutual
def eqK : D → D → Bool
  | .non, .non => true
  | .bl a, .bl b => a == b
  | .bl a, .int i => (if a then 1 else 0) == i
  | .int i, .bl a => i == (if a then 1 else 0)
  | .int i, .int j => i == j
  | .str x, .str y => decide (x = y)
  | .tup a, .tup b => eqKs a b
  | _, _ => false
def eqKs : List D → List D → Bool
  | [], [] => true
  | a :: as, b :: bs => eqK a b && eqKs as bs
  | _, _ => false
end
theorem nks_cons {d : D} {ds : List D} {x : List NestedKey} (h : nks (d :: ds) = some x) : ∃ k ks, nk d = some k ∧ nks ds = some ks ∧ x = k :: ks := by
  rw [nks] at h
  cases h1 : nk d with
  | none => rw [h1] at h; cases h
  | some k => cases h2 : nks ds with
    | none => rw [h1, h2] at h; cases h
    | some ks => rw [h1, h2] at h; cases h; exact ⟨k, ks, rfl, rfl, rfl⟩
theorem dec_num {a b : Int} : decide (NestedKey.num a = .num b) = (a == b) := by
  by_cases h : a = b
  · subst h; simp
  · rw [decide_eq_false (fun z => h (by injection z)), beq_eq_false_iff_ne.mpr h]
mutual
theorem eqK_nk : ∀ (a b : D) (x y : NestedKey), nk a = some x → nk b = some y → eqK a b = decide (x = y)
  | .non, b, x, y, h, h2 => by rw [nk] at h; cases h; cases b <;> rw [nk] at h2 <;> first | (cases h2; done) | (cases h2; rfl) | (obtain ⟨z, _, rfl⟩ := Option.map_eq_some_iff.mp h2; rfl)
  | .bl p, b, x, y, h, h2 => by
    rw [nk] at h; cases h
    cases b with
    | bl q => rw [nk] at h2; cases h2; rw [dec_num, eqK]; cases p <;> cases q <;> rfl
    | int j => rw [nk] at h2; cases h2; rw [dec_num, eqK]
    | non => rw [nk] at h2; cases h2; rfl
    | str z => rw [nk] at h2; cases h2; rfl
    | tup z => rw [nk] at h2; obtain ⟨w, _, rfl⟩ := Option.map_eq_some_iff.mp h2; rfl
    | _ => rw [nk] at h2; cases h2
  | .int p, b, x, y, h, h2 => by
    rw [nk] at h; cases h
    cases b with
    | bl q => rw [nk] at h2; cases h2; rw [dec_num, eqK]
    | int j => rw [nk] at h2; cases h2; rw [dec_num, eqK]
    | non => rw [nk] at h2; cases h2; rfl
    | str z => rw [nk] at h2; cases h2; rfl
    | tup z => rw [nk] at h2; obtain ⟨w, _, rfl⟩ := Option.map_eq_some_iff.mp h2; rfl
    | _ => rw [nk] at h2; cases h2
  | .str p, b, x, y, h, h2 => by
    rw [nk] at h; cases h
    cases b with
    | bl q => rw [nk] at h2; cases h2; rfl
    | int j => rw [nk] at h2; cases h2; rfl
    | non => rw [nk] at h2; cases h2; rfl
    | str z =>
      rw [nk] at h2; cases h2; rw [eqK]
      by_cases e : p = z
      · subst e; simp
      · rw [decide_eq_false e, decide_eq_false (fun q => e (by injection q))]
    | tup z => rw [nk] at h2; obtain ⟨w, _, rfl⟩ := Option.map_eq_some_iff.mp h2; rfl
    | _ => rw [nk] at h2; cases h2
  | .tup p, b, x, y, h, h2 => by
    rw [nk] at h
    obtain ⟨w, hw, rfl⟩ := Option.map_eq_some_iff.mp h
    cases b with
    | bl q => rw [nk] at h2; cases h2; rfl
    | int j => rw [nk] at h2; cases h2; rfl
    | non => rw [nk] at h2; cases h2; rfl
    | str z => rw [nk] at h2; cases h2; rfl
    | tup z =>
      rw [nk] at h2
      obtain ⟨u, hu, rfl⟩ := Option.map_eq_some_iff.mp h2
      rw [eqK, eqKs_nk p z w u hw hu]
      by_cases e : w = u
      · subst e; simp
      · rw [decide_eq_false e, decide_eq_false (fun q => e (by injection q))]
    | _ => rw [nk] at h2; cases h2
  | .lst _, _, _, _, h, _ => by rw [nk] at h; cases h
  | .scr _, _, _, _, h, _ => by rw [nk] at h; cases h
  | .dic _ _, _, _, _, h, _ => by rw [nk] at h; cases h
  | .obj _ _ _, _, _, _, h, _ => by rw [nk] at h; cases h
  | .ref _, _, _, _, h, _ => by rw [nk] at h; cases h
  | .glo _, _, _, _, h, _ => by rw [nk] at h; cases h
  | .ty _, _, _, _, h, _ => by rw [nk] at h; cases h
  | .ptp _, _, _, _, h, _ => by rw [nk] at h; cases h
theorem eqKs_nk : ∀ (a b : List D) (x y : List NestedKey), nks a = some x → nks b = some y → eqKs a b = decide (x = y)
  | [], b, x, y, h, h2 => by
    rw [nks] at h; cases h
    cases b with
    | nil => rw [nks] at h2; cases h2; rfl
    | cons d ds => obtain ⟨k, ks, _, _, rfl⟩ := nks_cons h2; rfl
  | d :: ds, b, x, y, h, h2 => by
    obtain ⟨k, ks, h3, h4, rfl⟩ := nks_cons h
    cases b with
    | nil => rw [nks] at h2; cases h2; rfl
    | cons e es =>
      obtain ⟨l, lt, h5, h6, rfl⟩ := nks_cons h2
      rw [eqKs, eqK_nk d e k l h3 h5, eqKs_nk ds es ks lt h4 h6]
      by_cases e1 : k = l
      · by_cases e2 : ks = lt
        · rw [decide_eq_true e1, decide_eq_true e2, decide_eq_true (by rw [e1, e2])]; rfl
        · rw [decide_eq_false e2, decide_eq_false (fun q => e2 (List.cons.inj q).2)]; simp
      · rw [decide_eq_false e1, decide_eq_false (fun q => e1 (List.cons.inj q).1)]; simp
end
theorem nkT_nk {d : D} {k : NestedKey} (h : nkT d = some k) : nk d = some k ∧ k.depth ≤ 8 := by
  unfold nkT at h
  split at h
  · split at h
    · next h1 =>
      obtain ⟨hd, h⟩ := ite_some h
      cases h
      exact ⟨by rw [nk, h1]; rfl, hd⟩
    · cases h
  · cases h
def dHas (ks : List D) (k : D) : Bool := ks.any fun a => eqK a k
def dGet : List D → List D → D → Option D
  | a :: ks, b :: vs, k => if eqK a k then some b else dGet ks vs k
  | _, _, _ => none
def dRep : List D → List D → D → D → List D
  | a :: ks, b :: vs, k, v => (if eqK a k then v else b) :: dRep ks vs k v
  | _, _, _, _ => []
def dPutK (ks : List D) (k : D) : List D := if dHas ks k then ks else ks ++ [k]
def dPutV (ks vs : List D) (k v : D) : List D := if dHas ks k then dRep ks vs k v else vs ++ [v]
def isFlat : D → Bool
  | .int _ => true
  | .str _ => true
  | _ => false
section
variable {X : Cx} {g : G} {T T' : Tk} {H : Hp} {m : M} {Q : VK} {pos p apos : Pos} {e o : Expr} {es : List Expr} {k n : Nat} {x c nm : Str}
def keyD : Key → D
  | .inl i => .int i
  | .inr x => .str x
theorem rep_key {d : D} {κ : Key} (r : Rep g T H d (kV κ)) : d = keyD κ := by
  cases κ with
  | inl i => cases r; rfl
  | inr i => cases r; rfl
theorem repL_keys : ∀ {ks : List D} {kvs : List (Key × V)}, RepL g T H ks (kvs.map fun p => kV p.1) → ks = kvs.map fun p => keyD p.1
  | [], [], _ => rfl
  | _ :: _, [], r => by cases r
  | [], _ :: _, r => by cases r
  | d :: ks, p :: kvs, r => by
    cases r with
    | cons a s => rw [rep_key a, repL_keys s]; rfl
theorem keyD_rep {κ : Key} : Rep g T H (keyD κ) (kV κ) := by
  cases κ with
  | inl i => exact .int i
  | inr i => exact .str i
theorem eqK_key (a b : Key) : eqK (keyD a) (keyD b) = decide (a = b) := by
  cases a with
  | inl i => cases b with
    | inl j => show eqK (.int i) (.int j) = _; rw [eqK, key_ll]
    | inr j => show eqK (.int i) (.str j) = _; rw [key_lr]; rfl
  | inr i => cases b with
    | inl j => show eqK (.str i) (.int j) = _; rw [key_rl]; rfl
    | inr j => show eqK (.str i) (.str j) = _; rw [eqK, key_rr]
theorem flat_get {κ : Key} : ∀ {kvs : List (Key × V)} {vs : List D}, RepL g T H vs (kvs.map Prod.snd) → (∀ d, dGet (kvs.map fun p => keyD p.1) vs (keyD κ) = some d → ∃ v, valV kvs κ = some v ∧ Rep g T H d v) ∧ (valV kvs κ).isSome = dHas (kvs.map fun p => keyD p.1) (keyD κ)
  | [], _, r => by
    cases r
    exact ⟨fun d h => (by cases h), rfl⟩
  | p :: kvs, _, r => by
    cases r with
    | @cons d v ds vs a s =>
      obtain ⟨h1, h2⟩ := flat_get (κ := κ) s
      have ek := eqK_key p.1 κ
      by_cases e : p.1 = κ
      · rw [decide_eq_true e] at ek
        refine ⟨fun d' h => ?_, by rw [valV_pos e]; simp [dHas, ek]⟩
        simp only [List.map_cons, dGet, ek, if_true] at h
        cases h
        exact ⟨p.2, valV_pos e, a⟩
      · rw [decide_eq_false e] at ek
        refine ⟨fun d' h => ?_, by rw [valV_neg e, h2]; simp [dHas, ek]⟩
        simp only [List.map_cons, dGet, ek] at h
        rw [valV_neg e]
        exact h1 d' h
theorem flat_rep {κ : Key} {v : V} {d : D} (rv : Rep g T H d v) : ∀ {kvs : List (Key × V)} {vs : List D}, RepL g T H vs (kvs.map Prod.snd) → RepL g T H (dRep (kvs.map fun p => keyD p.1) vs (keyD κ) d) ((kvs.map fun kv => if kv.1 = κ then (kv.1, v) else kv).map Prod.snd) ∧ (kvs.map fun kv => if kv.1 = κ then (kv.1, v) else kv).map Prod.fst = kvs.map Prod.fst
  | [], _, r => by cases r; exact ⟨.nil, rfl⟩
  | p :: kvs, _, r => by
    cases r with
    | cons a s =>
      obtain ⟨h1, h2⟩ := flat_rep (κ := κ) rv s
      have ek := eqK_key p.1 κ
      by_cases e : p.1 = κ
      · rw [decide_eq_true e] at ek
        simp only [List.map_cons, dRep, ek, if_true, if_pos e, h2]
        exact ⟨.cons rv h1, trivial⟩
      · rw [decide_eq_false e] at ek
        simp only [List.map_cons, dRep, ek, if_neg e, h2]
        exact ⟨.cons a h1, trivial⟩
theorem flat_put {κ : Key} {v : V} {d : D} {kvs : List (Key × V)} {ks vs : List D} (rk : RepL g T H ks (kvs.map fun p => kV p.1)) (rs : RepL g T H vs (kvs.map Prod.snd)) (rv : Rep g T H d v) :
    RepL g T H (dPutK ks (keyD κ)) ((putK kvs κ v).map fun p => kV p.1) ∧ RepL g T H (dPutV ks vs (keyD κ) d) ((putK kvs κ v).map Prod.snd) := by
  have ek := repL_keys rk
  have hs := (flat_get (κ := κ) rs).2
  have hany := valV_any κ kvs
  unfold dPutK dPutV putK
  rw [hany, hs, ← ek]
  cases hh : dHas ks (keyD κ) with
  | true =>
    simp only [if_true]
    obtain ⟨h1, h2⟩ := flat_rep (κ := κ) rv rs
    rw [← ek] at h1
    refine ⟨?_, h1⟩
    have : (kvs.map fun kv => if kv.1 = κ then (kv.1, v) else kv).map (fun p => kV p.1) = kvs.map fun p => kV p.1 := by
      have := congrArg (List.map kV) h2
      simpa [List.map_map, Function.comp_def] using this
    rw [this]
    exact rk
  | false =>
    simp only [Bool.false_eq_true, if_false, List.map_append, List.map_cons, List.map_nil]
    exact ⟨rk.append (.cons keyD_rep .nil), rs.append (.cons rv .nil)⟩
end
end L4
namespace L4
open PySem PySem.Spec PyProof.Rows L2
abbrev NV := List (NestedKey × Addr × V)
/-- the tuple at b is the key k -/
def NkAt (X : Cx) (H : Hp) (b : Addr) (k : NestedKey) : Prop := ∀ pins σ s, Inv X pins σ H s → (nestedKind X.prog X.w).is s.heap k b
section
variable {X : Cx} {T T' : Tk} {H : Hp} {m : M} {Q : VK} {pos p apos : Pos} {e o : Expr} {es : List Expr} {n : Nat} {x c nm : Str}
mutual
theorem nested_is {pins : List (Addr × Obj)} {σ : L2.St} {s : Shared} (I : Inv X pins σ H s) : ∀ (d : D) {v : V} {u : Value} {k : NestedKey}, nk d = some k → Rep (gx X) T H d v → RelV v u → NestedIs s.heap k u
  | .non, _, _, _, h, r, q => by rw [nk] at h; cases h; cases r; cases q; exact .none
  | .bl b, _, _, _, h, r, q => by rw [nk] at h; cases h; cases r; cases q; exact .bool rfl
  | .int i, _, _, _, h, r, q => by rw [nk] at h; cases h; cases r; obtain ⟨t, rfl⟩ := q; exact .int i t
  | .str i, _, _, _, h, r, q => by rw [nk] at h; cases h; cases r; obtain ⟨t, rfl⟩ := q; exact .text i t
  | .tup ds, _, _, _, h, r, q => by
    rw [nk] at h
    obtain ⟨ks, h1, rfl⟩ := Option.map_eq_some_iff.mp h
    cases r with
    | tup f r =>
      cases q
      obtain ⟨its, rv, ⟨ob, h2, h3, n, h4⟩, _⟩ := I.tuple f.sq
      exact .tup h2 h3 h4 (by simpa using nested_all I ds h1 r rv)
  | .lst _, _, _, _, h, _, _ => by rw [nk] at h; cases h
  | .scr _, _, _, _, h, _, _ => by rw [nk] at h; cases h
  | .dic _ _, _, _, _, h, _, _ => by rw [nk] at h; cases h
  | .obj _ _ _, _, _, _, h, _, _ => by rw [nk] at h; cases h
  | .ref _, _, _, _, h, _, _ => by rw [nk] at h; cases h
  | .glo _, _, _, _, h, _, _ => by rw [nk] at h; cases h
  | .ty _, _, _, _, h, _, _ => by rw [nk] at h; cases h
  | .ptp _, _, _, _, h, _, _ => by rw [nk] at h; cases h
theorem nested_all {pins : List (Addr × Obj)} {σ : L2.St} {s : Shared} (I : Inv X pins σ H s) : ∀ (ds : List D) {vs : List V} {us : List Value} {ks : List NestedKey}, nks ds = some ks → RepL (gx X) T H ds vs → Vals vs us → NestedAll s.heap ks us
  | [], _, _, _, h, r, q => by rw [nks] at h; cases h; cases r; cases q; exact .nil
  | d :: ds, _, _, _, h, r, q => by
    obtain ⟨k, ks, h1, h2, rfl⟩ := nks_cons h
    cases r with
    | cons a s => cases q with
      | cons b t => exact .cons (nested_is I d h1 a b) (nested_all I ds h2 s t)
end
theorem nkAt {d : D} {b : Addr} {k : NestedKey} (h : nkT d = some k) (r : Rep (gx X) T H d (.ref b)) : NkAt X H b k := fun pins σ s I => by
  obtain ⟨h1, h2⟩ := nkT_nk h
  exact ⟨nested_is I d h1 r rfl, h2⟩
theorem nkAts : ∀ {ks : List D} {kvs : NV}, ks.map nkT = kvs.map (fun p => some p.1) → RepL (gx X) T H ks (kvs.map fun p => .ref p.2.1) → ∀ p ∈ kvs, NkAt X H p.2.1 p.1
  | [], [], _, _, p, hp => by cases hp
  | _ :: _, [], h, _, _, hp => by cases hp
  | [], _ :: _, h, _, _, _ => by cases h
  | d :: ks, q :: kvs, h, r, p, hp => by
    simp only [List.map_cons, List.cons.injEq] at h
    cases r with
    | cons a s =>
      rcases List.mem_cons.mp hp with rfl | hp
      · exact nkAt h.1 a
      · exact nkAts h.2 s p hp
def NDict (X : Cx) (H : Hp) (a : Addr) (kvs : NV) : Prop := Rd H a (dnO (gx X) a kvs) ∨ (kvs = [] ∧ Rd H a (.dK []))
/-- the dict in the heap -/
theorem dn_rd0 {pins : List (Addr × Obj)} {σ : L2.St} {s : Shared} {a : Addr} {kvs : NV} (I : Inv X pins σ H s) (h : Rd H a (dnO (gx X) a kvs)) (hk : ∀ p ∈ kvs, NkAt X H p.2.1 p.1) :
    kvs.length ≤ sizeLine ∧ (a == sysModules) = false ∧ ∃ xs : List (NestedKey × Addr × Value), Paired (fun (p : NestedKey × Addr × V) (q : NestedKey × Addr × Value) => p.1 = q.1 ∧ p.2.1 = q.2.1 ∧ RelV p.2.2 q.2.2) kvs xs ∧ s.heap.DictOfH (nestedKind X.prog X.w) a xs := by
  obtain ⟨⟨z, hd, xs, pr, ob, es, ep, h1, h2, h3, h4, h5⟩, _⟩ := h.ok I.hok
  refine ⟨z, hd, xs, pr, ob, es, ep, h1, h2, h3, h4, ?_, h5⟩
  have all : ∀ {l : NV} {r : List (NestedKey × Addr × Value)}, Paired (fun (p : NestedKey × Addr × V) (q : NestedKey × Addr × Value) => p.1 = q.1 ∧ p.2.1 = q.2.1 ∧ RelV p.2.2 q.2.2) l r → (∀ p ∈ l, NkAt X H p.2.1 p.1) → ∀ y ∈ r, (nestedKind X.prog X.w).is s.heap y.1 y.2.1 := by
    intro l r q
    induction q with
    | nil => intro _ y hy; cases hy
    | @cons p q ps qs hq t ih =>
      intro hl y hy
      rcases List.mem_cons.mp hy with rfl | hy
      · rw [← hq.1, ← hq.2.1]
        exact hl p (List.mem_cons_self ..) pins σ s I
      · exact ih (fun p hp => hl p (List.mem_cons_of_mem _ hp)) y hy
  exact all pr hk
theorem dn_rd {pins : List (Addr × Obj)} {σ : L2.St} {s : Shared} {a : Addr} {kvs : NV} (I : Inv X pins σ H s) (h : NDict X H a kvs) (hk : ∀ p ∈ kvs, NkAt X H p.2.1 p.1) :
    kvs.length ≤ sizeLine ∧ (a == sysModules) = false ∧ ∃ xs : List (NestedKey × Addr × Value), Paired (fun (p : NestedKey × Addr × V) (q : NestedKey × Addr × Value) => p.1 = q.1 ∧ p.2.1 = q.2.1 ∧ RelV p.2.2 q.2.2) kvs xs ∧ s.heap.DictOfH (nestedKind X.prog X.w) a xs := by
  rcases h with h | ⟨rfl, h⟩
  · exact dn_rd0 I h hk
  · obtain ⟨_, hd, vs, rel, dd⟩ := dk_rd I.hok h
    cases rel
    obtain ⟨ob, es, ep, h1, h2, h3, h4, h5, h6⟩ := dd
    have he : es.toList = [] := by
      cases hh : es.toList with
      | nil => rfl
      | cons a b => rw [hh] at h5; cases h5
    exact ⟨Nat.zero_le _, hd, [], .nil, ob, es, ep, h1, h2, h3, by rw [he]; rfl, fun x hx => (nomatch hx), by simp⟩
def nGet (kvs : NV) (k : NestedKey) : Option V := (kvs.find? fun p => decide (p.1 = k)).map fun p => p.2.2
def nHas (kvs : NV) (k : NestedKey) : Bool := kvs.any fun p => decide (p.1 = k)
def nPut (kvs : NV) (k : NestedKey) (b : Addr) (v : V) : NV := if nHas kvs k then kvs.map fun p => if p.1 = k then (p.1, p.2.1, v) else p else kvs ++ [(k, b, v)]
abbrev NP : NestedKey × Addr × V → NestedKey × Addr × Value → Prop := fun p q => p.1 = q.1 ∧ p.2.1 = q.2.1 ∧ RelV p.2.2 q.2.2
theorem np_at {k : NestedKey} : ∀ {kvs : NV} {xs : List (NestedKey × Addr × Value)}, Paired NP kvs xs → (atKey xs k).isSome = nHas kvs k ∧ ∀ v, nGet kvs k = some v → ∃ q, atKey xs k = some q ∧ RelV v q.2
  | _, _, .nil => ⟨rfl, fun v h => by cases h⟩
  | _, _, .cons (a := p) (b := q) hq t => by
    obtain ⟨h1, h2⟩ := np_at (k := k) t
    by_cases e : p.1 = k
    · have e2 : q.1 = k := by rw [← hq.1]; exact e
      refine ⟨by simp [atKey, nHas, List.find?_cons, e, e2], fun v h => ?_⟩
      simp only [nGet, List.find?_cons, e, decide_true, Option.map_some] at h
      cases h
      exact ⟨q.2, by simp [atKey, List.find?_cons, e2], hq.2.2⟩
    · have e2 : ¬ q.1 = k := by rw [← hq.1]; exact e
      refine ⟨?_, fun v h => ?_⟩
      · simp only [atKey, nHas, List.find?_cons, e2, decide_false, List.any_cons, e, Bool.false_or]
        exact h1
      · simp only [nGet, List.find?_cons, e, decide_false] at h
        obtain ⟨w, e3, r⟩ := h2 v h
        exact ⟨w, by simp only [atKey, List.find?_cons, e2, decide_false]; exact e3, r⟩
theorem np_old {k : NestedKey} {v : V} {u : Value} (rv : RelV v u) : ∀ {kvs : NV} {xs : List (NestedKey × Addr × Value)}, Paired NP kvs xs → Paired NP (kvs.map fun p => if p.1 = k then (p.1, p.2.1, v) else p) (xs.map (putAt k u))
  | _, _, .nil => .nil
  | _, _, .cons (a := p) (b := q) hq t => by
    refine .cons ?_ (np_old rv t)
    show NP (if p.1 = k then (p.1, p.2.1, v) else p) (if q.1 = k then (q.1, q.2.1, u) else q)
    by_cases e : p.1 = k
    · rw [if_pos e, if_pos (by rw [← hq.1]; exact e)]
      exact ⟨hq.1, hq.2.1, rv⟩
    · rw [if_neg e, if_neg (by rw [← hq.1]; exact e)]
      exact hq
theorem np_new {k : NestedKey} {b : Addr} {v : V} {u : Value} (rv : RelV v u) : ∀ {kvs : NV} {xs : List (NestedKey × Addr × Value)}, Paired NP kvs xs → Paired NP (kvs ++ [(k, b, v)]) (xs ++ [(k, b, u)])
  | _, _, .nil => .cons ⟨rfl, rfl, rv⟩ .nil
  | _, _, .cons hq t => .cons hq (np_new rv t)
theorem np_put {k : NestedKey} {b : Addr} {v : V} {u : Value} (rv : RelV v u) {kvs : NV} {xs : List (NestedKey × Addr × Value)} (h : Paired NP kvs xs) : Paired NP (nPut kvs k b v) (storedH xs k b u) := by
  unfold nPut storedH
  rw [(np_at (k := k) h).1]
  cases nHas kvs k with
  | true => exact np_old rv h
  | false => exact np_new rv h
theorem nPut_len {k : NestedKey} {b : Addr} {v : V} {kvs : NV} : (nPut kvs k b v).length ≤ kvs.length + 1 := by
  unfold nPut
  split <;> simp
theorem room8 {k : Nat} (gd : Gd k X) : (nestedKind X.prog X.w).room X.A.in1 := by
  have := gd.r.un
  show X.A.units + 1 + 8 < cLine
  omega
def rInN (X : Cx) (b : Bool) : R2 := fun x y H Q => ∃ a c kvs k, x = .ref c ∧ y = .ref a ∧ NDict X H a kvs ∧ (∀ p ∈ kvs, NkAt X H p.2.1 p.1) ∧ NkAt X H c k ∧ Q (.bl (nHas kvs k != b)) H
theorem op_inN {k : Nat} (gd : Gd k X) : OpR X (compareOp .In) (rInN X false) := by
  intro pins s σ H x y v u Q I rx ry h
  obtain ⟨a, c, kvs, k, rfl, rfl, hr, hk, hc, q⟩ := h
  cases rx
  cases ry
  obtain ⟨_, hd, xs, pr, hm⟩ := dn_rd I hr hk
  refine wpAny_in_heap (room8 gd) (hc pins σ s I) hd hm ⟨.bl _, H, I.tok _, rfl, ?_⟩
  rw [(np_at pr).1]
  rw [Bool.bne_false] at q
  exact q
theorem op_ninN {k : Nat} (gd : Gd k X) : OpR X (compareOp .NotIn) (rInN X true) := by
  intro pins s σ H x y v u Q I rx ry h
  obtain ⟨a, c, kvs, k, rfl, rfl, hr, hk, hc, q⟩ := h
  cases rx
  cases ry
  obtain ⟨_, hd, xs, pr, hm⟩ := dn_rd I hr hk
  refine wpAny_notIn_heap (room8 gd) (hc pins σ s I) hd hm ⟨.bl _, H, I.tok _, rfl, ?_⟩
  rw [(np_at pr).1]
  rw [Bool.bne_true] at q
  exact q
def rIxN (X : Cx) : R2 := fun x y H Q => ∃ a c kvs k v, x = .ref a ∧ y = .ref c ∧ NDict X H a kvs ∧ (∀ p ∈ kvs, NkAt X H p.2.1 p.1) ∧ NkAt X H c k ∧ nGet kvs k = some v ∧ Q v H
theorem ix_N {k : Nat} (gd : Gd k X) : IxR X (rIxN X) := by
  intro value slice pins s σ H x y v u Q I rx ry h hs
  obtain ⟨a, c, kvs, k, z, rfl, rfl, hr, hk, hc, hz, q⟩ := h
  cases rx
  cases ry
  obtain ⟨_, hd, xs, pr, hm⟩ := dn_rd I hr hk
  obtain ⟨w, hw, rw'⟩ := (np_at (k := k) pr).2 z hz
  exact PyProof.Rows.subscriptTail_builtinR (x := w.2) hm.typeIs PySem.F.slot_dict_getitem.lookup (wpAny_getItem_heap (room8 gd) (hc pins σ s I) hm hw ⟨rfl, z, H, I.tok _, rw', q⟩) hs
/-- d[k], flat keys -/
def rIxF : R2 := fun x y H Q => ∃ a kvs κ v, x = .ref a ∧ Rd H a (.dK kvs) ∧ y = kV κ ∧ valV kvs κ = some v ∧ Q v H
theorem ix_F : IxR X rIxF := by
  intro value slice pins s σ H x y v u Q I rx ry h hs
  obtain ⟨a, kvs, κ, z, rfl, hr, rfl, hz, q⟩ := h
  cases rx
  obtain ⟨_, hd, vs, rel, dd⟩ := dk_rd I.hok hr
  obtain ⟨w', hw, rw'⟩ := RelO.some_of (v := z) (o := valueAt vs κ) (by rw [← hz]; exact rel.val κ)
  exact subscriptTail_builtinR (x := w') dd.typeIs PySem.F.slot_dict_getitem.lookup (wpAny_getItem_of (kV_is ry) dd.mapOf hw ⟨rfl, z, H, I.tok _, rw', q⟩) hs
def rInF (b : Bool) : R2 := fun x y H Q => ∃ a kvs κ, x = kV κ ∧ y = .ref a ∧ Rd H a (.dK kvs) ∧ Q (.bl ((valV kvs κ).isSome != b)) H
theorem op_inF : OpR X (compareOp .In) (rInF false) := by
  intro pins s σ H x y v u Q I rx ry h
  obtain ⟨a, kvs, κ, rfl, rfl, hr, q⟩ := h
  cases ry
  obtain ⟨_, hd, vs, rel, dd⟩ := dk_rd I.hok hr
  refine wpAny_in_of (kV_is rx) hd dd.mapOf ⟨.bl _, H, I.tok _, rfl, ?_⟩
  rw [← (rel.val κ).isSome_eq]
  rw [Bool.bne_false] at q
  exact q
theorem op_ninF : OpR X (compareOp .NotIn) (rInF true) := by
  intro pins s σ H x y v u Q I rx ry h
  obtain ⟨a, kvs, κ, rfl, rfl, hr, q⟩ := h
  cases ry
  obtain ⟨_, hd, vs, rel, dd⟩ := dk_rd I.hok hr
  refine wpAny_notIn_of (kV_is rx) hd dd.mapOf ⟨.bl _, H, I.tok _, rfl, ?_⟩
  rw [← (rel.val κ).isSome_eq]
  rw [Bool.bne_true] at q
  exact q
/-- d[k] = v -/
def rPutF : TSet := fun o i v H Q => ∃ a kvs κ, o = .ref a ∧ i = kV κ ∧ H a = some (.dK kvs) ∧ kvs.length < sizeLine ∧ Q (upd H a (.dK (putK kvs κ v)))
theorem set_F {k : Nat} (gd : Gd k X) : PSet X rPutF := by
  intro pins s σ H o i v ov iv u Q I ro ri rv h
  obtain ⟨a, kvs, κ, rfl, rfl, hr, hz, q⟩ := h
  cases ro
  have := gd.r.un
  exact d_setItem (by omega) I (DPut.k hr hz) ri rv fun s' I' => ⟨_, I', q⟩
def rPutN (X : Cx) : TSet := fun o i v H Q => ∃ a c kvs k, o = .ref a ∧ i = .ref c ∧ (H a = some (dnO (gx X) a kvs) ∨ (kvs = [] ∧ H a = some (.dK []))) ∧ (∀ p ∈ kvs, NkAt X H p.2.1 p.1) ∧ NkAt X H c k ∧ kvs.length < sizeLine ∧ Q (upd H a (dnO (gx X) a (nPut kvs k c v)))
theorem dn_ok {P : Program} {w : World} {K : PySem.W.Frag} {h : Heap} {a : Addr} {kvs : NV} {xs : List (NestedKey × Addr × Value)} {H' : Hp} (hz : kvs.length ≤ sizeLine) (hd : (a == sysModules) = false) (pr : Paired NP kvs xs) {ob : Obj} {es : Array DictEntry} {ep : Nat} (h1 : h.get? a = some ob) (h2 : ob.ExactDict) (h3 : ob.data = .dict es ep)
    (h4 : es.toList = xs.map (entryOfKey (nestedKind P w))) (h5 : (xs.map (·.1)).Nodup) : ObjOk P w H' h a (dnO ⟨P, w, K⟩ a kvs) := by
  refine ⟨⟨hz, hd, xs, pr, ob, es, ep, h1, h2, h3, h4, h5⟩, ⟨ob, h1⟩, ?_⟩
  rintro g1 g2 ⟨hz, hd, xs, pr, ob, es, ep, h1, h2, h3, h4, h5⟩ k
  exact ⟨hz, hd, xs, pr, ob, es, ep, k _ h1, h2, h3, h4, h5⟩
theorem set_N {k : Nat} (gd : Gd k X) : PSet X (rPutN X) := by
  intro pins s σ H o i v ov iv u Q I ro ri rv h
  obtain ⟨a, c, kvs, k, rfl, rfl, hr, hk, hc, hz, q⟩ := h
  cases ro
  cases ri
  have key : ∃ xs, (a == sysModules) = false ∧ Paired NP kvs xs ∧ s.heap.DictOfH (nestedKind X.prog X.w) a xs := by
    obtain ⟨_, hd, xs, pr, hm⟩ := dn_rd I (hr.elim (fun h => .inl (.inl h)) fun h => .inr ⟨h.1, .inl h.2⟩) hk
    exact ⟨xs, hd, pr, hm⟩
  obtain ⟨xs, hd, pr, hm⟩ := key
  have hl := Paired.length pr
  refine wpAny_setItem_heap (hsz := by omega) (room8 gd) (hc pins σ s I) hm fun h' dd' hs => ⟨_, ?_, q⟩
  obtain ⟨ob, es, ep, h1, h2, h3, h4, _, h5⟩ := dd'
  refine d_write I ?_ hs ⟨ob, h1⟩ (dn_ok (by have := nPut_len (k := k) (b := c) (v := v) (kvs := kvs); omega) hd (np_put rv pr) h1 h2 h3 h4 h5)
  rcases hr with hr | ⟨_, hr⟩ <;> rw [hr] <;> exact True.intro
end
end L4
namespace L4
open PySem PySem.Spec PyProof.Rows L2
section
variable {X : Cx} {g : G} {T T' : Tk} {H : Hp} {m : M} {Q : VK} {pos p apos : Pos} {e o : Expr} {es : List Expr} {n : Nat} {x c nm : Str}
def dicO : O → Option (List D × List D)
  | .dic ks vs => some (ks, vs)
  | _ => none
def dicOf (m : M) : D → Option (List D × List D)
  | .dic ks vs => some (ks, vs)
  | .ref n => (m[n]?).bind dicO
  | _ => none
/-- a dict, as it is read -/
inductive DicR (X : Cx) (T : Tk) (H : Hp) (a : Addr) (ks vs : List D) : Prop
  | flat {kvs} : Rd H a (.dK kvs) → RepL (gx X) T H ks (kvs.map fun p => kV p.1) → RepL (gx X) T H vs (kvs.map Prod.snd) → DicR X T H a ks vs
  | nest {kvs} : Rd H a (dnO (gx X) a kvs) → (ks.map nkT = kvs.map (fun p => some p.1) ∧ kvs ≠ []) → RepL (gx X) T H ks (kvs.map fun p => .ref p.2.1) → RepL (gx X) T H vs (kvs.map fun p => p.2.2) → DicR X T H a ks vs
theorem dic_rep {d : D} {v : V} {ks vs : List D} (hm : RepH (gx X) T H m) (r : Rep (gx X) T H d v) (h : dicOf m d = some (ks, vs)) : ∃ a, v = .ref a ∧ DicR X T H a ks vs := by
  cases r with
  | dicF n f r q => cases h; exact ⟨_, rfl, .flat f r q⟩
  | dicN n f e r q => cases h; exact ⟨_, rfl, .nest f e r q⟩
  | ref e =>
    obtain ⟨o, h1, h2⟩ := Option.bind_eq_some_iff.mp h
    cases hm.at_ _ _ _ e h1 with
    | dicF f r q => cases h2; exact ⟨_, rfl, .flat (.inl f) r q⟩
    | dicN f k r q => cases h2; exact ⟨_, rfl, .nest (.inl f) k r q⟩
    | _ => cases h2
  | _ => cases h
def headOk (ks : List D) (k : D) : Bool := match ks with
  | [] => isFlat k || (nkT k).isSome
  | a :: _ => if isFlat a then isFlat k else (nkT k).isSome
theorem flat_key {d : D} (h : isFlat d = true) : ∃ κ, d = keyD κ := by
  cases d with
  | int i => exact ⟨.inl i, rfl⟩
  | str i => exact ⟨.inr i, rfl⟩
  | _ => cases h
theorem flatOf_key (κ : Key) : isFlat (keyD κ) = true := by cases κ <;> rfl
theorem nk_notflat {d : D} {k : NestedKey} (h : nkT d = some k) : isFlat d = false := by
  cases d with
  | tup ds => rfl
  | _ => cases h
/-- a key and a dict: both flat, or both nested -/
theorem dic_cases {a : Addr} {ks vs : List D} {k : D} {v : V} (r : DicR X T H a ks vs) (hk : headOk ks k = true) (rk : Rep (gx X) T H k v) :
    (∃ kvs κ, Rd H a (.dK kvs) ∧ RepL (gx X) T H ks (kvs.map fun p => kV p.1) ∧ RepL (gx X) T H vs (kvs.map Prod.snd) ∧ k = keyD κ ∧ v = kV κ) ∨
    (∃ kvs b κ, NDict X H a kvs ∧ (ks.map nkT = kvs.map (fun p => some p.1)) ∧ RepL (gx X) T H ks (kvs.map fun p => .ref p.2.1) ∧ RepL (gx X) T H vs (kvs.map fun p => p.2.2) ∧ v = .ref b ∧ nkT k = some κ ∧ NkAt X H b κ ∧ (Rd H a (dnO (gx X) a kvs) ∨ kvs = [] ∧ Rd H a (.dK []))) := by
  have nested : ∀ κ, nkT k = some κ → ∃ b, v = .ref b ∧ NkAt X H b κ := by
    intro κ h
    cases k with
    | tup ds => cases rk with
      | tup f r => exact ⟨_, rfl, nkAt h (.tup f r)⟩
    | _ => cases h
  have flat : isFlat k = true → ∃ κ, k = keyD κ ∧ v = kV κ := by
    intro h
    obtain ⟨κ, rfl⟩ := flat_key h
    cases κ with
    | inl i => cases rk; exact ⟨.inl i, rfl, rfl⟩
    | inr i => cases rk; exact ⟨.inr i, rfl, rfl⟩
  cases r with
  | @flat kvs h r q =>
    by_cases hf : isFlat k = true
    · obtain ⟨κ, e1, e2⟩ := flat hf
      exact .inl ⟨kvs, κ, h, r, q, e1, e2⟩
    · cases kvs with
      | nil =>
        cases r
        cases q
        unfold headOk at hk
        simp only [Bool.not_eq_true] at hf
        rw [hf, Bool.false_or] at hk
        obtain ⟨κ, hκ⟩ := Option.isSome_iff_exists.mp hk
        obtain ⟨b, e1, e2⟩ := nested κ hκ
        exact .inr ⟨[], b, κ, .inr ⟨rfl, h⟩, rfl, .nil, .nil, e1, hκ, e2, .inr ⟨rfl, h⟩⟩
      | cons p kvs =>
        have := repL_keys r
        subst this
        unfold headOk at hk
        simp only [List.map_cons, flatOf_key, if_true] at hk
        exact absurd hk hf
  | @nest kvs h e r q =>
    cases kvs with
    | nil => exact absurd rfl e.2
    | cons p kvs =>
      cases r with
      | cons r1 r2 =>
        have e1 := e.1
        simp only [List.map_cons, List.cons.injEq] at e1
        simp only [headOk, nk_notflat e1.1, Bool.false_eq_true, if_false] at hk
        obtain ⟨κ, hκ⟩ := Option.isSome_iff_exists.mp hk
        obtain ⟨b, e2, e3⟩ := nested κ hκ
        exact .inr ⟨p :: kvs, b, κ, .inl h, e.1, .cons r1 r2, q, e2, hκ, e3, .inl h⟩
theorem nest_get {k : D} {κ : NestedKey} (hk : nkT k = some κ) : ∀ {kvs : NV} {ks vs : List D}, ks.map nkT = kvs.map (fun p => some p.1) → RepL g T H vs (kvs.map fun p => p.2.2) → (∀ d, dGet ks vs k = some d → ∃ v, nGet kvs κ = some v ∧ Rep g T H d v) ∧ nHas kvs κ = dHas ks k
  | [], [], _, _, r => by cases r; exact ⟨fun d h => (by cases h), rfl⟩
  | [], _ :: _, _, h, _ => by cases h
  | _ :: _, [], _, h, _ => by cases h
  | p :: kvs, a :: ks, _, h, r => by
    simp only [List.map_cons, List.cons.injEq] at h
    cases r with
    | cons r1 r2 =>
      obtain ⟨h1, h2⟩ := nest_get hk h.2 r2
      have ek : eqK a k = decide (p.1 = κ) := eqK_nk a k _ _ (nkT_nk h.1).1 (nkT_nk hk).1
      by_cases e : p.1 = κ
      · rw [decide_eq_true e] at ek
        refine ⟨fun d hd => ?_, by simp [nHas, dHas, ek, e]⟩
        simp only [dGet, ek, if_true] at hd
        cases hd
        exact ⟨p.2.2, by simp [nGet, List.find?_cons, e], r1⟩
      · rw [decide_eq_false e] at ek
        refine ⟨fun d hd => ?_, ?_⟩
        · simp only [dGet, ek] at hd
          obtain ⟨v, e1, q⟩ := h1 d hd
          exact ⟨v, by simp only [nGet, List.find?_cons, e, decide_false]; exact e1, q⟩
        · simp only [nHas, dHas, List.any_cons, ek, e, decide_false, Bool.false_or]
          exact h2
theorem nest_put {k d : D} {κ : NestedKey} {b : Addr} {v : V} (hk : nkT k = some κ) (rk : Rep g T H k (.ref b)) (rv : Rep g T H d v) {kvs : NV} {ks vs : List D} (h : ks.map nkT = kvs.map (fun p => some p.1)) (r : RepL g T H ks (kvs.map fun p => .ref p.2.1)) (q : RepL g T H vs (kvs.map fun p => p.2.2)) :
    (dPutK ks k).map nkT = (nPut kvs κ b v).map (fun p => some p.1) ∧ RepL g T H (dPutK ks k) ((nPut kvs κ b v).map fun p => .ref p.2.1) ∧ RepL g T H (dPutV ks vs k d) ((nPut kvs κ b v).map fun p => p.2.2) := by
  have hh := (nest_get hk h q).2
  unfold dPutK dPutV nPut
  rw [hh]
  cases dHas ks k with
  | false =>
    simp only [Bool.false_eq_true, if_false, List.map_append, List.map_cons, List.map_nil]
    exact ⟨by rw [h, hk], r.append (.cons rk .nil), q.append (.cons rv .nil)⟩
  | true =>
    simp only [if_true]
    have key : ∀ {kvs : NV} {ks vs : List D}, ks.map nkT = kvs.map (fun p => some p.1) → RepL g T H vs (kvs.map fun p => p.2.2) → (kvs.map fun p => if p.1 = κ then (p.1, p.2.1, v) else p).map (fun p => some p.1) = kvs.map (fun p => some p.1) ∧
        (kvs.map fun p => if p.1 = κ then (p.1, p.2.1, v) else p).map (fun p => V.ref p.2.1) = kvs.map (fun p => V.ref p.2.1) ∧ RepL g T H (dRep ks vs k d) ((kvs.map fun p => if p.1 = κ then (p.1, p.2.1, v) else p).map fun p => p.2.2) := by
      intro kvs
      induction kvs with
      | nil => intro ks vs h q; cases q; cases ks with
        | nil => exact ⟨rfl, rfl, .nil⟩
        | cons _ _ => cases h
      | cons p kvs ih =>
        intro ks vs h q
        cases ks with
        | nil => cases h
        | cons a ks =>
          simp only [List.map_cons, List.cons.injEq] at h
          cases q with
          | cons q1 q2 =>
            obtain ⟨h1, h2, h3⟩ := ih h.2 q2
            have ek : eqK a k = decide (p.1 = κ) := eqK_nk a k _ _ (nkT_nk h.1).1 (nkT_nk hk).1
            by_cases e : p.1 = κ
            · rw [decide_eq_true e] at ek
              simp only [List.map_cons, if_pos e, dRep, ek, if_true, h1, h2]
              exact ⟨trivial, trivial, .cons rv h3⟩
            · rw [decide_eq_false e] at ek
              simp only [List.map_cons, if_neg e, dRep, ek, h1, h2]
              exact ⟨trivial, trivial, .cons q1 h3⟩
    obtain ⟨h1, h2, h3⟩ := key h q
    exact ⟨by rw [h1]; exact h, by rw [h2]; exact r, h3⟩
def inAB (m : M) (x y : D) : Option Bool := match dicOf m y with
  | some (ks, _) => if headOk ks x then some (dHas ks x) else none
  | none => inB m x y
def inA (m : M) (x y : D) : Option D := (inAB m x y).map .bl
def ninA (m : M) (x y : D) : Option D := (inAB m x y).map fun b => .bl (!b)
theorem op_inA {k : Nat} (gd : Gd k X) : OpD X (compareOp .In) inA := by
  obtain ⟨r0, h0, q0⟩ := (op_in' (X := X) gd).ex
  refine ⟨_, orR h0 (orR op_inF (op_inN gd)), fun T H m x y v u d hm rx ry hf Q k => ?_⟩
  obtain ⟨b, hb, rfl⟩ := Option.map_eq_some_iff.mp hf
  unfold inAB at hb
  split at hb
  · next ks vs hd =>
    obtain ⟨hk, hb⟩ := ite_some hb
    cases hb
    obtain ⟨a, rfl, dr⟩ := dic_rep hm ry hd
    rcases dic_cases dr hk rx with ⟨kvs, κ, h1, h2, h3, rfl, rfl⟩ | ⟨kvs, b, κ, h1, h2, h3, h4, rfl, h5, h6, _⟩
    · refine .inr (.inl ⟨a, kvs, κ, rfl, rfl, h1, ?_⟩)
      rw [(flat_get h3).2, Bool.bne_false, ← repL_keys h2]
      exact k.now hm (.bl _)
    · refine .inr (.inr ⟨a, b, kvs, κ, rfl, rfl, h1, nkAts h2 h3, h6, ?_⟩)
      rw [(nest_get h5 h2 h4).2, Bool.bne_false]
      exact k.now hm (.bl _)
  · exact .inl (q0 T H m x y v u _ hm rx ry (by unfold inD; rw [hb]; rfl) Q k)
theorem op_ninA {k : Nat} (gd : Gd k X) : OpD X (compareOp .NotIn) ninA := by
  obtain ⟨r0, h0, q0⟩ := (op_nin' (X := X) gd).ex
  refine ⟨_, orR h0 (orR op_ninF (op_ninN gd)), fun T H m x y v u d hm rx ry hf Q k => ?_⟩
  obtain ⟨b, hb, rfl⟩ := Option.map_eq_some_iff.mp hf
  unfold inAB at hb
  split at hb
  · next ks vs hd =>
    obtain ⟨hk, hb⟩ := ite_some hb
    cases hb
    obtain ⟨a, rfl, dr⟩ := dic_rep hm ry hd
    rcases dic_cases dr hk rx with ⟨kvs, κ, h1, h2, h3, rfl, rfl⟩ | ⟨kvs, b, κ, h1, h2, h3, h4, rfl, h5, h6, _⟩
    · refine .inr (.inl ⟨a, kvs, κ, rfl, rfl, h1, ?_⟩)
      rw [(flat_get h3).2, Bool.bne_true, ← repL_keys h2]
      exact k.now hm (.bl _)
    · refine .inr (.inr ⟨a, b, kvs, κ, rfl, rfl, h1, nkAts h2 h3, h6, ?_⟩)
      rw [(nest_get h5 h2 h4).2, Bool.bne_true]
      exact k.now hm (.bl _)
  · exact .inl (q0 T H m x y v u _ hm rx ry (by unfold ninD; rw [hb]; rfl) Q k)
def ixA (m : M) (x y : D) : Option D := match dicOf m x with
  | some (ks, vs) => if headOk ks y then dGet ks vs y else none
  | none => ixD m x y
theorem de_ixA {a b : Expr} {fa fb : EF} {k : Nat} (gd : Gd k X) (ha : DE X a fa) (hb : DE X b fb) (hs : PlainIx b := by exact fun _ _ => rfl) : DE X (.Subscript a b pos) (eOp ixA fa fb) := by
  obtain ⟨ta, pa, ra⟩ := ha.ex; obtain ⟨tb, pb, rb⟩ := hb.ex
  refine ⟨_, pe_ix (ixR_or (ixR_or ix_tup (ixR_or ix_str ix_list)) (ixR_or ix_F (ix_N gd))) pa pb hs, rf_op (fun T H m x y v u d hm rx ry hf Q k => ?_) ra rb⟩
  unfold ixA at hf
  split at hf
  · next ks vs hd =>
    obtain ⟨hk, hf⟩ := ite_some hf
    obtain ⟨a, rfl, dr⟩ := dic_rep hm rx hd
    rcases dic_cases dr hk ry with ⟨kvs, κ, h1, h2, h3, rfl, rfl⟩ | ⟨kvs, b, κ, h1, h2, h3, h4, rfl, h5, h6, _⟩
    · rw [repL_keys h2] at hf
      obtain ⟨w, e1, q⟩ := (flat_get h3).1 d hf
      exact .inr (.inl ⟨a, kvs, κ, w, rfl, h1, rfl, e1, k.now hm q⟩)
    · obtain ⟨w, e1, q⟩ := (nest_get h5 h2 h4).1 d hf
      exact .inr (.inr ⟨a, b, kvs, κ, w, rfl, rfl, h1, nkAts h2 h3, h6, e1, k.now hm q⟩)
  · left
    rcases ixD_some hf with ⟨ds, i, rfl, rfl, h⟩ | ⟨z, i, c, rfl, rfl, hz, h, rfl⟩ | ⟨ds, i, h1, rfl, h⟩
    · obtain ⟨p, vs, rfl, hx, r1⟩ := tup_rep rx
      cases ry
      obtain ⟨w, e, q⟩ := r1.atI h
      exact .inl ⟨p, vs, i, w, rfl, rfl, hx, e, k.now hm q⟩
    · cases rx; cases ry
      exact .inr (.inl ⟨z, i, c, rfl, rfl, hz, h, k.now hm (.str _)⟩)
    · obtain ⟨p, vs, rfl, hx, r1⟩ := lstR_rep hm rx h1
      cases ry
      obtain ⟨w, e, q⟩ := r1.atI h
      exact .inr (.inr ⟨p, vs, i, w, rfl, rfl, hx, e, k.now hm q⟩)
def orS (r q : TSet) : TSet := fun o i v H Q => r o i v H Q ∨ q o i v H Q
theorem set_or {r q : TSet} (h1 : PSet X r) (h2 : PSet X q) : PSet X (orS r q) := by
  intro pins s σ H o i v ov iv u Q I ro ri rv h
  rcases h with h | h
  · exact h1 pins s σ H o i v ov iv u Q I ro ri rv h
  · exact h2 pins s σ H o i v ov iv u Q I ro ri rv h
def setO (o : O) (y d : D) : Option O := match o, y with
  | .lst ds, .int k => (L2.ixN ds.length k).map fun j => .lst (ds.set j d)
  | .dic ks vs, y => if headOk ks y ∧ ks.length < sizeLine then some (.dic (dPutK ks y) (dPutV ks vs y d)) else none
  | _, _ => none
def setM (m : M) (x y d : D) : Option M := match x with
  | .ref n => ((m[n]?).bind fun o => setO o y d).map fun o => m.set n o
  | _ => none
def gSetA (o i : EF) : GF := fun d ρ m => bd (o ρ m) fun x m1 => bd (i ρ m1) fun y m2 => (setM m2 x y d).map fun m3 => (ρ, m3)
theorem dg_subA {i : Expr} {fo fi : EF} {k : Nat} (gd : Gd k X) (ho : DE X o fo) (hi : DE X i fi) (hx : ∀ v, assign (.Subscript o i pos) X.env v = (do
      let ov ← holding [v] (eval o X.env)
      let iv ← holding [v, ov] (eval i X.env)
      standAt pos
      holding [v, ov, iv] (setItem ov iv v)
      release [v, ov, iv] []) := by intro _; rfl) : DG X (.Subscript o i pos) (gSetA fo fi) := by
  obtain ⟨to, po, ro⟩ := ho.ex; obtain ⟨ti, pi, ri⟩ := hi.ex
  refine ⟨_, pg_sub po pi (set_or set_list (set_or (set_F gd) (set_N gd))) hx, fun T σ H ρ m d v ρ' m' hm hs r hf Q k => ?_⟩
  obtain ⟨x, m1, e1, hf1⟩ := bd_some hf
  obtain ⟨y, m2, e2, hf2⟩ := bd_some hf1
  clear hf hf1
  refine ro T σ H ρ m x m1 hm hs e1 _ fun u T1 H1 l1 hm1 r1 => ?_
  refine ri T1 σ H1 ρ m1 y m2 hm1 (hs.le l1) e2 _ fun w T2 H2 l2 hm2 r2 => ?_
  obtain ⟨m3, h3, h4⟩ := Option.map_eq_some_iff.mp hf2
  obtain ⟨rfl, rfl⟩ : ρ = ρ' ∧ m3 = m' := by injection h4 with a b; exact ⟨a, b⟩
  have r1' := r1.le l2
  have rd := r.le (l1.trans l2)
  have fin : ∀ H3, Le T2 H2 T2 H3 → RepH (gx X) T2 H3 m3 → Q σ H3 := fun H3 l hm3 => k σ T2 H3 (l1.trans (l2.trans l)) hm3 (hs.le (l1.trans (l2.trans l)))
  cases r1' with
  | @ref n a ea =>
    obtain ⟨ob', h5, h6⟩ := Option.map_eq_some_iff.mp h3
    obtain ⟨ob, h7, h8⟩ := Option.bind_eq_some_iff.mp h5
    subst h6
    have hrep := hm2.at_ _ _ _ ea h7
    cases ob with
    | lst ds =>
      cases hrep with
      | @lst _ vs hH rl =>
        cases r2 with
        | int kk =>
          obtain ⟨j, hj, rfl⟩ := Option.map_eq_some_iff.mp h8
          refine .inl ⟨a, vs, kk, j, rfl, rfl, hH, by rw [← rl.length]; exact hj, ?_⟩
          obtain ⟨l3, hm3⟩ := hm2.put (u := .lst (vs.set j v)) (o := .lst (ds.set j d)) ea fun l => .lst upd_same ((rl.le l).setAt (rd.le l))
          exact fin _ l3 hm3
        | _ => cases h8
    | dic ks vs =>
      have h8' : (if headOk ks y = true ∧ ks.length < sizeLine then some (O.dic (dPutK ks y) (dPutV ks vs y d)) else none) = some ob' := by
        cases y <;> exact h8
      obtain ⟨⟨hk, hz⟩, h9⟩ := ite_some h8'
      cases h9
      have dr : DicR X T2 H2 a ks vs := by
        cases hrep with
        | dicF f r q => exact .flat (.inl f) r q
        | dicN f k r q => exact .nest (.inl f) k r q
      have nofrz : ∀ u, Rd H2 a u → Mu u ∨ True → (∀ ob w, H2 a = some (.frz ob w) → False) → H2 a = some u := fun u h _ nf => by
        rcases h with h | ⟨ob, h⟩
        · exact h
        · exact (nf ob u h).elim
      have nf : ∀ ob w, H2 a = some (.frz ob w) → False := fun ob w h => by
        obtain ⟨u, e, q⟩ := hrep.has
        rw [h] at e
        cases e
        exact q
      clear h3
      rcases dic_cases dr hk r2 with ⟨kvs, κ, h1, h2, h3, rfl, rfl⟩ | ⟨kvs, b, κ, h1, h2, h3, h4, rfl, h5, h6, hor⟩
      · have hH := nofrz _ h1 (.inr trivial) nf
        refine .inr (.inl ⟨a, kvs, κ, rfl, rfl, hH, by have := h2.length; simp at this; omega, ?_⟩)
        obtain ⟨l3, hm3⟩ := hm2.put (u := .dK (putK kvs κ v)) (o := .dic (dPutK ks (keyD κ)) (dPutV ks vs (keyD κ) d)) ea fun l => by
          obtain ⟨z1, z2⟩ := flat_put (κ := κ) (h2.le l) (h3.le l) (rd.le l)
          exact .dicF upd_same z1 z2
        exact fin _ l3 hm3
      · refine .inr (.inr ⟨a, b, kvs, κ, rfl, rfl, hor.elim (fun h => .inl (nofrz _ h (.inr trivial) nf)) (fun h => .inr ⟨h.1, nofrz _ h.2 (.inr trivial) nf⟩), nkAts h2 h3, h6, by have := h3.length; simp at this; omega, ?_⟩)
        obtain ⟨l3, hm3⟩ := hm2.put (u := dnO (gx X) a (nPut kvs κ b v)) (o := .dic (dPutK ks y) (dPutV ks vs y d)) ea fun l => by
          obtain ⟨z1, z2, z3⟩ := nest_put h5 (r2.le l) (rd.le l) h2 (h3.le l) (h4.le l)
          refine .dicN upd_same ⟨z1, ?_⟩ z2 z3
          unfold nPut
          split
          · next hh => intro e; cases kvs with
            | nil => cases hh
            | cons _ _ => cases e
          · simp
        exact fin _ l3 hm3
    | ins c ns vs => cases y <;> cases h8
  | _ => cases h3
end
end L4
namespace L4
open PySem PySem.Spec PyProof.Rows L2
structure PCm (P : Program) (w : World) (K : PySem.W.Frag) (mg : Str → Option Value) (base : Heap) (k : Nat) (c m : Str) (n : Nat) (F : List D → Option D) : Prop where
  len : ∀ ds d, F ds = some d → ds.length = n + 1
  ex : ∃ p f fd ps, FnG P w K mg base CX0 k f fd ps (spP ⟨P, w, K⟩ (n + 1) F) ∧ ClX.CRead K (He.ga K c) (.type "type") ∧ ClX.CMet K (He.ga K c) (.type "type") m p f ∧ Binds K fd ps []
section
variable {P : Program} {w : World} {K : PySem.W.Frag} {mg : Str → Option Value} {base : Heap} {k : Nat} {x q m c p0 : Str} {ps N : List Str} {st : Stmt} {b : SF}
theorem pcm_md (D : L3.Cmd K (He.ga K c) m q st) (S : FnScope N (p0 :: ps) (defScope st))
    (hb : ∀ (kV doc pm : Value) (an : Option Addr) (cdv ct : Value) (us : List Value), us.length = (p0 :: ps).length → bindArgs (PySem.W.fnOf m q (defArgs st) (defBody st) (defScope st) .none kV doc pm an cdv ct) ⟨us, []⟩ = pure ((p0 :: ps).zip us))
    (hbody : ∀ (f : Addr) (cdv : Value) (A : Around) (outer : List Env) (s : Shared) (H : Hp) (E : XK), Gd k (cxOf CX0 P w K mg base N q (defScope st) f cdv A outer s H E).nox →
      DSs (cxOf CX0 P w K mg base N q (defScope st) f cdv A outer s H E).nox (defBody st) b) : PCm P w K mg base (k + 1) c m ps.length (runP (ps.length + 1) N.length b) := by
  obtain ⟨p, g, fd, F, r, cm⟩ := D.ex
  exact ⟨fun ds d h => runP_len h, p, g, fd, p0 :: ps, fnG_all F S (fun vs H Q E h => h.1) (fun r => spP_run r) (hbody g), r, cm, F.binds hb⟩
end
section
variable {X : Cx} {g : G} {T T' : Tk} {H : Hp} {m : M} {Q : VK} {pos p apos : Pos} {e o : Expr} {es : List Expr} {k n : Nat} {x c nm : Str}
theorem FnG.code {f : Addr} {fd : FuncData} {ps : List Str} {sp : Sp} {pins : List (Addr × Obj)} {σ : L2.St} {s : Shared} {us : List Value} {vs : List V} (F : FnG X.prog X.w X.K X.mg X.base CX0 k f fd ps sp) (hr : Gd k X) (hb : Binds X.K fd ps []) (I : Inv X pins σ H s) (r : Vals vs us) (h : sp vs H Q E0) :
    codeAny (model X.prog X.w) X.A (.call (.ref f) ⟨us, []⟩) (fun r s' => match r with | .ok (.ret v) => EP X pins σ Q v s' | .ok _ => False | .error e => X.xe e s') s := by
  have hl : us.length = ps.length := by rw [← r.length]; exact F.len _ _ _ _ h
  have b := hb s us I.kIn (by rw [List.append_nil]; exact hl)
  rw [List.append_nil] at b
  refine codeAny_mono (F.run X.A X.stack s H ⟨us, []⟩ us vs Q E0 hr.g hr.r I.env0 b r h) fun r s' hq => ?_
  match r, hq with
  | .error _, z => exact z.elim
  | .ok (.ret u), z => exact I.after z
theorem de_pcm {pl : Sem Bool} {F : List D → Option D} {f : AF} {p1 : Pos} (hF : PCm X.prog X.w X.K X.mg X.base k c nm n F) (gd : Gd k X) (hg : Gl X c) (hm : X.mg c = some (.ref (He.ga X.K c))) (ha : DA X (e :: es) f)
    (hdb : (c == ("__debug__" : Str)) = false := by decide) (hst : starEach (e :: es) X.env = (false, eval e X.env) :: starEach es X.env := by rfl) (hpl : (backTo pos (starEach es X.env)).any (·.1) = false := by rfl)
    (ht : eval (.Call (.Attribute (.Name c p1) nm apos) (e :: es) [] pos) X.env = (do
      let ov ← eval (.Name c p1) X.env
      standAt apos.atName
      let (f, first) ← holding [ov] (getMethod ov nm pl)
      callWith pos f first (backTo pos (starEach (e :: es) X.env)) (backToKw pos (keywordEach [] X.env))) := by rfl) : DE X (.Call (.Attribute (.Name c p1) nm apos) (e :: es) [] pos) (eCall (callP fun ds => F (.glo c :: ds)) f) := by
  obtain ⟨q, fa, fd, ps, G, rd, cm, b⟩ := hF.ex
  obtain ⟨t, pa, ra⟩ := ha.ex
  refine ⟨tCB (fun vs H Q => spP (gx X) (n + 1) F (.ref (He.ga X.K c) :: vs) H Q E0) t, ⟨fun pins s σ H Q I h => ?_⟩, ?_⟩
  · refine PySem.W.methodCall_KW (pl := pl) (ld_glob I hg hm ?_ hdb) ht
    refine ClX.getmethcm_ok I rd cm fun s2 I2 => ClX.callwith_cm I2 (ClX.base_none I (Nat.le_refl _)) cm.fi (thn (pa.run pos _ s2 σ H _ I2 h) fun us s3 ⟨vs, H2, I3, rv, q2⟩ => ⟨⟨ClX.pin_at I3, I3.kIn⟩, ?_⟩) hst hpl
    exact thn (wpAny_call (PySem.W.method_call (ClX.pin_at I3) (G.code (vs := .ref (He.ga X.K c) :: vs) (us := .ref (He.ga X.K c) :: us) gd b I3 (.cons rfl rv) q2))) fun _ _ y => ClX.unpinE y
  · refine rf_call (fun T H m xs vs d hm r hf Q k => ?_) ra
    have z := rf_callP (g := gx X) (n := n) (F := fun ds => F (.glo c :: ds)) (fun ds d h => by have := hF.len _ _ h; simpa using this) T H m xs vs d hm r hf Q k
    obtain ⟨hl, ν, ds, d', h1, h2, h3, h4⟩ := z
    exact ⟨by simp [hl], ν, .glo c :: ds, d', h1, .cons (.glo c) h2, h3, h4⟩
/-- cls(*a, ..): a local that holds a class -/
def eNewPL (i : Nat) (c : Str) (F : List D → M → Option (D × M)) (a : AF) : EF := fun ρ m => match ρ.getD i none with
  | some (.glo c') => if c' = c then eCall (pureC (newP c F)) a ρ m else none
  | _ => none
theorem de_newPL {F : List D → M → Option (D × M)} {f : AF} {i : Nat} {e2 : Expr} {p2 : Pos} {a2 : Bool × Sem Value} {r2 : List (Bool × Sem Value)} (hF : MNw X.prog X.w X.K X.mg X.base k c n F) (gd : Gd (k + 1) X) (hN : X.N[i]? = some x) (hv : Vis X.env.scope x) (ha : DA X (.Starred e p2 :: e2 :: es) f)
    (hdb : (x == ("__debug__" : Str)) = false := by decide) (hcd : (x == ("__classdict__" : Str)) = false := by decide)
    (he : starEach (.Starred e p2 :: e2 :: es) X.env = (true, eval e X.env) :: a2 :: r2 := by rfl) : DE X (.Call (.Name x p) (.Starred e p2 :: e2 :: es) [] pos) (eNewPL i c F f) := by
  obtain ⟨fa, fd, ps, G, M, b⟩ := hF.ex
  obtain ⟨t, pa, ra⟩ := ha.ex
  have hc := G.make M gd b
  refine ⟨fun σ H Q => σ[i]? = some (some (.ref (He.ga X.K c))) ∧ tCB (fun vs H Q => ∀ x dx, H x = none → H dx = none → dx ≠ x → spM (gx X) n F (.ref x :: vs) (upd (upd H dx (.own x)) x (.ins (He.ga X.K c) dx [])) (fun v H2 => v = .non ∧ Q (.ref x) H2) E0) t σ H Q, ⟨fun pins s σ H Q I h => ?_⟩, fun T σ H ρ m d m' hm hs hf Q k => ?_⟩
  · obtain ⟨hs, ht⟩ := h
    refine wpAny_Call_Name_kw (thn ((pe_var (pos := p) hN hv hdb hcd).run pins s σ H (fun v H1 => v = .ref (He.ga X.K c) ∧ H1 = H) I ⟨_, hs, rfl, rfl⟩) fun u s1 ⟨v, H1, I1, r1, q1⟩ => ?_)
    obtain ⟨e1, e2⟩ := q1
    subst e1 e2
    cases r1
    have hrun := pa.run pos pins s1 σ _ _ I1 ht
    rw [he] at hrun
    show wpAny _ _ (callWith pos (.ref (He.ga X.K c)) [] (backTo pos (starEach (.Starred e p2 :: _ :: es) X.env)) []) _ _ _
    rw [he]
    refine PySem.W.ks_call (P := fun h => X.K.In h) rfl (PySem.W.keeps_K M.kp) (L3.evalArgs_star (thn hrun fun us s2 ⟨vs, H2, I2, r, q⟩ => ⟨I2.kIn, ?_⟩))
    exact hc pins s2 σ H2 vs us Q I2 r q
  · unfold eNewPL at hf
    split at hf
    · next c' hc' =>
      obtain ⟨ec, hf⟩ := ite_some hf
      subst ec
      obtain ⟨v, ev, rv⟩ := hs.at_ i (.glo c') (by
        rw [List.getD_eq_getElem?_getD] at hc'
        cases h : ρ[i]? with
        | none => rw [h] at hc'; cases hc'
        | some o => rw [h] at hc'; cases hc'; rfl)
      cases rv
      exact ⟨ev, rf_call (rf_newP hF.len) ra T σ H ρ m d m' hm hs hf Q k⟩
    · cases hf
def allD : M → List D → Option D
  | m, [x] => ((lstR m x).bind bools).map fun bs => .bl (bs.all id)
  | _, _ => none
theorem call_all' (hc : X.calm = true) : CallD X (.builtin "all") allD := ⟨_, cr_all hc, fun T H m xs vs d hm r hf Q k => by
  unfold allD at hf; split at hf
  · obtain ⟨bs, h1, rfl⟩ := Option.map_eq_some_iff.mp hf
    obtain ⟨ds, h2, h3⟩ := Option.bind_eq_some_iff.mp h1
    obtain ⟨v, rfl, q⟩ := r.one
    obtain ⟨a, ws, rfl, hx, rl⟩ := lstR_rep hm q h2
    rw [bools_rep h3 rl] at hx
    exact ⟨a, bs, rfl, hx, k.now hm (.bl _)⟩
  · cases hf⟩
def tblGet (tb : List (Str × D)) (y : D) : Option D := match y with
  | .str z => tb.lookup z
  | _ => none
structure Tbl (X : Cx) (x : Str) (tb : List (Str × D)) : Prop where
  ex : ∃ es n, KDict X.K X.w (He.ga X.K x) es n
  val : ∀ q ∈ tb, ∃ u v, PySem.W.nsIn X.K (He.ga X.K x) q.1 = some (some u) ∧ RelV v u ∧ ∀ T H, Rep (gx X) T H q.2 v
  no : ∀ z, tb.lookup z = none → PySem.W.nsIn X.K (He.ga X.K x) z = some none
theorem lookup_mem {tb : List (Str × D)} {z : Str} {d : D} (h : tb.lookup z = some d) : (z, d) ∈ tb := by
  induction tb with
  | nil => cases h
  | cons p tb ih =>
    simp only [List.lookup] at h
    split at h
    · next hz => cases h; rw [beq_iff_eq.mp hz]; exact List.mem_cons_self ..
    · exact List.mem_cons_of_mem _ (ih h)
def eTbl (tb : List (Str × D)) (a : EF) : EF := fun ρ m => bd (a ρ m) fun y m1 => pu (tblGet tb y) m1
theorem de_tbl {tb : List (Str × D)} {b : Expr} {fb : EF} {p1 : Pos} (ht : Tbl X x tb) (hg : Gl X x) (hm : X.mg x = some (.ref (He.ga X.K x))) (hb : DE X b fb) (hd : (x == ("__debug__" : Str)) = false := by decide) (hs : PlainIx b := by exact fun _ _ => rfl) : DE X (.Subscript (.Name x p1) b pos) (eTbl tb fb) := by
  obtain ⟨tb', pb, rb⟩ := hb.ex
  refine ⟨_, pe_ix ix_kdict (pe_glob (v := .ref (He.ga X.K x)) hg hm rfl hd) pb hs, fun T σ H ρ m d m' hm hs hf Q k => ?_⟩
  obtain ⟨y, m1, e1, hf⟩ := bd_some hf
  obtain ⟨e2, rfl⟩ := pu_some hf
  refine rb T σ H ρ m y _ hm hs e1 _ fun v T1 H1 l1 hm1 r1 => ?_
  cases r1 with
  | str z =>
    obtain ⟨es, n, D⟩ := ht.ex
    obtain ⟨u, w, h1, h2, h3⟩ := ht.val (z, d) (lookup_mem e2)
    exact ⟨_, z, w, rfl, rfl, L3.kdct_of D h1 h2, k _ T1 H1 l1 hm1 (h3 _ _)⟩
  | _ => cases e2
def eTblNin (tb : List (Str × D)) (a : EF) : EF := fun ρ m => bd (a ρ m) fun y m1 => match y with
  | .str z => some (.bl (!(tb.lookup z).isSome), m1)
  | _ => none
theorem Tbl.ns {tb : List (Str × D)} (ht : Tbl X x tb) (z : Str) : ∃ r, PySem.W.nsIn X.K (He.ga X.K x) z = some r ∧ r.isSome = (tb.lookup z).isSome := by
  cases h : tb.lookup z with
  | none => exact ⟨none, ht.no z h, rfl⟩
  | some d =>
    obtain ⟨u, w, h1, _⟩ := ht.val (z, d) (lookup_mem h)
    exact ⟨some u, h1, rfl⟩
theorem rf_tblNin {tb : List (Str × D)} {t : TE} {f : EF} (ht : Tbl X x tb) (ra : RfE (gx X) t f) : RfE (gx X) (tOp (L3.rInKD X.K (He.ga X.K x) true) t (tC (.ref (He.ga X.K x)))) (eTblNin tb f) := by
  intro T σ H ρ m d m' hm hs hf Q k
  obtain ⟨y, m1, e1, hf1⟩ := bd_some hf
  refine ra T σ H ρ m y m1 hm hs e1 _ fun v T1 H1 l1 hm1 r1 => ?_
  clear hf
  cases r1 with
  | str z =>
    cases hf1
    obtain ⟨r, h1, h2⟩ := ht.ns z
    exact ⟨z, r, rfl, rfl, h1, by simp only [if_true]; rw [h2]; exact k _ T1 H1 l1 hm1 (.bl _)⟩
  | _ => cases hf1
theorem dt_tblNin {tb : List (Str × D)} {a : Expr} {f : EF} {p1 : Pos} (ht : Tbl X x tb) (hg : Gl X x) (hm : X.mg x = some (.ref (He.ga X.K x))) (ha : DE X a f) (hd : (x == ("__debug__" : Str)) = false := by decide) : DT X (.Compare a [.NotIn] [.Name x p1] pos) (tVal (eTblNin tb f)) := by
  obtain ⟨t, pa, ra⟩ := ha.ex
  obtain ⟨es, n, D⟩ := ht.ex
  exact ⟨_, pt_cmpR (L3.op_notIn_kd' D) pa (pe_glob (v := .ref (He.ga X.K x)) hg hm rfl hd) (by rfl), rf_test (rf_tblNin ht ra)⟩
theorem itok_Z {J : It} {ds es : List D} (hgo : ∀ T1 H1, Le T H T1 H1 → ∀ (i : Nat) d e, ds[i]? = some d → es[i]? = some e → J.go i H1 ∧ ∀ x H2, J.yld i H1 x H2 → ∃ t v w, x = .ref t ∧ H1 t = none ∧ H2 = upd H1 t (.tup [v, w]) ∧ Rep g T1 H1 d v ∧ Rep g T1 H1 e w)
    (hst : ∀ T1 H1, Le T H T1 H1 → ∀ i, (ds.zip es).length = i → J.stop i H1) : ItOk g T H J ((ds.zip es).map fun p => .tup [p.1, p.2]) := by
  intro T1 H1 l m1 hm1 i
  refine ⟨fun d hd => ?_, fun hl => hst T1 H1 l i (by simpa using hl)⟩
  rw [List.getElem?_map] at hd
  obtain ⟨⟨a, b⟩, hp, rfl⟩ := Option.map_eq_some_iff.mp hd
  obtain ⟨h1, h2⟩ := List.getElem?_zip_eq_some.mp hp
  obtain ⟨go, yl⟩ := hgo T1 H1 l i a b h1 h2
  refine ⟨go, fun x H2 hy => ?_⟩
  obtain ⟨t, v, w, rfl, ht, rfl, r1, r2⟩ := yl x H2 hy
  obtain ⟨l2, hm2⟩ := hm1.fresh (u := .tup [v, w]) ht
  exact ⟨T1, l2, hm2, .tup (.inl ⟨hm1.nope ht, .inl upd_same⟩) ((RepL.cons r1 (.cons r2 .nil)).le l2)⟩
theorem yld_L {a : Addr} {i : Nat} {vs : List V} {v x : V} (h : SqL g.K H a vs) (hv : vs[i]? = some v) (hy : ∀ xs, SqL g.K H a xs → xs[i]? = some x) : x = v := by
  have := hy vs h
  rw [hv] at this
  exact (Option.some.inj this).symm
theorem yld_T {a : Addr} {i : Nat} {vs : List V} {v x : V} (h : SqT g.K H a vs) (hv : vs[i]? = some v) (hy : ∀ xs, SqT g.K H a xs → xs[i]? = some x) : x = v := by
  have := hy vs h
  rw [hv] at this
  exact (Option.some.inj this).symm
/-- a list or a tuple that stays as it is: what is walked -/
def frzItems : D → Option (Bool × List D)
  | .tup ds => some (true, ds)
  | .lst ds => some (false, ds)
  | .scr ds => some (false, ds)
  | _ => none
theorem frz_T {d : D} {v : V} {ds : List D} (r : Rep g T H d v) (h : frzItems d = some (true, ds)) : ∃ a, v = .ref a ∧ ∀ T1 H1, Le T H T1 H1 → ∃ vs, SqT g.K H1 a vs ∧ RepL g T1 H1 ds vs := by
  cases r with
  | tup f q => cases h; exact ⟨_, rfl, fun T1 H1 l => ⟨_, (f.le l).sq, q.le l⟩⟩
  | _ => cases h
theorem frz_L {d : D} {v : V} {ds : List D} (r : Rep g T H d v) (h : frzItems d = some (false, ds)) : ∃ a, v = .ref a ∧ ∀ T1 H1, Le T H T1 H1 → ∃ vs, SqL g.K H1 a vs ∧ RepL g T1 H1 ds vs := by
  cases r with
  | lst f q => cases h; exact ⟨_, rfl, fun T1 H1 l => ⟨_, (f.le l).sq, q.le l⟩⟩
  | scr f q => cases h; exact ⟨_, rfl, fun T1 H1 l => ⟨_, (f.le l).sq, q.le l⟩⟩
  | _ => cases h
def zipD (ds es : List D) : List D := (ds.zip es).map fun p => .tup [p.1, p.2]
/-- zip of a tuple and a list -/
def iZpM (a : AF) : AF := fun ρ m => bd (a ρ m) fun xs m1 => match xs with
  | [x, y] => match frzItems x, frzItems y with
    | some (true, ds), some (false, es) => some (zipD ds es, m1)
    | _, _ => none
  | _ => none
theorem di_zipM {e2 : Expr} {f : AF} {tpos : Pos} {elts : List Expr} {kk : Nat} (hg : Gl X "zip") (hm : X.mg "zip" = none) (ha : DA X [e, e2] f)
    (hs : starEach [e, e2] X.env = (false, eval e X.env) :: starEach [e2] X.env := by rfl) (hpl : (backTo pos (starEach [e2] X.env)).any (·.1) = false := by rfl) : DI X (.Tuple elts kk tpos) (.Call (.Name "zip" p) [e, e2] [] pos) (iZpM f) := by
  obtain ⟨t, pa, ra⟩ := ha.ex
  refine ⟨_, L3.pi_zipM hg hm pa hs hpl, fun T σ H ρ m ds m' hm hs hf R k => ?_⟩
  obtain ⟨xs, m1, e1, hf1⟩ := bd_some hf
  refine ra T σ H ρ m xs m1 hm hs e1 _ fun vs T1 H1 l1 hm1 r1 => ?_
  clear hf
  split at hf1
  · next x y =>
    split at hf1
    · next ds es h1 h2 =>
      cases hf1
      obtain ⟨v, w, rfl, q1, q2⟩ := r1.two
      obtain ⟨a, rfl, ha⟩ := frz_T q1 h1
      obtain ⟨b, rfl, hb⟩ := frz_L q2 h2
      obtain ⟨us, hu, _⟩ := ha T1 H1 .refl
      obtain ⟨ws, hw, _⟩ := hb T1 H1 .refl
      refine ⟨a, b, us, ws, rfl, hu, hw, k _ T1 H1 l1 hm1 (itok_Z (fun T2 H2 l2 i d e hd he => ?_) fun T2 H2 l2 i hi => ?_)⟩
      · obtain ⟨us2, hu2, ru⟩ := ha T2 H2 l2
        obtain ⟨ws2, hw2, rw2⟩ := hb T2 H2 l2
        obtain ⟨u, eu, qu⟩ := ru.get hd
        obtain ⟨w, ew, qw⟩ := rw2.get he
        refine ⟨⟨us2, ws2, u, w, hu2, hw2, eu, ew⟩, fun x H3 ⟨t, x1, y1, h3, h4, h5, h6, h7⟩ => ?_⟩
        rw [yld_T (g := gx X) hu2 eu h6, yld_L (g := gx X) hw2 ew h7] at h5
        exact ⟨t, u, w, h3, h4, h5, qu, qw⟩
      · obtain ⟨us2, hu2, ru⟩ := ha T2 H2 l2
        obtain ⟨ws2, hw2, rw2⟩ := hb T2 H2 l2
        exact ⟨us2, ws2, hu2, hw2, by rw [← hi, List.length_zip, ru.length, rw2.length]⟩
    · cases hf1
  · cases hf1
end
end L4
namespace L4
open PySem PySem.Spec PyProof.Rows L2
theorem atomB_ok {g : G} {d : D} {u : Value} (h : atomB d u = true) : ∃ v, RelV v u ∧ ∀ T H, Rep g T H d v := by
  unfold atomB at h
  split at h
  · exact ⟨.bl _, by rw [beq_iff_eq.mp h]; rfl, fun _ _ => .bl _⟩
  · exact ⟨.int _, ⟨_, by rw [beq_iff_eq.mp h]⟩, fun _ _ => .int _⟩
  · exact ⟨.str _, ⟨_, by rw [of_decide_eq_true h]⟩, fun _ _ => .str _⟩
  · exact ⟨.non, rfl, fun _ _ => .non⟩
  · cases h
theorem atomsB_ok {g : G} : ∀ {ds : List D} {us : List Value}, atomsB ds us = true → ∃ vs, Vals vs us ∧ ∀ T H, RepL g T H ds vs
  | [], [], _ => ⟨[], .nil, fun _ _ => .nil⟩
  | [], _ :: _, h => by cases h
  | _ :: _, [], h => by cases h
  | d :: ds, u :: us, h => by
    obtain ⟨h1, h2⟩ := and2 (show (atomB d u && atomsB ds us) = true from h)
    obtain ⟨v, r, q⟩ := atomB_ok (g := g) h1
    obtain ⟨vs, rs, qs⟩ := atomsB_ok (g := g) h2
    exact ⟨v :: vs, .cons r rs, fun T H => .cons (q T H) (qs T H)⟩
theorem valB_ok {g : G} {d : D} {u : Value} (h : valB g.K d u = true) : ∃ v, RelV v u ∧ ∀ T H, Rep g T H d v := by
  unfold valB at h
  split at h
  · next ds r =>
    split at h
    · next dd its n sl hl =>
      obtain ⟨h1, h2⟩ := and2 h
      obtain ⟨vs, rs, qs⟩ := atomsB_ok (g := g) h2
      exact ⟨.ref r, rfl, fun T H => .tup (.inr (.inr ⟨_, its, n, hl, rfl, rfl, of_decide_eq_true h1, rs⟩)) (qs T H)⟩
    · cases h
  · exact atomB_ok h
theorem tbl_of {X : Cx} {x : Str} {tb : List (Str × D)} {names : List Str} {K : PySem.W.Frag} {w : World} (hK : X.K = K) (hW : X.w = w) (h0 : ∃ es n, KDict K w (He.ga K x) es n) (h1 : tblB K (He.ga K x) tb = true) (h2 : nsOnly K (He.ga K x) names = true) (h3 : ∀ z ∈ names, (tb.lookup z).isSome = true := by decide +kernel) : Tbl X x tb := by
  subst hK hW
  refine ⟨h0, fun q hq => ?_, fun z hz => ?_⟩
  · have := List.all_eq_true.mp h1 q hq
    split at this
    · next u hu =>
      obtain ⟨v, r, s⟩ := valB_ok (g := gx X) this
      exact ⟨u, v, hu, r, s⟩
    · cases this
  · unfold nsOnly at h2
    unfold PySem.W.nsIn
    split at h2
    · next es n sl hl =>
      rw [hl]
      have key : ∀ e ∈ es.toList, ∃ y t, e.key = .str y t ∧ y ∈ names := fun e he => by
        have := List.all_eq_true.mp h2 e he
        split at this
        · next y t hy => exact ⟨y, t, hy, by simpa using this⟩
        · cases this
      have hn : z ∉ names := fun hz' => absurd (h3 z hz') (by rw [hz]; decide)
      have e1 : es.toList.find? (·.key.isStr z) = none := by
        rw [List.find?_eq_none]
        intro e he
        obtain ⟨y, t, ey, hy⟩ := key e he
        rw [ey]
        intro hh
        have : y = z := by simpa [Value.isStr] using hh
        exact hn (this ▸ hy)
      have e2 : es.toList.any (·.refKey) = false := by
        rw [List.any_eq_false]
        intro e he
        obtain ⟨y, t, ey, hy⟩ := key e he
        simp [DictEntry.refKey, ey]
      simp only [e1, e2]
      rfl
    · cases h2
end L4
namespace L4
open PySem PySem.Spec PyProof.Rows L2
theorem fs_of {K : PySem.W.Frag} {H : Hp} {a : Addr} {xs : List V} {T : Tk} (hT : T.ν = []) (hO : Only H) (h : SqL K H a xs) : FS K T H a xs := by
  rcases h with h | h
  · rcases hO a with z | ⟨ob, ys, z⟩
    · rcases h with h | ⟨o, h⟩ <;> rw [z] at h <;> cases h
    · rcases h with h | ⟨o, h⟩
      · rw [z] at h; cases h
      · exact .inl ⟨by rw [hT]; exact List.not_mem_nil, o, h⟩
  · exact .inr (.inr h)
theorem repL_ints {g : G} {T : Tk} {H : Hp} (ns : List Int) : RepL g T H (ns.map D.int) (ns.map V.int) := by
  induction ns with
  | nil => exact .nil
  | cons n ns ih => exact .cons (.int n) ih
theorem law_sp {P : Program} {w : World} {K : PySem.W.Frag} {F : List D → Option D} {H : Hp} {a : Addr} {ns : List Int} (hF : F [.scr (ns.map D.int)] = some (.bl true)) (hO : Only H) (h : SqL K H a (ns.map V.int)) :
    spP ⟨P, w, K⟩ 1 F [.ref a] H (fun v _ => v = .bl true) fun _ _ _ => False :=
  ⟨rfl, [], [.scr (ns.map D.int)], .bl true, fun a h => (List.not_mem_nil h).elim, .cons (.scr (fs_of rfl hO h) (repL_ints ns)) .nil, hF, fun v H' _ r => by cases r; rfl⟩
theorem law_df {P : Program} {w : World} {K : PySem.W.Frag} {mg : Str → Option Value} {base : Heap} {k : Nat} {ps N : List Str} {st : Stmt} {b : SF} {x q : Str} {f : Addr} {fd : FuncData} (F : Fun K x q st f fd) (S : FnScope N ps (defScope st))
    (hbody : ∀ (f : Addr) (cdv : Value) (A : Around) (outer : List Env) (s : Shared) (H : Hp) (E : XK), Gd k (cxOf CX0 P w K mg base N q (defScope st) f cdv A outer s H E).nox →
      DSs (cxOf CX0 P w K mg base N q (defScope st) f cdv A outer s H E).nox (defBody st) b) : FnG P w K mg base CX0 (k + 1) f fd ps (spP ⟨P, w, K⟩ ps.length (runP ps.length N.length b)) :=
  fnG_all F S (fun vs H Q E h => h.1) (fun r => spP_run r) (hbody f)
theorem FnG.to3 {P : Program} {w : World} {K : PySem.W.Frag} {mg : Str → Option Value} {base : Heap} {k : Nat} {f : Addr} {fd : FuncData} {ps : List Str} {sp : Sp} (F : FnG P w K mg base CX0 k f fd ps sp) : L3.FnG P w K mg base k f fd ps sp := ⟨F.len, F.run⟩
theorem walkL {l : PySem.W.OpenLaw} {n k : Nat} {q : Program} {loose : List Str} {XP : (Str → Option Value) → Heap → Prop} {YP : World → Heap → Prop} {d : DefRec} {x : Str} {FL : List D → Option D}
    (hn : l.most = some n) (hn2 : n ≤ sizeLine) (hdf : d.params.defaults = []) (hr : Room k callerA) (hF : ∀ ns : List Int, ns.length ≤ n → FL [.scr (ns.map D.int)] = some (.bl true))
    (F : ∀ (w : World) (mg : Str → Option Value) (fa : Addr) (h : Heap), YP w h → h.Ns mainGlobals mg → mg d.name = some (.ref fa) →
      ∃ (K : PySem.W.Frag) (fd : FuncData), K.In h ∧ (∀ (s : Shared) (u : Value), BindsTo s fd ⟨[u], []⟩ [(x, u)]) ∧ ∀ base : Heap, K.In base → base.Ns mainGlobals mg → FnG l.prog w K mg base CX0 k fa fd [x] (spP ⟨l.prog, w, K⟩ 1 FL)) :
    PySem.W.WalkO q loose XP YP l.row.toRowW d [] (fun f vs => PySem.call f vs) := by
  refine Att.attach_call hn hdf ?_
  intro w s₀ s₁ mg mb fa o pm cd doc a vs ns G Y ho hd hcd hmg hobj hints hlen hg
  obtain ⟨K, fd, KX, hb, hX⟩ := F w mg fa _ Y G.T.g hmg
  exact L3.callG (n := n) KX G.T.g G.T.b G.T.builtins G.T.nolimit hg hobj hints (Nat.le_trans hlen hn2) hr (fun base h1 h2 => (hX base h1 h2).to3) hb fun H hO hS => law_sp (hF ns hlen) hO hS
end L4
namespace L4
open PySem
theorem ixA_ref {m : M} {n : Nat} {ds : List D} {i : Int} (h : m[n]? = some (.lst ds)) : ixA m (.ref n) (.int i) = L2.atI ds i := by
  simp [ixA, dicOf, h, dicO, ixD, lstR, lstOf, lstO]
theorem ixA_scr {m : M} {ds : List D} {i : Int} : ixA m (.scr ds) (.int i) = L2.atI ds i := by
  simp [ixA, dicOf, ixD, lstR]
theorem ixA_lst {m : M} {ds : List D} {i : Int} : ixA m (.lst ds) (.int i) = L2.atI ds i := by
  simp [ixA, dicOf, ixD, lstR, lstOf]
theorem lenD_lst {m : M} {ds : List D} : lenD m [.lst ds] = some (.int ds.length) := by simp [lenD, lstR, lstOf]
theorem sz3 : (3 : Nat) ≤ sizeLine := by decide +kernel
/-- a loop by what holds at each turn -/
theorem forGo_inv {f : GF} {b : SF} (I : Nat → Ss → M → Prop) : ∀ (xs : List D) (i : Nat) (ρ : Ss) (m : M), I i ρ m →
    (∀ j x ρ m, xs[j]? = some x → I (i + j) ρ m → ∃ ρ1 m1, f x ρ m = some (ρ1, m1) ∧ ∃ r m2, b ρ1 m1 = some (r, m2) ∧ ∃ ρ2, (r = .nx ρ2 ∨ r = .ct ρ2) ∧ I (i + j + 1) ρ2 m2) →
    ∃ ρ' m', forGo f b xs ρ m = some (.nx ρ', m') ∧ I (i + xs.length) ρ' m'
  | [], i, ρ, m, h0, _ => ⟨ρ, m, rfl, h0⟩
  | x :: xs, i, ρ, m, h0, hs => by
    obtain ⟨ρ1, m1, e1, r, m2, e2, ρ2, hr, h2⟩ := hs 0 x ρ m rfl h0
    obtain ⟨ρ', m', e3, h3⟩ := forGo_inv I xs (i + 1) ρ2 m2 h2 fun j y ρ m hj hI => by
      have := hs (j + 1) y ρ m (by simpa using hj) (by rw [show i + (j + 1) = i + 1 + j by omega]; exact hI)
      rw [show i + (j + 1) + 1 = i + 1 + j + 1 by omega] at this
      exact this
    refine ⟨ρ', m', ?_, by rw [List.length_cons, show i + (xs.length + 1) = i + 1 + xs.length by omega]; exact h3⟩
    simp only [forGo, e1, bd_go, e2]
    rcases hr with rfl | rfl <;> exact e3
end L4
namespace L4
open PySem PySem.Spec PyProof.Rows L2
section
variable {X : Cx} {g : G} {T T' : Tk} {H : Hp} {m : M} {Q : VK} {pos p apos : Pos} {e o : Expr} {es : List Expr} {k n : Nat} {x c nm : Str}
/-- pairs, from the left -/
def pairsF : List (EF × EF) → Ss → M → Option (List (D × D) × M)
  | [], _, m => some ([], m)
  | (a, b) :: r, ρ, m => bd (a ρ m) fun x m1 => bd (b ρ m1) fun y m2 => bd (pairsF r ρ m2) fun ps m3 => some ((x, y) :: ps, m3)
def mergeD : List (D × D) → List D × List D → List D × List D
  | [], z => z
  | (x, y) :: ps, (ks, vs) => mergeD ps (dPutK ks x, dPutV ks vs x y)
def eDisp (nw : Bool) (ps : List (EF × EF)) : EF := fun ρ m => bd (pairsF ps ρ m) fun qs m1 =>
  if (qs.all fun q => isFlat q.1) && decide (qs.length ≤ 15) then some (bif nw then (.ref m1.length, m1 ++ [.dic (mergeD qs ([], [])).1 (mergeD qs ([], [])).2]) else (.dic (mergeD qs ([], [])).1 (mergeD qs ([], [])).2, m1)) else none
structure DPs (X : Cx) (pos : Pos) (keys : List (Option Expr)) (values : List Expr) (ps : List (EF × EF)) : Prop where
  ex : ∃ trs, PPs X pos keys values trs ∧ ∀ T σ H ρ m qs m', RepH (gx X) T H m → RepS (gx X) T H σ ρ → pairsF ps ρ m = some (qs, m') → ∀ Q : List (V × V) → Hp → Prop,
    (∀ vs T' H', Le T H T' H' → RepH (gx X) T' H' m' → RepL (gx X) T' H' (qs.map Prod.fst) (vs.map Prod.fst) → RepL (gx X) T' H' (qs.map Prod.snd) (vs.map Prod.snd) → Q vs H') → tPairs trs σ H Q
theorem dps_nil : DPs X pos [] [] [] := ⟨[], pps_nil, fun T σ H ρ m qs m' hm hs hf Q k => by cases hf; exact k [] T H .refl hm .nil .nil⟩
theorem dps_cons {a b : Expr} {ks : List (Option Expr)} {vs : List Expr} {fa fb : EF} {ps : List (EF × EF)} (ha : DE X a fa) (hb : DE X b fb) (hr : DPs X pos ks vs ps) : DPs X pos (some a :: ks) (b :: vs) ((fa, fb) :: ps) := by
  obtain ⟨ta, pa, ra⟩ := ha.ex; obtain ⟨tb, pb, rb⟩ := hb.ex; obtain ⟨tr, pr, rr⟩ := hr.ex
  refine ⟨_, pps_cons pa pb pr, fun T σ H ρ m qs m' hm hs hf Q k => ?_⟩
  obtain ⟨x, m1, e1, hf⟩ := bd_some hf
  obtain ⟨y, m2, e2, hf⟩ := bd_some hf
  obtain ⟨qs, m3, e3, hf⟩ := bd_some hf
  cases hf
  refine ra T σ H ρ m x m1 hm hs e1 _ fun v T1 H1 l1 hm1 r1 => ?_
  refine rb T1 σ H1 ρ m1 y m2 hm1 (hs.le l1) e2 _ fun u T2 H2 l2 hm2 r2 => ?_
  refine rr T2 σ H2 ρ m2 qs _ hm2 ((hs.le l1).le l2) e3 _ fun ws T3 H3 l3 hm3 r3 r4 => ?_
  exact k _ T3 H3 (l1.trans (l2.trans l3)) hm3 (.cons ((r1.le l2).le l3) r3) (.cons (r2.le l3) r4)
theorem flats {qs : List (D × D)} {vs : List (V × V)} (h : (qs.all fun q => isFlat q.1) = true) (r1 : RepL g T H (qs.map Prod.fst) (vs.map Prod.fst)) (r2 : RepL g T H (qs.map Prod.snd) (vs.map Prod.snd)) :
    ∃ kvs : List (Key × V), vs = kvs.map (fun kv => (kV kv.1, kv.2)) ∧ qs.map Prod.fst = kvs.map (fun kv => keyD kv.1) ∧ RepL g T H (qs.map Prod.snd) (kvs.map Prod.snd) := by
  induction qs generalizing vs with
  | nil => cases vs with
    | nil => exact ⟨[], rfl, rfl, .nil⟩
    | cons _ _ => cases r1
  | cons q qs ih => cases vs with
    | nil => cases r1
    | cons v vs =>
      obtain ⟨h1, h2⟩ := and2 h
      cases r1 with
      | cons a1 b1 =>
        cases r2 with
        | cons a2 b2 =>
          obtain ⟨kvs, rfl, e2, r3⟩ := ih h2 b1 b2
          obtain ⟨κ, hκ⟩ := flat_key h1
          rw [hκ] at a1
          have ev : v.1 = kV κ := by
            cases κ with
            | inl i => cases hv : v.1 <;> rw [hv] at a1 <;> cases a1; rfl
            | inr i => cases hv : v.1 <;> rw [hv] at a1 <;> cases a1; rfl
          refine ⟨(κ, v.2) :: kvs, ?_, ?_, .cons a2 r3⟩
          · rw [List.map_cons, ← ev]
          · rw [List.map_cons, List.map_cons, e2, hκ]
theorem merge_rep : ∀ {qs : List (D × D)} {kvs acc : List (Key × V)} {ks vs : List D}, qs.map Prod.fst = kvs.map (fun kv => keyD kv.1) → RepL g T H (qs.map Prod.snd) (kvs.map Prod.snd) → RepL g T H ks (acc.map fun p => kV p.1) → RepL g T H vs (acc.map Prod.snd) →
    RepL g T H (mergeD qs (ks, vs)).1 ((mergeK acc kvs).map fun p => kV p.1) ∧ RepL g T H (mergeD qs (ks, vs)).2 ((mergeK acc kvs).map Prod.snd)
  | [], [], _, _, _, _, _, r1, r2 => ⟨r1, r2⟩
  | [], _ :: _, _, _, _, e, _, _, _ => by cases e
  | _ :: _, [], _, _, _, e, _, _, _ => by cases e
  | (x, y) :: qs, (κ, v) :: kvs, acc, ks, vs, e, r, r1, r2 => by
    have e1 : x = keyD κ := (List.cons.inj e).1
    have e2 := (List.cons.inj e).2
    subst e1
    cases r with
    | cons ry rr =>
      obtain ⟨h1, h2⟩ := flat_put (κ := κ) r1 r2 ry
      exact merge_rep (qs := qs) (kvs := kvs) (acc := putK acc κ v) e2 rr h1 h2
theorem Made.newO {p : Addr} {u : HO} (hu : Mu u) (hm : RepH g T H m) (hp : H p = none) : RepH g (T.forb p) (upd H p u) m ∧ Le T H (T.forb p) (upd H p u) := by
  have l : Le T H (T.forb p) (upd H p u) := ⟨List.prefix_rfl, fun a v e _ => by rw [upd_ne (ne_of_none e hp)]; exact e, fun a ha n => by
    rcases List.mem_cons.mp ha with rfl | z
    · exact hp
    · exact absurd z n, fun a ha n => absurd ha n, fun a h => List.mem_cons_of_mem _ h⟩
  refine ⟨⟨hm.len, hm.nd, fun a ha => ?_, fun n a o h1 h2 => (hm.at_ n a o h1 h2).le l ?_⟩, l⟩
  · rcases List.mem_cons.mp ha with rfl | z
    · exact ⟨_, upd_same, hu⟩
    · obtain ⟨v, e, q⟩ := hm.has a z
      exact ⟨v, by rw [upd_ne (ne_of_none e hp)]; exact e, q⟩
  · obtain ⟨v, e, _⟩ := (hm.at_ n a o h1 h2).has
    rw [upd_ne (ne_of_none e hp)]
/-- a new object that stood forbidden is done: as it is, or tracked -/
theorem forb_fin {p : Addr} {u0 u : HO} {H1 : Hp} {T1 : Tk} {m1 : M} (hp : H p = none) (hm : RepH g T H m) (l : Le (T.forb p) (upd H p u0) T1 H1) (hm1 : RepH g T1 H1 m1) (hu : Mu u) :
    ∃ T2 : Tk, Le T H T2 (upd H1 p u) ∧ RepH g T2 (upd H1 p u) m1 ∧ p ∉ T2.ν ∧ (∀ ds vs, RepL g T1 H1 ds vs → RepL g T2 (upd H1 p u) ds vs) ∧
      Le T H (T2.push p) (upd H1 p u) ∧ (∀ ds vs, RepL g T1 H1 ds vs → RepL g (T2.push p) (upd H1 p u) ds vs) ∧ ∀ o, RepO g (T2.push p) (upd H1 p u) p o → RepH g (T2.push p) (upd H1 p u) (m1 ++ [o]) := by
  have np : p ∉ T.ν := hm.nope hp
  have start : Le T H T (upd H p u0) := ⟨List.prefix_rfl, fun a v e _ => by rw [upd_ne (ne_of_none e hp)]; exact e, fun a h n => absurd h n, fun a h n => absurd h n, fun a h => h⟩
  obtain ⟨T2, e1, e2, e3, l2⟩ := start.unforb hp np ⟨_, upd_same⟩ l
  have hpT1 : p ∈ T1.ν := (e3 p).mp (List.mem_cons_self ..)
  have npμ : p ∉ T1.μ := fun z => e2 (T2.sub p (by rw [e1]; exact z))
  have sub : ∀ a ∈ T2.ν, a ∈ T1.ν := fun a h => (e3 a).mp (List.mem_cons_of_mem _ h)
  have l3 : Le T H T2 (upd H1 p u) := ⟨l2.pre, fun a v e n => by rw [upd_ne (ne_of_none e hp)]; exact l2.keep a v e n, l2.new, l2.newμ, l2.up⟩
  have hm2 : RepH g T1 (upd H1 p u) m1 := ⟨hm1.len, hm1.nd, fun a ha => by
    by_cases z : a = p
    · rw [z]; exact ⟨_, upd_same, hu⟩
    · obtain ⟨v, e, q⟩ := hm1.has a ha
      exact ⟨v, by rw [upd_ne z]; exact e, q⟩, fun n a o h1 h2 => (hm1.at_ n a o h1 h2).upF hpT1 (by rintro rfl; exact npμ (List.mem_of_getElem? h1))⟩
  have sub3 : ∀ a ∈ (T2.push p).ν, a ∈ T1.ν := fun a h => (e3 a).mp (forb_push h)
  have pre3 : T1.μ <+: (T2.push p).μ := by
    show T1.μ <+: T2.μ ++ [p]
    rw [e1]; exact List.prefix_append _ _
  refine ⟨T2, l3, ⟨by rw [e1]; exact hm2.len, by rw [e1]; exact hm2.nd, fun a ha => hm2.has a (sub a ha), fun n a o h1 h2 => (hm2.at_ n a o (by rw [← e1]; exact h1) h2).wk e1 sub⟩, e2, fun ds vs r => (r.upF hpT1 _).wk e1 sub _, l3.pushed hp, fun ds vs r => (r.upF hpT1 _).ext pre3 sub3 _, fun o ho => ?_⟩
  exact trackIt hm2 hpT1 npμ (by show T2.μ ++ [p] = _; rw [e1]) sub3 ho
theorem push_ref {p : Addr} {T2 : Tk} {m1 : M} (hl : T2.μ.length = m1.length) : Rep g (T2.push p) H (.ref m1.length) (.ref p) := by
  refine .ref ?_
  show (T2.μ ++ [p])[m1.length]? = some p
  rw [← hl, List.getElem?_append_right (Nat.le_refl _)]
  simp
theorem de_disp {nw : Bool} {keys : List (Option Expr)} {values : List Expr} {ps : List (EF × EF)} (h : DPs X pos keys values ps) (hall : keys.all (·.isSome) = true := by rfl) (hl : keys.length = values.length := by rfl) (h0 : keys ≠ [] := by intro z; cases z)
    (h15 : keys.length ≤ 15 := by decide) : DE X (.Dict keys values pos) (eDisp nw ps) := by
  obtain ⟨trs, pp, rp⟩ := h.ex
  refine ⟨_, pe_disp pp hall hl h0 h15, fun T σ H ρ m d m' hm hs hf Q k p hp => ?_⟩
  obtain ⟨qs, m1, e1, hf⟩ := bd_some hf
  obtain ⟨hg, hf⟩ := ite_some hf
  have hf := Option.some.inj hf
  obtain ⟨hfl, hz⟩ := and2 hg
  have hz : qs.length ≤ 15 := of_decide_eq_true hz
  obtain ⟨hm0, l0⟩ := Made.newO (u := .dK []) trivial hm hp
  refine rp _ σ _ ρ m qs m1 hm0 (hs.le l0) e1 _ fun vs T1 H1 l1 hm1 r1 r2 => ?_
  obtain ⟨kvs, rfl, ek, r3⟩ := flats hfl r1 r2
  have hq : H1 p = some (.dK []) := l1.keep p _ upd_same (fun z => hm.nope hp (T.sub p z))
  refine ⟨hq, kvs, rfl, ?_, ?_⟩
  · have := congrArg List.length ek
    simp at this
    omega
  obtain ⟨T2, l2, hm2, np, rl, l3, rl3, hm3⟩ := forb_fin (u := .dK (mergeK [] kvs)) hp hm l1 hm1 trivial
  obtain ⟨a1, a2⟩ := merge_rep (ks := []) (vs := []) ek r3 (acc := []) .nil .nil
  cases nw with
  | false =>
    cases hf
    exact k _ _ _ l2 hm2 (.dicF np (.inl upd_same) (rl _ _ a1) (rl _ _ a2))
  | true =>
    cases hf
    exact k _ _ _ l3 (hm3 _ (.dicF upd_same (rl3 _ _ a1) (rl3 _ _ a2))) (push_ref hm2.len)
end
end L4
namespace L4
open PySem PySem.Spec PyProof.Rows PySem.W L2
section
variable {X : Cx} {g : G} {T T' : Tk} {H : Hp} {m : M} {Q : VK} {pos p apos : Pos} {e o : Expr} {es : List Expr} {k n : Nat} {x c nm : Str}
abbrev NX := M → Nat → Option (Option D)
abbrev LF := Ss → M → Option (NX × M)
def ItLv (g : G) (T : Tk) (H : Hp) (J : It) (nx : NX) : Prop := ∀ T1 H1, Le T H T1 H1 → ∀ m1, RepH g T1 H1 m1 → ∀ i : Nat,
  (∀ d, nx m1 i = some (some d) → J.go i H1 ∧ ∀ x H2, J.yld i H1 x H2 → ∃ T2, Le T1 H1 T2 H2 ∧ RepH g T2 H2 m1 ∧ Rep g T2 H2 d x) ∧ (nx m1 i = some none → J.stop i H1)
def RfL (g : G) (wi : TI) (f : LF) : Prop := ∀ T σ H ρ m nx m', RepH g T H m → RepS g T H σ ρ → f ρ m = some (nx, m') → ∀ R : It → Hp → Prop, (∀ J T' H', Le T H T' H' → RepH g T' H' m' → ItLv g T' H' J nx → R J H') → wi σ H R
structure DL (X : Cx) (tg iter : Expr) (f : LF) : Prop where
  ex : ∃ wi, PI X tg iter wi ∧ RfL (gx X) wi f
theorem ItLv.le {T1 : Tk} {H1 : Hp} {J : It} {nx : NX} (l : Le T H T1 H1) (h : ItLv g T H J nx) : ItLv g T1 H1 J nx := fun T2 H2 l2 => h T2 H2 (l.trans l2)
def compLv (t : Tgt) (c : TF) (e : EF) (nx : NX) (ρ : Ss) : Nat → Nat → M → Option (List D × M)
  | 0, _, _ => none
  | k + 1, i, m => match nx m i with
    | none => none
    | some none => some ([], m)
    | some (some x) => match t.un x with
      | some ds => bd (c (setMany ρ t.is ds) m) fun b m1 => if b then bd (e (setMany ρ t.is ds) m1) fun y m2 => bd (compLv t c e nx ρ k (i + 1) m2) fun ys m3 => some (y :: ys, m3) else compLv t c e nx ρ k (i + 1) m1
      | none => none
def eLcV (nw : Bool) (it : LF) (t : Tgt) (c : TF) (e : EF) : EF := fun ρ m => bd (it ρ m) fun nx m1 => bd (compLv t c e nx ρ 1000001 0 m1) fun ys m2 => some (bif nw then (.ref m2.length, m2 ++ [.lst ys]) else (.lst ys, m2))
theorem rf_lcV {wi : TI} {it : LF} {t : Tgt} {tg : TG} {tt : TT} {te : TE} {c : TF} {e : EF} (hi : RfL g wi it) (hg : ∀ T σ H d v ds, Rep g T H d v → t.un d = some ds → ∀ Q, (∀ vs, RepL g T H ds vs → Q (setMany σ t.is vs) H) → tg v σ H Q)
    (hc : RfT g tt c) (he : RfE g te e) {is : List Nat} (his : is = t.is) {nw : Bool} : RfE g (tLc wi tg tt te is) (eLcV nw it t c e) := by
  subst his
  intro T σ H ρ m d m' hm hs hf Q k
  obtain ⟨nx, m1, e1, hf⟩ := bd_some hf
  obtain ⟨ys, mz, e2, hf⟩ := bd_some hf
  have hf := Option.some.inj hf
  refine hi T σ H ρ m nx m1 hm hs e1 _ fun J T0 H0 l0 hm0 ok p hp => ?_
  have hs0 := hs.le l0
  obtain ⟨md, lf⟩ := Made.new hm0 hp
  have start : Le T0 H0 T0 (upd H0 p (.lst [])) := ⟨List.prefix_rfl, fun a u e _ => by rw [upd_ne (ne_of_none e hp)]; exact e, fun a h n => absurd h n, fun a h n => absurd h n, fun a h => h⟩
  refine ⟨fun i j H1 => i + j = 1000001 ∧ ∃ T1 m1 ds rest, Le T0 H0 T1 H1 ∧ Made g T1 H1 m1 p ds ∧ ds.length ≤ i ∧ RepS g (T1.forb p) H1 σ ρ ∧ compLv t c e nx ρ j i m1 = some (rest, mz) ∧ ys = ds ++ rest, ⟨1000001, by omega, T0, m1, [], ys, start, md, Nat.le_refl _, hs0.le lf, e2, rfl⟩, ?_⟩
  rintro i j H1 ⟨hij, T1, m1', ds, rest, l1, md1, hdl, hs1, hf1, hy⟩
  obtain ⟨vs1, hv1, rl1⟩ := md1.at_
  have okT : ItLv g (T1.forb p) H1 J nx := fun T2 H2 l2 mm hmm => ok (⟨T2.μ, T2.ν, T2.sub⟩) H2 (by
    refine ⟨l1.pre.trans l2.pre, fun a u h n => l2.keep a u (l1.keep a u h n) fun z => ?_, fun a ha n => ?_, fun a ha n => ?_, fun a h => l2.up a (List.mem_cons_of_mem _ (l1.up a h))⟩
    · rw [l1.newμ a z n] at h; cases h
    · cases e : H0 a with
      | none => rfl
      | some u =>
        have n1 : a ∉ (T1.forb p).ν := fun z => by
          rcases List.mem_cons.mp z with rfl | z
          · rw [hp] at e; cases e
          · exact l1.out e n z
        have := l2.new a ha n1
        rw [l1.keep a u e (Tk.out n)] at this
        cases this
    · cases e : H0 a with
      | none => rfl
      | some u =>
        have n1 : a ∉ T1.μ := fun z => by rw [l1.newμ a z n] at e; cases e
        have := l2.newμ a ha n1
        rw [l1.keep a u e n] at this
        cases this) mm hmm
  obtain ⟨okG, okS⟩ := okT (T1.forb p) H1 .refl m1' md1.hm i
  cases j with
  | zero => cases hf1
  | succ j =>
    unfold compLv at hf1
    split at hf1
    · cases hf1
    · next hn =>
      left
      cases hf1
      rw [List.append_nil] at hy
      subst hy
      refine ⟨okS hn, ?_⟩
      cases nw with
      | false =>
        cases hf
        obtain ⟨hmd, rd⟩ := md1.done l1
        exact k _ T1 H1 (l0.trans l1) hmd rd
      | true =>
        cases hf
        obtain ⟨l3, hmd, rd⟩ := md1.track l1 hp
        exact k _ _ H1 (l0.trans l3) hmd rd
    · next y0 hy0 =>
      right
      obtain ⟨go, yl⟩ := okG y0 hy0
      refine ⟨go, _, fun _ q => q, fun x H2 y2 => ?_⟩
      obtain ⟨T2, l2, hm2, r2⟩ := yl x H2 y2
      split at hf1
      · next es hes =>
        obtain ⟨b, m3, e3, hf3⟩ := bd_some hf1
        refine hg T2 (wipe σ t.is) H2 y0 x es r2 hes _ fun vs rv => ⟨?_, ?_⟩
        · rw [wipe_many t.is vs _ fun u hu => hu, wipe_wipe t.is fun u hu => hu]
        · have hs2 : RepS g T2 H2 (setMany (wipe σ t.is) t.is vs) (setMany ρ t.is es) := many_wiped (hs1.le l2) rv (Tgt.un_len hes)
          refine hc T2 _ H2 _ m1' b m3 hm2 hs2 e3 _ fun T3 H3 l3 hm3 => ?_
          cases b with
          | false =>
            obtain ⟨T4, l4, md4, e4, e5⟩ := md1.step l1 hp (l2.trans l3) hm3
            exact ⟨j, Nat.lt_succ_self _, by omega, T4, m3, ds, rest, l4, md4, by omega, ⟨hs1.len, fun q d hq => by
              obtain ⟨v, h1, h2⟩ := (hs1.le (l2.trans l3)).at_ q d hq
              exact ⟨v, h1, Rep.wk (T' := T4.forb p) e4 (fun a h => (e5 a).mp h) _ h2⟩⟩, hf3, hy⟩
          | true =>
            obtain ⟨y, m4, e6, hf4⟩ := bd_some hf3
            obtain ⟨ys', m5, e7, hf5⟩ := bd_some hf4
            cases hf5
            refine he T3 _ H3 _ m3 y m4 hm3 (hs2.le l3) e6 _ fun v T4 H4 l4 hm4 r4 => ?_
            obtain ⟨T5, l5, md5, e8, e9⟩ := md1.step l1 hp (l2.trans (l3.trans l4)) hm4
            obtain ⟨vs5, hv5, _⟩ := md5.at_
            have r5 : Rep g (T5.forb p) H4 y v := Rep.wk (T' := T5.forb p) e8 (fun a h => (e9 a).mp h) _ r4
            obtain ⟨md6, l6⟩ := md5.app l5 hp r5 hv5
            have hl5 : vs5.length = ds.length := by
              obtain ⟨w, hw, q⟩ := md5.at_
              rw [hv5] at hw
              cases hw
              exact q.length.symm
            refine ⟨vs5, hv5, ?_, j, Nat.lt_succ_self _, by omega, T5, m4, ds ++ [y], ys', l6, md6, by simp; omega, ⟨hs1.len, fun q d hq => ?_⟩, e7, by rw [hy]; simp⟩
            · rw [hl5, sizeLine_eq]; omega
            · obtain ⟨w, h1, h2⟩ := (hs1.le (l2.trans (l3.trans l4))).at_ q d hq
              exact ⟨w, h1, Rep.upF (List.mem_cons_self ..) _ (Rep.wk (T' := T5.forb p) e8 (fun a h => (e9 a).mp h) _ h2)⟩
      · cases hf1
theorem de_lcV {nw : Bool} {elt tg iter : Expr} {ifs : List Expr} {scope : Scope} {own : List (Str × Nat)} {fi : LF} {t : Tgt} {fc : TF} {fe : EF} (hc : X.calm = true) (hN : X.N.Nodup) (hi : DL X tg iter fi) (ok : BlkOk X.N X.env.scope scope own)
    (hg : ∀ (s : Shared) (H : Hp) (C : Addr) (cl : List (Str × Addr)) (fp : List Addr), DGn (X.blk s H scope (compEnvC scope cl C X.env) fp) tg t) (ht : ∀ (s : Shared) (H : Hp) (C : Addr) (cl : List (Str × Addr)) (fp : List Addr), DTs (X.blk s H scope (compEnvC scope cl C X.env) fp) ifs fc)
    (he : ∀ (s : Shared) (H : Hp) (C : Addr) (cl : List (Str × Addr)) (fp : List Addr), DE (X.blk s H scope (compEnvC scope cl C X.env) fp) elt fe) (hq : own.map (·.2) = t.is := by rfl) (hs : ∀ x, foldedSetIterable iter X.env x = pure x := by intro _; rfl) :
    DE X (.ListComp elt [⟨tg, iter, ifs, 0⟩] scope pos) (eLcV nw fi t fc fe) := by
  obtain ⟨ti, pi, ri⟩ := hi.ex
  refine ⟨_, pe_lc (g := fun v σ H Q => ∀ s H' C cl fp, ∃ t, PG (X.blk s H' scope (compEnvC scope cl C X.env) fp) tg t ∧ t v σ H Q) (tt := fun σ H Q => ∀ s H' C cl fp, ∃ t, PTs (X.blk s H' scope (compEnvC scope cl C X.env) fp) ifs t ∧ t σ H Q)
    (te := fun σ H Q => ∀ s H' C cl fp, ∃ t, PE (X.blk s H' scope (compEnvC scope cl C X.env) fp) elt t ∧ t σ H Q) hc hN pi ok (fun s H C cl fp => ⟨fun pins s1 σ H1 v u Q I r h => ?_⟩) (fun s H C cl fp => ⟨fun pins s1 σ H1 Q I h => ?_⟩) (fun s H C cl fp => ⟨fun pins s1 σ H1 Q I h => ?_⟩) hs, ?_⟩
  · obtain ⟨t, p, q⟩ := h s H C cl fp
    exact p.run pins s1 σ H1 v u Q I r q
  · obtain ⟨t, p, q⟩ := h s H C cl fp
    exact p.run pins s1 σ H1 Q I q
  · obtain ⟨t, p, q⟩ := h s H C cl fp
    exact p.run pins s1 σ H1 Q I q
  · refine rf_lcV ri ?_ ?_ ?_ hq
    · intro T σ H d v ds r hu Q k s H' C cl fp
      obtain ⟨t, p, q⟩ := (hg s H' C cl fp).ex
      exact ⟨t, p, q T σ H d v ds r hu Q k⟩
    · intro T σ H ρ m b m' hm hs hf Q k s H' C cl fp
      obtain ⟨t, p, q⟩ := (ht s H' C cl fp).ex
      exact ⟨t, p, q T σ H ρ m b m' hm hs hf Q k⟩
    · intro T σ H ρ m b m' hm hs hf Q k s H' C cl fp
      obtain ⟨t, p, q⟩ := (he s H' C cl fp).ex
      exact ⟨t, p, q T σ H ρ m b m' hm hs hf Q k⟩
def nxC (xs : List D) : NX := fun _ i => if i ≤ xs.length then some xs[i]? else none
def nxR (n : Nat) : NX := fun m i => (m[n]?).bind fun ob => (lstO ob).map fun ds => ds[i]?
theorem nxC_some {xs : List D} {m : M} {i : Nat} {d : D} (h : nxC xs m i = some (some d)) : xs[i]? = some d := by
  obtain ⟨_, h⟩ := ite_some h
  exact Option.some.inj h
theorem nxC_end {xs : List D} {m : M} {i : Nat} (h : nxC xs m i = some none) : xs.length = i := by
  obtain ⟨h1, h⟩ := ite_some h
  have := List.getElem?_eq_none_iff.mp (Option.some.inj h)
  omega
theorem itlv_of {J : It} {xs : List D} (h : ItOk g T H J xs) : ItLv g T H J (nxC xs) := fun T1 H1 l m1 hm1 i => ⟨fun d hd => (h T1 H1 l m1 hm1 i).1 d (nxC_some hd), fun hd => (h T1 H1 l m1 hm1 i).2 (nxC_end hd)⟩
theorem nxR_some {n i : Nat} {m : M} {r : Option D} (h : nxR n m i = some r) : ∃ ds, m[n]? = some (.lst ds) ∧ r = ds[i]? := by
  obtain ⟨ob, h1, h2⟩ := Option.bind_eq_some_iff.mp h
  obtain ⟨ds, h3, rfl⟩ := Option.map_eq_some_iff.mp h2
  cases ob with
  | lst ds' => cases h3; exact ⟨ds, h1, rfl⟩
  | _ => cases h3
theorem at_lst {n : Nat} {a : Addr} {ds : List D} (hm : RepH g T H m) (ea : T.μ[n]? = some a) (h : m[n]? = some (.lst ds)) : ∃ vs, H a = some (.lst vs) ∧ RepL g T H ds vs := by
  cases hm.at_ _ _ _ ea h with
  | lst h1 r => exact ⟨_, h1, r⟩
theorem itlv_ref {n : Nat} {a : Addr} (ea : T.μ[n]? = some a) : ItLv g T H (Itl g.K a) (nxR n) := by
  intro T1 H1 l m1 hm1 i
  refine ⟨fun d hd => ?_, fun hd => ?_⟩
  · obtain ⟨ds, h1, h2⟩ := nxR_some hd
    obtain ⟨vs, hv, r⟩ := at_lst hm1 (l.get ea) h1
    obtain ⟨v, ev, q⟩ := r.get h2.symm
    refine ⟨⟨vs, v, SqL.of hv, ev⟩, fun x H2 ⟨eq, hy⟩ => ?_⟩
    subst eq
    have := hy vs (SqL.of hv)
    rw [ev] at this
    cases this
    exact ⟨T1, .refl, hm1, q⟩
  · obtain ⟨ds, h1, h2⟩ := nxR_some hd
    obtain ⟨vs, hv, r⟩ := at_lst hm1 (l.get ea) h1
    exact ⟨vs, SqL.of hv, r.none (List.getElem?_eq_none_iff.mp h2.symm)⟩
def lIt (a : EF) : LF := fun ρ m => bd (a ρ m) fun x m1 => match x with
  | .ref n => ((m1[n]?).bind lstO).map fun _ => (nxR n, m1)
  | x => (items x).map fun xs => (nxC xs, m1)
theorem dl_any {tg e : Expr} {f : EF} (h : DE X e f) : DL X tg e (lIt f) := by
  obtain ⟨t, p, r⟩ := h.ex
  refine ⟨_, pi_any p, fun T σ H ρ m nx m' hm hs hf R k => ?_⟩
  obtain ⟨x, m1, e1, hf⟩ := bd_some hf
  refine r T σ H ρ m x _ hm hs e1 _ fun v T1 H1 l1 hm1 r1 => ?_
  cases r1 with
  | tup f q => cases hf; exact .inr (.inl ⟨_, rfl, ⟨_, f.sq⟩, k _ T1 H1 l1 hm1 (itlv_of (itok_T fun T2 H2 l => ⟨_, (f.le l).sq, q.le l⟩))⟩)
  | lst f q => cases hf; exact .inl ⟨_, rfl, ⟨_, f.sq⟩, k _ T1 H1 l1 hm1 (itlv_of (itok_L fun T2 H2 l => ⟨_, (f.le l).sq, q.le l⟩))⟩
  | scr f q => cases hf; exact .inl ⟨_, rfl, ⟨_, f.sq⟩, k _ T1 H1 l1 hm1 (itlv_of (itok_L fun T2 H2 l => ⟨_, (f.le l).sq, q.le l⟩))⟩
  | str x => cases hf; exact .inr (.inr ⟨_, rfl, k _ T1 H1 l1 hm1 (itlv_of itok_S)⟩)
  | @ref n a ea =>
    obtain ⟨ds, h1, h2⟩ := Option.map_eq_some_iff.mp hf
    cases h2
    obtain ⟨ob, h3, h4⟩ := Option.bind_eq_some_iff.mp h1
    cases ob with
    | lst ds' =>
      obtain ⟨vs, hv, _⟩ := at_lst hm1 ea h3
      exact .inl ⟨_, rfl, ⟨_, SqL.of hv⟩, k _ T1 H1 l1 hm1 (itlv_ref ea)⟩
    | _ => cases h4
  | _ => cases hf
end
end L4
namespace L4
open PySem PySem.Spec PyProof.Rows L2
section
variable {P : Program} {w : World} {K : PySem.W.Frag} {mg : Str → Option Value} {base : Heap} {k : Nat} {x q c : Str} {ps N : List Str} {st : Stmt} {b : SF}
theorem fnG_ofD {f : Addr} {fd : FuncData} {sp : Sp} {dvs : List V} (F : FunD K x q (defArgs st) (defBody st) (defScope st) dvs [] f fd) (S : FnScope N ps (defScope st)) (len : ∀ vs H Q E, sp vs H Q E → vs.length = ps.length)
    (hbody : ∀ (cdv : Value) (A : Around) (outer : List Env) (s : Shared) (H : Hp) (vs : List V) (Q : VK) (E : XK), A.guards = some [] → Room k (A.deeper (envOfC q (defScope st) s.heap.objs.size f cdv)) → sp vs H Q E →
      ∃ t, PSs (cxOf CX0 P w K mg base N q (defScope st) f cdv A outer s H E).nox (defBody st) t ∧ t { nx := fun _ H' => Q .non H', rt := Q } (start N vs) H) : L3.FnG P w K mg base (k + 1) f fd ps sp := by
  obtain ⟨oc, od, dV, kV, doc, pm, an, cdv, ct, osl, rfl, lk, hcd, _, _⟩ := F.ex
  refine ⟨len, ?_⟩
  intro A outer s H args us vs Q E hg hr e0 hb r hsp
  have keep : ∀ b o, base.get? b = some o → s.heap.get? b = some o := fun b o e => (e0.bs b o e).1
  have KX : K.In s.heap := e0.mod.kin.keeps keep
  have par : ∀ y ∈ ps.zip us, (defScope st).names.lookup y.1 = some .local ∨ ((defScope st).names.lookup y.1 = some .cell ∧ ((cellsFrom (s.heap.objs.size + 1) (defScope st).names []).lookup y.1).isSome = true) := by
    rintro ⟨n, v⟩ hy
    cases S.par n (List.of_mem_zip hy).1 with
    | inl z => exact .inl z
    | inr z => exact .inr ⟨z, PySem.W.cellsFrom_some _ _ _ (.inl z)⟩
  refine codeAny_call_function hr.depth (KX _ _ lk) rfl S.co S.gen rfl (PySem.W.codeRec_of KX hcd) ?_
  refine hb _ _ _ _ ?_
  refine wpAny_newFunctionEnv_cells S.kind par ?_
  rintro env rfl s1 x
  refine ⟨(e0.mod.nolimit.keeps keep).keeps x.toInCall.keep, ?_⟩
  refine codeAny_func ?_
  obtain ⟨t, ht, hq⟩ := hbody cdv A outer s H vs Q E hg (hr.deeper _) hsp
  have I : Inv (cxOf CX0 P w K mg base N q (defScope st) f cdv A outer s H E) [] (start N vs) H s1 := inv_start S hr.hd e0 (len _ _ _ _ hsp) r x
  refine wpAny_mono (ht.nox.run [] s1 (start N vs) H _ I hq) ?_ (fun _ _ z => z)
  intro fl s' hs
  cases fl with
  | ret u =>
    obtain ⟨v, σ', H', J, rv, z⟩ := hs
    exact ⟨v, H', J.os, J.bare, J.base, J.hok, rv, z⟩
  | next =>
    obtain ⟨σ', H', J, z⟩ := hs
    exact ⟨.non, H', J.os, J.bare, J.base, J.hok, rfl, z⟩
  | brk => obtain ⟨σ', H', J, z⟩ := hs; exact False.elim z
  | cont => obtain ⟨σ', H', J, z⟩ := hs; exact False.elim z
theorem fnG_allD {f : Addr} {fd : FuncData} {sp : Sp} {dvs : List V} (F : FunD K x q (defArgs st) (defBody st) (defScope st) dvs [] f fd) (S : FnScope N ps (defScope st)) (len : ∀ vs H Q E, sp vs H Q E → vs.length = ps.length)
    (hrun : ∀ {t : TS}, RfS ⟨P, w, K⟩ t b → ∀ {vs : List V} {H : Hp} {Q : VK} {E : XK}, sp vs H Q E → t { nx := fun _ H' => Q .non H', rt := Q } (L2.start N vs) H)
    (hbody : ∀ (cdv : Value) (A : Around) (outer : List Env) (s : Shared) (H : Hp) (E : XK), Gd k (cxOf CX0 P w K mg base N q (defScope st) f cdv A outer s H E).nox →
      DSs (cxOf CX0 P w K mg base N q (defScope st) f cdv A outer s H E).nox (defBody st) b) : FnG P w K mg base CX0 (k + 1) f fd ps sp := by
  refine .old (fnG_ofD F S len fun cdv A outer s H vs Q E hg hr hsp => ?_)
  obtain ⟨t, p, r⟩ := (hbody cdv A outer s H E ⟨hg, hr⟩).ex
  exact ⟨t, p, hrun r hsp⟩
/-- the empty tuple of the top -/
theorem tup0B_ok {a : Addr} (h : tup0B K a = true) (H : Hp) : SqT K H a [] := by
  unfold tup0B at h
  split at h
  · next c d its n sl hq =>
    obtain ⟨h1, h2⟩ := and2 h
    refine .inr ⟨_, its, n, hq, congrArg Value.type (of_decide_eq_true h1), rfl, ?_, ?_⟩
    · rw [← Array.length_toList, List.isEmpty_iff.mp h2]; exact Nat.zero_le _
    · rw [List.isEmpty_iff.mp h2]; exact .nil
  · cases h
structure KiD (K : PySem.W.Frag) (mg : Str → Option Value) (x : Str) (C : Addr) (q : Str) (st : Stmt) : Prop where
  cl : Cls K C
  mgC : mg x = some (.ref C)
  ex : ∃ f fd a, FunD K "__init__" q (defArgs st) (defBody st) (defScope st) [.ref a] [] f fd ∧ Mk K C f ∧ ∀ H, SqT K H a []
theorem kid_of {h : Heap} {ex : PySem.W.Frag → Bool} {fn : List He5.DefA} (X : K.In h) (G : h.Ns mainGlobals mg) (f : (L3.Fx.fa (.glo x)).ok K = true) (f1 : (L3.Fx.fa (.cls x)).ok K = true) (f2 : (L3.Fx.fa (.mkr x)).ok K = true) (f3 : tup0B K (He.dflAt (x, some "__init__") 0 K) = true) (s : L3.SaysB ex fn K) (i : Nat) (e : fn[i]? = some (mdefD x "__init__" q st) := by rfl) : KiD K mg x (He.ga K x) q st := by
  obtain ⟨fd, F⟩ := s.def_ i e
  exact ⟨He.cls_ok f1, He.glo_ok X G f, He.ma K (He.ga K x) "__init__", fd, He.dflAt (x, some "__init__") 0 K, F, He.mkr_ok f2, fun H => tup0B_ok f3 H⟩
structure MNd (P : Program) (w : World) (K : PySem.W.Frag) (mg : Str → Option Value) (base : Heap) (k : Nat) (c : Str) (n : Nat) (F : List D → M → Option (D × M)) : Prop where
  fn : MNw P w K mg base k c n F
  df : ∃ f fd ps a ds, FnG P w K mg base CX0 k f fd ps (spM ⟨P, w, K⟩ n F) ∧ Mk K (He.ga K c) f ∧ Vals [.ref a] ds ∧ Binds K fd ps ds ∧ ∀ H, SqT K H a []
abbrev BindD (x q : Str) (st : Stmt) (ps : List Str) (n j : Nat) : Prop := ∀ (T : Addr) (kV doc pm : Value) (an : Option Addr) (cdv ct : Value) (us its : List Value), us.length = n → its.length = 1 →
      ∃ k, bindArgs (PySem.W.fnOf x q (defArgs st) (defBody st) (defScope st) (.ref T) kV doc pm an cdv ct) ⟨us, []⟩ = seqItems? (.ref T) >>= k ∧ k (some its.toArray) = pure (ps.zip (us ++ its.drop j))
theorem mnd_ki (D : KiD K mg c (He.ga K c) q st) (S : FnScope N ps (defScope st)) (h1 : 1 ≤ ps.length) (hb : BindD "__init__" q st ps ps.length 1) (hb2 : BindD "__init__" q st ps (ps.length - 1) 0)
    (hbody : ∀ (f : Addr) (cdv : Value) (A : Around) (outer : List Env) (s : Shared) (H : Hp) (E : XK), Gd k (cxOf CX0 P w K mg base N q (defScope st) f cdv A outer s H E).nox →
      DSs (cxOf CX0 P w K mg base N q (defScope st) f cdv A outer s H E).nox (defBody st) b) : MNd P w K mg base (k + 1) c ps.length (runM ps.length N.length b) := by
  obtain ⟨f, fd, a, F, g, sq⟩ := D.ex
  have G : FnG P w K mg base CX0 (k + 1) f fd ps (spM ⟨P, w, K⟩ ps.length (runM ps.length N.length b)) := fnG_allD F S (fun vs H Q E h => h.1) (fun r => spM_run r) (hbody f)
  obtain ⟨ds, r, B⟩ := F.binds1 (ps := ps) ps.length 1 (by intro z; cases z) rfl hb
  cases r
  obtain ⟨es, r2, B2⟩ := F.binds1 (ps := ps) (ps.length - 1) 0 (by intro z; cases z) (Nat.sub_add_cancel h1) hb2
  exact ⟨⟨fun ds m d h => runM_len h, D.mgC, f, fd, ps, G, g, B⟩, f, fd, ps, a, es, G, g, r2, B2, sq⟩
end
end L4
namespace L4
open PySem PySem.Spec PyProof.Rows PySem.W L2
section
variable {X : Cx} {g : G} {T T' : Tk} {H : Hp} {m : M} {Q : VK} {pos p apos : Pos} {e o : Expr} {es : List Expr} {k n : Nat} {x c nm : Str}
inductive Tab (X : Cx) (k : Nat) : List (Str × (List D → Option D)) → Prop
  | nil : Tab X k []
  | cons {x n F tb} : PFn X.prog X.w X.K X.mg X.base k x n F → X.mg x = some (.ref (He.ga X.K x)) → Tab X k tb → Tab X k ((x, F) :: tb)
theorem Tab.get {k : Nat} {tb : List (Str × (List D → Option D))} {F : List D → Option D} (h : Tab X k tb) (e : tb.lookup x = some F) : ∃ n, PFn X.prog X.w X.K X.mg X.base k x n F ∧ X.mg x = some (.ref (He.ga X.K x)) := by
  induction h with
  | nil => cases e
  | @cons y n G tb p q t ih =>
    rw [List.lookup_cons] at e
    split at e
    · next hb =>
      cases e
      have := eq_of_beq hb
      subst this
      exact ⟨n, p, q⟩
    · exact ih e
end
end L4
namespace L4
open PySem PySem.Spec PyProof.Rows L2
abbrev NQ := List (NestedKey × Addr)
/-- the entries behind some items -/
inductive Ent (R : Value → Prop) : NQ → List (NestedKey × Addr × Value) → Prop
  | nil : Ent R [] []
  | snoc {l xs q u} : Ent R l xs → R u → Ent R (l ++ [q]) (storedH xs q.1 q.2 u)
theorem Ent.len {R : Value → Prop} {l : NQ} {xs : List (NestedKey × Addr × Value)} (h : Ent R l xs) : xs.length ≤ l.length := by
  induction h with
  | nil => exact Nat.le_refl _
  | @snoc l xs q u _ _ ih => have := storedH_length xs q.1 q.2 u; simp; omega
end L4
namespace L4
open PySem PySem.Spec PyProof.Rows L2
section
variable {X : Cx} {g : G} {T T' : Tk} {H H' : Hp} {m : M} {Q : VK} {pos p apos cpos tpos : Pos} {e o : Expr} {es : List Expr} {k n : Nat} {x c nm : Str}
def Dl : HO → Prop
  | .dK _ => True
  | .ext _ => True
  | _ => False
structure Lk (H H' : Hp) (d : Addr) (u : HO) : Prop where
  off : ∀ b, b ≠ d → H' b = H b
  dl : Dl u
  a : Rd H d u
  b : Rd H' d u
theorem Lk.ne {d b : Addr} {u v : HO} (l : Lk H H' d u) (h : H b = some v) (hv : ¬ Dl v) (hf : ∀ ob w, v = .frz ob w → ¬ Dl w) : b ≠ d := by
  rintro rfl
  rcases l.a with z | ⟨ob, z⟩
  · rw [h] at z; cases z; exact hv l.dl
  · rw [h] at z; cases z; exact hf _ _ rfl l.dl
theorem Lk.rd {d b : Addr} {u v : HO} (l : Lk H H' d u) (h : Rd H b v) (hv : Dl v) : Rd H' b v := by
  by_cases e : b = d
  · subst e
    have eu : u = v := by
      rcases h with h | ⟨ob, h⟩ <;> rcases l.a with z | ⟨oc, z⟩ <;> rw [h] at z <;> cases z
      · rfl
      · exact absurd hv (fun z => z)
      · exact absurd l.dl (fun z => z)
      · rfl
    rw [← eu]; exact l.b
  · rcases h with h | ⟨ob, h⟩
    · exact .inl ((l.off b e).trans h)
    · exact .inr ⟨ob, (l.off b e).trans h⟩
theorem Lk.st {d b : Addr} {u v : HO} (l : Lk H H' d u) (h : H b = some v) (hv : ¬ Dl v) (hf : ∀ ob w, v = .frz ob w → ¬ Dl w) : H' b = some v := (l.off b (l.ne h hv hf)).trans h
/-- a dict is let go again -/
structure Let (H : Hp) (T : Tk) (d : Addr) (ob : Obj) (u : HO) : Prop where
  h : H d = some u
  dl : Dl u
  out : d ∉ T.ν
section
variable {d : Addr} {ob : Obj} {u : HO} {T1 : Tk} {H1 : Hp}
theorem Let.at_ (l : Let H T d ob u) (q : Le T (upd H d (.frz ob u)) T1 H1) : H1 d = some (.frz ob u) := q.keep d _ upd_same (Tk.out l.out)
theorem Let.le (l : Let H T d ob u) (q : Le T (upd H d (.frz ob u)) T1 H1) : Le T H T1 (upd H1 d u) := by
  have gone : ∀ a, upd H d (.frz ob u) a = none → H a = none := fun a z => by
    by_cases e : a = d
    · subst e; rw [upd_same] at z; cases z
    · rw [upd_ne e] at z; exact z
  refine ⟨q.pre, fun a v h n => ?_, fun a h n => gone a (q.new a h n), fun a h n => gone a (q.newμ a h n), q.up⟩
  by_cases e : a = d
  · subst e
    rw [upd_same]
    exact l.h.symm.trans h
  · rw [upd_ne e]
    exact q.keep a v (by rw [upd_ne e]; exact h) n
end
end
end L4
namespace L4
open PySem PySem.Spec PyProof.Rows L2
section
variable {X : Cx} {g : G} {T T' : Tk} {H H' : Hp} {m : M} {Q : VK} {pos p apos cpos tpos : Pos} {e o : Expr} {es : List Expr} {k n : Nat} {x c nm : Str}
/-- what is not lent, but held back -/
def Held (T : Tk) (H H' : Hp) (ν : List Addr) : Prop := (∀ a ∈ ν, a ∈ T.ν) ∧ ∀ a ∈ T.ν, a ∉ ν → ∃ u, H a = some u ∧ H' a = some u ∧ Dl u
theorem Held.out {ν : List Addr} (h : Held T H H' ν) {a : Addr} {v : HO} (n : a ∉ ν) (e : H' a = some v) (hv : ¬ Dl v) : a ∉ T.ν := fun z => by
  obtain ⟨u, _, h2, h3⟩ := h.2 a z n
  rw [e] at h2
  cases h2
  exact hv h3
end
end L4
namespace L4
open PySem PySem.Spec PyProof.Rows L2
section
variable {X : Cx}
def strT (m : M) (xs : List D) : Option D := match xs with
  | [.str z] => some (.str z)
  | xs => strD m xs
theorem call_strT' : CallD X (.type "str") strT := ⟨_, orC call_str_int SkE.call_str_str, fun T H m xs vs d hm r hf Q k => by
  unfold strT at hf
  split at hf
  · cases hf
    obtain ⟨v, rfl, q⟩ := r.one
    cases q
    exact .inr ⟨_, rfl, k.now hm (.str _)⟩
  · unfold strD at hf
    split at hf
    · obtain ⟨hz, hf⟩ := ite_some hf
      cases hf
      obtain ⟨v, rfl, q⟩ := r.one
      cases q
      exact .inl ⟨_, rfl, hz, k.now hm (.str _)⟩
    · cases hf⟩
end
end L4
namespace L4
open PySem PySem.Spec PyProof.Rows L2
section
variable {X : Cx} {g : G} {T T' : Tk} {H H' : Hp} {m : M} {Q : VK} {pos p p2 pos2 apos cpos : Pos} {e o a b : Expr} {n : Nat}
def rgOk (i j : Int) : Prop := 0 ≤ i ∧ i ≤ 16777216 ∧ 0 ≤ j ∧ j ≤ 16777216
instance (i j : Int) : Decidable (rgOk i j) := by unfold rgOk; infer_instance
theorem rgOk.ok {i j : Int} (h : rgOk i j) : RgOk i j := .of_le h.1 h.2.2.2 h.2.1 h.2.2.1
def rgA (xs : List D) : Option (List D) := match xs with
  | [.int j] => if rgOk 0 j then some (rngD 0 (j - 0).toNat) else none
  | [.int i, .int j] => if rgOk i j then some (rngD i (j - i).toNat) else none
  | _ => none
def eTupR (a : AF) : EF := fun ρ m => bd (a ρ m) fun xs m1 => (rgA xs).map fun ds => (.tup ds, m1)
def eLisR (nw : Bool) (a : AF) : EF := fun ρ m => bd (a ρ m) fun xs m1 => (rgA xs).map fun ds => bif nw then (.ref m1.length, m1 ++ [.lst ds]) else (.lst ds, m1)
def tDUpd (td ty : TE) : TE := fun σ H Q => td σ H fun x H1 => ∃ a, x = .ref a ∧ IsD H1 a ∧ ty σ H1 fun y H2 => ∃ b kvs more, y = .ref b ∧ H2 a = some (.dK kvs) ∧ Rd H2 b (.dK more) ∧ a ≠ b ∧ kvs.length + more.length ≤ sizeLine ∧ Q .non (upd H2 a (.dK (mergeK kvs more)))
theorem d_update {pins : List (Addr × Obj)} {σ : L2.St} {s : Shared} {A : Around} {E : Value → Shared → Prop} {a b : Addr} {kvs more : List (Key × V)} {Q : Value → Shared → Prop} (I : Inv X pins σ H s) (e : H a = some (.dK kvs)) (e2 : Rd H b (.dK more)) (hne : a ≠ b) (hz : kvs.length + more.length ≤ sizeLine)
    (h : ∀ s', Inv X pins σ (upd H a (.dK (mergeK kvs more))) s' → Q .none s') : wpAny (model X.prog X.w) A (call (.builtin "dict.update") [.ref a, .ref b]) Q E s := by
  obtain ⟨z, hd, vs, rel, dd⟩ := dk_of I.hok e
  obtain ⟨z2, hd2, ws, rel2, dd2⟩ := dk_rd I.hok e2
  refine call_meetsIn PySem.F.slot_dict_update dd.typeIs PySem.F.entry_dict_update (PySem.F.args_dict_update_2 _ _) (meets_dict_update (mixKind X.prog X.w) a b hne hd2) ⟨vs, ws, dd, dd2, by rw [← rel.length, ← rel2.length]; exact hz, fun h' dd' _ hs => h _ ?_⟩
  have he : ∃ q, h'.get? a = some q := let ⟨q, _, _, hq, _⟩ := dd'; ⟨q, hq⟩
  exact d_write (t' := s.toks) I (by rw [e]; exact True.intro) hs he (dk_new (Nat.le_trans (length_mergeK more kvs) hz) hd (KV.merge rel2 rel) dd')
theorem pe_dupd {td ty : TE} (ho : PE X o td) (he : PE X e ty) (m : M1 X o "update" apos e cpos) : PE X (.Call (.Attribute o "update" apos) [e] [] cpos) (tDUpd td ty) := by
  refine ⟨fun pins s σ H Q I h => ?_⟩
  refine wpAny_Call_method m.base m.few m.line PySem.F.plainAttrs_dict PySem.F.slot_dict_update PySem.F.type_dict_update (thn (ho.run pins s σ H _ I h) fun u s1 ⟨x, H1, I1, rx, a, ex, d, q1⟩ => ?_)
  subst ex
  obtain rfl : u = Value.ref a := rx
  obtain ⟨t1, t2, _⟩ := isD_at I1 d
  refine ⟨t1, t2, ?_⟩
  rw [m.trees]
  refine Calls.callWith_builtin rfl (Calls.evalArgs_plain (Calls.spliced_cons (thn (he.run pins s1 σ H1 _ I1 q1) fun iv s2 ⟨y, H2, I2, ry, b, kvs, more, ey, h1, h2, h3, h4, q2⟩ => Calls.spliced_nil ?_)))
  subst ey
  obtain rfl : iv = Value.ref b := ry
  exact d_update I2 h1 h2 h3 h4 fun s3 I3 => ⟨.non, _, I3, rfl, q2⟩
def flatL (ks : List D) : Bool := ks.all isFlat
theorem flat_dicF {a : Addr} {ks vs : List D} (h : RepO g T H a (.dic ks vs)) (hf : flatL ks = true) : ∃ kvs : List (Key × V), H a = some (.dK kvs) ∧ RepL g T H ks (kvs.map fun p => kV p.1) ∧ RepL g T H vs (kvs.map Prod.snd) := by
  cases h with
  | dicF h r q => exact ⟨_, h, r, q⟩
  | @dicN kvs _ _ h k r q =>
    exfalso
    obtain ⟨k1, k2⟩ := k
    cases ks with
    | nil => cases kvs with
      | nil => exact k2 rfl
      | cons _ _ => cases k1
    | cons x ks =>
      cases kvs with
      | nil => cases k1
      | cons p kvs =>
        have h1 : nkT x = some p.1 := (List.cons.inj k1).1
        have h2 : isFlat x = true := (and2 (show (isFlat x && ks.all isFlat) = true from hf)).1
        rw [nk_notflat h1] at h2
        cases h2
theorem flat_dicV {v : V} {ks vs : List D} (h : Rep g T H (.dic ks vs) v) (hf : flatL ks = true) : ∃ (b : Addr) (kvs : List (Key × V)), v = .ref b ∧ b ∉ T.ν ∧ Rd H b (.dK kvs) ∧ RepL g T H ks (kvs.map fun p => kV p.1) ∧ RepL g T H vs (kvs.map Prod.snd) := by
  cases h with
  | dicF n h r q => exact ⟨_, _, rfl, n, h, r, q⟩
  | @dicN a kvs _ _ n h k r q =>
    exfalso
    obtain ⟨k1, k2⟩ := k
    cases ks with
    | nil => cases kvs with
      | nil => exact k2 rfl
      | cons _ _ => cases k1
    | cons x ks =>
      cases kvs with
      | nil => cases k1
      | cons p kvs =>
        have h1 : nkT x = some p.1 := (List.cons.inj k1).1
        have h2 : isFlat x = true := (and2 (show (isFlat x && ks.all isFlat) = true from hf)).1
        rw [nk_notflat h1] at h2
        cases h2
def eUpd (a b : EF) : EF := fun ρ m => bd (a ρ m) fun x m1 => match x with
  | .ref n => match m1[n]? with
    | some (.dic ks0 _) => if flatL ks0 then bd (b ρ m1) fun y m2 => match m2[n]?, y with
        | some (.dic ks vs), .dic ks2 vs2 => if flatL ks && flatL ks2 && decide (ks.length + ks2.length ≤ sizeLine) && decide (ks2.length = vs2.length) then some (.non, m2.set n (.dic (mergeD (ks2.zip vs2) (ks, vs)).1 (mergeD (ks2.zip vs2) (ks, vs)).2)) else none
        | _, _ => none
      else none
    | _ => none
  | _ => none
theorem keys_flat {ks : List D} {kvs : List (Key × V)} (hf : flatL ks = true) (r : RepL g T H ks (kvs.map fun p => kV p.1)) : ks = kvs.map fun p => keyD p.1 := by
  induction ks generalizing kvs with
  | nil => cases kvs with
    | nil => rfl
    | cons _ _ => cases r
  | cons x ks ih => cases kvs with
    | nil => cases r
    | cons p kvs =>
      obtain ⟨h1, h2⟩ := and2 (show (isFlat x && ks.all isFlat) = true from hf)
      cases r with
      | cons r1 r2 =>
        rw [List.map_cons, ← ih h2 r2]
        obtain ⟨κ, rfl⟩ := flat_key h1
        congr 1
        obtain ⟨k0, v0⟩ := p
        cases κ <;> cases k0 <;> cases r1 <;> rfl
theorem de_upd {fo fe : EF} (ho : DE X o fo) (he : DE X e fe) (hbase : attributeBase o "update" X.env (eval o X.env) = eval o X.env := by rfl) (hline : (apos.endLine == cpos.line) = true := by rfl)
    (hfew : ((backTo cpos (starEach [e] X.env)).all (fun x => !x.1) && (backToKw cpos (keywordEach [] X.env)).all (fun x => x.1.isSome) && decide (([e] : List Expr).length + ([] : List Keyword).length + (if ([] : List Keyword).isEmpty then 0 else 1) < 30)) = true := by rfl)
    (ht : backTo cpos (starEach [e] X.env) = [(false, eval e X.env)] := by rfl) : DE X (.Call (.Attribute o "update" apos) [e] [] cpos) (eUpd fo fe) := by
  obtain ⟨to, po, ro⟩ := ho.ex; obtain ⟨ti, pi, ri⟩ := he.ex
  refine ⟨_, pe_dupd po pi ⟨hbase, hfew, hline, ht⟩, fun T σ H ρ m d m' hm hs hf Q k => ?_⟩
  obtain ⟨x, m1, e1, hf⟩ := bd_some hf
  refine ro T σ H ρ m x m1 hm hs e1 _ fun u T1 H1 l1 hm1 r1 => ?_
  cases r1 with
  | @ref n a ea =>
    have hf : (match m1[n]? with
      | some (.dic ks0 _) => if flatL ks0 then bd (fe ρ m1) fun y m2 => match m2[n]?, y with
          | some (.dic ks vs), .dic ks2 vs2 => if flatL ks && flatL ks2 && decide (ks.length + ks2.length ≤ sizeLine) && decide (ks2.length = vs2.length) then some (D.non, m2.set n (.dic (mergeD (ks2.zip vs2) (ks, vs)).1 (mergeD (ks2.zip vs2) (ks, vs)).2)) else none
          | _, _ => none
        else none
      | _ => none) = some (d, m') := hf
    split at hf
    · next ks0 vs0 h0 =>
      obtain ⟨hf0, hf⟩ := ite_some hf
      obtain ⟨kvs0, g1, _, _⟩ := flat_dicF (hm1.at_ _ _ _ ea h0) hf0
      refine ⟨a, rfl, .inl ⟨kvs0, .inl g1⟩, ?_⟩
      obtain ⟨y, m2, e2, hf⟩ := bd_some hf
      refine ri T1 σ H1 ρ m1 y m2 hm1 (hs.le l1) e2 _ fun w T2 H2 l2 hm2 r2 => ?_
      split at hf
      · next ks vs ks2 vs2 h2 =>
        obtain ⟨hh, hf⟩ := ite_some hf
        simp only [Bool.and_eq_true, decide_eq_true_eq] at hh
        obtain ⟨⟨⟨c1, c2⟩, c3⟩, c4⟩ := hh
        cases hf
        have ea2 := l2.get ea
        obtain ⟨kvs, g2, g3, g4⟩ := flat_dicF (hm2.at_ _ _ _ ea2 h2) c1
        obtain ⟨b, more, rfl, g5, g6, g7, g8⟩ := flat_dicV r2 c2
        have z1 := g3.length
        have z2 := g7.length
        simp only [List.length_map] at z1 z2
        have hne : a ≠ b := by rintro rfl; exact g5 (T2.sub _ (List.mem_of_getElem? ea2))
        refine ⟨b, kvs, more, rfl, g2, g6, hne, by omega, ?_⟩
        have q1 : (ks2.zip vs2).map Prod.fst = ks2 := List.map_fst_zip (by omega)
        have q2 : (ks2.zip vs2).map Prod.snd = vs2 := List.map_snd_zip (by omega)
        have hk := keys_flat c2 g7
        obtain ⟨l3, hm3⟩ := hm2.put (u := .dK (mergeK kvs more)) (o := .dic (mergeD (ks2.zip vs2) (ks, vs)).1 (mergeD (ks2.zip vs2) (ks, vs)).2) ea2 fun l => by
          obtain ⟨y1, y2⟩ := merge_rep (qs := ks2.zip vs2) (kvs := more) (acc := kvs) (ks := ks) (vs := vs) (by rw [q1]; exact hk) (by rw [q2]; exact g8.le l) (g3.le l) (g4.le l)
          exact .dicF upd_same y1 y2
        exact k _ T2 _ (l1.trans (l2.trans l3)) hm3 .non
      · cases hf
    · cases hf
  | _ => cases hf
end
end L4
namespace L4
open PySem
def Wr {α : Type} (o : Option (α × M)) (Q : α → M → Prop) : Prop := ∃ d m, o = some (d, m) ∧ Q d m
def WE (f : EF) (ρ : Ss) (m : M) (Q : D → M → Prop) : Prop := Wr (f ρ m) Q
def WT (f : TF) (ρ : Ss) (m : M) (Q : Bool → M → Prop) : Prop := Wr (f ρ m) Q
def WA (f : AF) (ρ : Ss) (m : M) (Q : List D → M → Prop) : Prop := Wr (f ρ m) Q
def WO (f : OF) (ρ : Ss) (m : M) (Q : Option Int → M → Prop) : Prop := Wr (f ρ m) Q
def WG (f : GF) (d : D) (ρ : Ss) (m : M) (Q : Ss → M → Prop) : Prop := Wr (f d ρ m) Q
def WS (f : SF) (ρ : Ss) (m : M) (Q : Fl → M → Prop) : Prop := Wr (f ρ m) Q
/-- a value that is known -/
def Kn {α : Type} (o : Option α) (Q : α → Prop) : Prop := ∃ d, o = some d ∧ Q d
def sqk (b : SF) (Q : Fl → M → Prop) (r : Fl) (m : M) : Prop := match r with
  | .nx ρ => WS b ρ m Q
  | r => Q r m
section
variable {ρ : Ss} {m : M}
theorem Kn.mk {α : Type} {o : Option α} {Q : α → Prop} {d : α} (h : o = some d) (q : Q d) : Kn o Q := ⟨d, h, q⟩
theorem Wr.mk {α : Type} {o : Option (α × M)} {Q : α → M → Prop} {d : α} {m' : M} (h : o = some (d, m')) (q : Q d m') : Wr o Q := ⟨d, m', h, q⟩
theorem Wr.bd {α β : Type} {o : Option (α × M)} {k : α → M → Option (β × M)} {Q : β → M → Prop} (h : Wr o fun a m1 => Wr (k a m1) Q) : Wr (bd o k) Q := by
  obtain ⟨a, m1, e, b, m2, e2, q⟩ := h
  exact ⟨b, m2, by rw [e]; exact e2, q⟩
theorem Wr.pu {α : Type} {o : Option α} {Q : α → M → Prop} (h : Kn o fun d => Q d m) : Wr (pu o m) Q := by
  obtain ⟨d, rfl, q⟩ := h
  exact ⟨d, m, rfl, q⟩
theorem WE.var {i : Nat} {Q : D → M → Prop} {d : D} (h : ρ.getD i none = some d) (q : Q d m) : WE (eVar i) ρ m Q := ⟨d, m, by unfold eVar; rw [h]; rfl, q⟩
theorem WE.c {d : D} {Q : D → M → Prop} (q : Q d m) : WE (eC d) ρ m Q := ⟨d, m, rfl, q⟩
theorem WE.op {f : M → D → D → Option D} {a b : EF} {Q : D → M → Prop} (h : WE a ρ m fun x m1 => WE b ρ m1 fun y m2 => Kn (f m2 x y) fun d => Q d m2) : WE (eOp f a b) ρ m Q :=
  Wr.bd (by obtain ⟨x, m1, e, h⟩ := h; refine ⟨x, m1, e, Wr.bd ?_⟩; obtain ⟨y, m2, e2, h⟩ := h; exact ⟨y, m2, e2, Wr.pu h⟩)
theorem WE.un {f : M → D → Option D} {a : EF} {Q : D → M → Prop} (h : WE a ρ m fun x m1 => Kn (f m1 x) fun d => Q d m1) : WE (eUn f a) ρ m Q :=
  Wr.bd (by obtain ⟨x, m1, e, h⟩ := h; exact ⟨x, m1, e, Wr.pu h⟩)
theorem WE.call {f : M → List D → Option D} {a : AF} {Q : D → M → Prop} (h : WA a ρ m fun xs m1 => Kn (f m1 xs) fun d => Q d m1) : WE (eCall f a) ρ m Q :=
  Wr.bd (by obtain ⟨x, m1, e, h⟩ := h; exact ⟨x, m1, e, Wr.pu h⟩)
theorem WE.callM {F : List D → M → Option (D × M)} {a : AF} {Q : D → M → Prop} (h : WA a ρ m fun xs m1 => Wr (F xs m1) Q) : WE (eCallM F a) ρ m Q := Wr.bd h
theorem WA.nil {Q : List D → M → Prop} (q : Q [] m) : WA aNil ρ m Q := ⟨[], m, rfl, q⟩
theorem WA.cons {a : EF} {r : AF} {Q : List D → M → Prop} (h : WE a ρ m fun x m1 => WA r ρ m1 fun xs m2 => Q (x :: xs) m2) : WA (aCons a r) ρ m Q :=
  Wr.bd (by obtain ⟨x, m1, e, h⟩ := h; refine ⟨x, m1, e, Wr.bd ?_⟩; obtain ⟨y, m2, e2, h⟩ := h; exact ⟨y, m2, e2, x :: y, m2, rfl, h⟩)
theorem WA.star {a : EF} {r : AF} {Q : List D → M → Prop} (h : WE a ρ m fun x m1 => Kn (seqD m1 x) fun xs => WA r ρ m1 fun ys m2 => Q (xs ++ ys) m2) : WA (aStar a r) ρ m Q := by
  obtain ⟨x, m1, e, xs, e2, ys, m2, e3, q⟩ := h
  refine ⟨xs ++ ys, m2, ?_, q⟩
  unfold aStar
  rw [e]
  show (match seqD m1 x with
    | some xs => bd (r ρ m1) fun ys m2 => some (xs ++ ys, m2)
    | none => none) = _
  rw [e2]
  show bd (r ρ m1) _ = _
  rw [e3]
  rfl
theorem WE.tup {a : AF} {Q : D → M → Prop} (h : WA a ρ m fun xs m1 => xs.length ≤ sizeLine ∧ Q (.tup xs) m1) : WE (eTup a) ρ m Q :=
  Wr.bd (by obtain ⟨x, m1, e, h1, h2⟩ := h; exact ⟨x, m1, e, _, m1, if_pos h1, h2⟩)
theorem WE.lst {a : AF} {Q : D → M → Prop} (h : WA a ρ m fun xs m1 => xs.length ≤ sizeLine ∧ Q (.lst xs) m1) : WE (eLst a) ρ m Q :=
  Wr.bd (by obtain ⟨x, m1, e, h1, h2⟩ := h; exact ⟨x, m1, e, _, m1, if_pos h1, h2⟩)
theorem WE.newL {a : AF} {Q : D → M → Prop} (h : WA a ρ m fun xs m1 => xs.length ≤ sizeLine ∧ Q (.ref m1.length) (m1 ++ [.lst xs])) : WE (eNewL a) ρ m Q :=
  Wr.bd (by obtain ⟨x, m1, e, h1, h2⟩ := h; exact ⟨x, m1, e, _, _, if_pos h1, h2⟩)
theorem WE.eif {c : TF} {a b : EF} {Q : D → M → Prop} (h : WT c ρ m fun x m1 => WE (if x then a else b) ρ m1 Q) : WE (eIf c a b) ρ m Q :=
  Wr.bd (by obtain ⟨x, m1, e, h⟩ := h; refine ⟨x, m1, e, ?_⟩; cases x <;> exact h)
theorem WE.isN {a : EF} {Q : D → M → Prop} (h : WE a ρ m fun x m1 => Q (.bl (isNon x)) m1) : WE (eIsN a) ρ m Q :=
  Wr.bd (by obtain ⟨x, m1, e, h⟩ := h; exact ⟨x, m1, e, _, m1, rfl, h⟩)
theorem WE.notN {a : EF} {Q : D → M → Prop} (h : WE a ρ m fun x m1 => Q (.bl (!isNon x)) m1) : WE (eNotN a) ρ m Q :=
  Wr.bd (by obtain ⟨x, m1, e, h⟩ := h; exact ⟨x, m1, e, _, m1, rfl, h⟩)
theorem WE.not {a : EF} {Q : D → M → Prop} (h : WE a ρ m fun x m1 => ∃ b, x = .bl b ∧ Q (.bl (!b)) m1) : WE (eNot a) ρ m Q :=
  Wr.bd (by obtain ⟨x, m1, e, b, rfl, h⟩ := h; exact ⟨_, m1, e, _, m1, rfl, h⟩)
theorem WE.and {a b : EF} {Q : D → M → Prop} (h : WE a ρ m fun x m1 => ∃ c, x = .bl c ∧ (c = true → WE b ρ m1 Q) ∧ (c = false → Q (.bl false) m1)) : WE (eAnd a b) ρ m Q :=
  Wr.bd (by obtain ⟨x, m1, e, c, rfl, h1, h2⟩ := h; refine ⟨_, m1, e, ?_⟩; cases c <;> first | exact h1 rfl | exact ⟨_, m1, rfl, h2 rfl⟩)
theorem WE.or {a b : EF} {Q : D → M → Prop} (h : WE a ρ m fun x m1 => ∃ c, x = .bl c ∧ (c = false → WE b ρ m1 Q) ∧ (c = true → Q (.bl true) m1)) : WE (eOr a b) ρ m Q :=
  Wr.bd (by obtain ⟨x, m1, e, c, rfl, h1, h2⟩ := h; refine ⟨_, m1, e, ?_⟩; cases c <;> first | exact h1 rfl | exact ⟨_, m1, rfl, h2 rfl⟩)
theorem WO.no {Q : Option Int → M → Prop} (q : Q none m) : WO oNo ρ m Q := ⟨_, m, rfl, q⟩
theorem WO.yes {a : EF} {Q : Option Int → M → Prop} (h : WE a ρ m fun x m1 => ∃ i, x = .int i ∧ Q (some i) m1) : WO (oYes a) ρ m Q :=
  Wr.bd (by obtain ⟨x, m1, e, i, rfl, h⟩ := h; exact ⟨_, m1, e, _, m1, rfl, h⟩)
theorem WE.sl {a : EF} {lo hi : OF} {Q : D → M → Prop} (h : WE a ρ m fun x m1 => WO lo ρ m1 fun l m2 => WO hi ρ m2 fun u m3 => Kn (slD m3 x l u) fun d => Q d m3) : WE (eSl a lo hi) ρ m Q :=
  Wr.bd (by
    obtain ⟨x, m1, e, l, m2, e2, u, m3, e3, h⟩ := h
    exact ⟨x, m1, e, Wr.bd ⟨l, m2, e2, Wr.bd ⟨u, m3, e3, Wr.pu h⟩⟩⟩)
theorem WT.val {a : EF} {Q : Bool → M → Prop} (h : WE a ρ m fun x m1 => ∃ b, x = .bl b ∧ Q b m1) : WT (tVal a) ρ m Q :=
  Wr.bd (by obtain ⟨x, m1, e, b, rfl, h⟩ := h; exact ⟨_, m1, e, _, m1, rfl, h⟩)
theorem WT.and {a b : TF} {Q : Bool → M → Prop} (h : WT a ρ m fun x m1 => (x = true → WT b ρ m1 Q) ∧ (x = false → Q false m1)) : WT (tAnd a b) ρ m Q :=
  Wr.bd (by obtain ⟨x, m1, e, h1, h2⟩ := h; refine ⟨_, m1, e, ?_⟩; cases x <;> first | exact h1 rfl | exact ⟨_, m1, rfl, h2 rfl⟩)
theorem WT.or {a b : TF} {Q : Bool → M → Prop} (h : WT a ρ m fun x m1 => (x = false → WT b ρ m1 Q) ∧ (x = true → Q true m1)) : WT (tOr a b) ρ m Q :=
  Wr.bd (by obtain ⟨x, m1, e, h1, h2⟩ := h; refine ⟨_, m1, e, ?_⟩; cases x <;> first | exact h1 rfl | exact ⟨_, m1, rfl, h2 rfl⟩)
theorem WT.not {a : TF} {Q : Bool → M → Prop} (h : WT a ρ m fun x m1 => Q (!x) m1) : WT (tNot a) ρ m Q :=
  Wr.bd (by obtain ⟨x, m1, e, h⟩ := h; exact ⟨_, m1, e, _, m1, rfl, h⟩)
theorem WT.tt {Q : Bool → M → Prop} (q : Q true m) : WT tTrue ρ m Q := ⟨_, m, rfl, q⟩
theorem WG.nm {i : Nat} {d : D} {Q : Ss → M → Prop} (q : Q (ρ.set i (some d)) m) : WG (gNm i) d ρ m Q := ⟨_, m, rfl, q⟩
theorem WG.setA {o i : EF} {d : D} {Q : Ss → M → Prop} (h : WE o ρ m fun x m1 => WE i ρ m1 fun y m2 => Kn (setM m2 x y d) fun m3 => Q ρ m3) : WG (gSetA o i) d ρ m Q := by
  obtain ⟨x, m1, e1, y, m2, e2, m3, e3, q⟩ := h
  refine ⟨ρ, m3, ?_, q⟩
  unfold gSetA
  rw [e1]
  show bd (i ρ m1) _ = _
  rw [e2]
  show (setM m2 x y d).map _ = _
  rw [e3]
  rfl
theorem WS.asg {a : EF} {g : GF} {Q : Fl → M → Prop} (h : WE a ρ m fun d m1 => WG g d ρ m1 fun ρ1 m2 => Q (.nx ρ1) m2) : WS (sAsg a g) ρ m Q :=
  Wr.bd (by obtain ⟨x, m1, e, ρ1, m2, e2, h⟩ := h; exact ⟨x, m1, e, Wr.bd ⟨ρ1, m2, e2, _, m2, rfl, h⟩⟩)
theorem WS.drop {a : EF} {Q : Fl → M → Prop} (h : WE a ρ m fun d m1 => Q (.nx ρ) m1) : WS (sDrop a) ρ m Q :=
  Wr.bd (by obtain ⟨x, m1, e, h⟩ := h; exact ⟨x, m1, e, _, m1, rfl, h⟩)
theorem WS.ret {a : EF} {Q : Fl → M → Prop} (h : WE a ρ m fun d m1 => Q (.rt d) m1) : WS (sRet a) ρ m Q :=
  Wr.bd (by obtain ⟨x, m1, e, h⟩ := h; exact ⟨x, m1, e, _, m1, rfl, h⟩)
theorem WS.retN {Q : Fl → M → Prop} (h : Q (.rt .non) m) : WS sRetN ρ m Q := ⟨_, m, rfl, h⟩
theorem WS.nop {Q : Fl → M → Prop} (h : Q (.nx ρ) m) : WS sNop ρ m Q := ⟨_, m, rfl, h⟩
theorem WS.brk {Q : Fl → M → Prop} (h : Q (.bk ρ) m) : WS sBrk ρ m Q := ⟨_, m, rfl, h⟩
theorem WS.cont {Q : Fl → M → Prop} (h : Q (.ct ρ) m) : WS sCont ρ m Q := ⟨_, m, rfl, h⟩
theorem WS.sif {c : TF} {a b : SF} {Q : Fl → M → Prop} (h : WT c ρ m fun x m1 => WS (if x then a else b) ρ m1 Q) : WS (sIf c a b) ρ m Q :=
  Wr.bd (by obtain ⟨x, m1, e, h⟩ := h; refine ⟨x, m1, e, ?_⟩; cases x <;> exact h)
theorem WS.seq {a b : SF} {Q : Fl → M → Prop} (h : WS a ρ m (sqk b Q)) : WS (sSeq a b) ρ m Q := by
  obtain ⟨r, m1, e, h⟩ := h
  unfold WS Wr sSeq
  rw [e]
  cases r <;> first | exact h | exact ⟨_, m1, rfl, h⟩
theorem WS.nx {b : SF} {Q : Fl → M → Prop} (h : WS b ρ m Q) : sqk b Q (.nx ρ) m := h
theorem WS.rt {b : SF} {Q : Fl → M → Prop} {d : D} (h : Q (.rt d) m) : sqk b Q (.rt d) m := h
theorem WS.aug {i : Nat} {f : M → D → D → Option D} {a : EF} {Q : Fl → M → Prop} {x : D} (h0 : ρ.getD i none = some x) (h : WE a ρ m fun y m1 => Kn (f m1 x y) fun d => Q (.nx (ρ.set i (some d))) m1) : WS (sAug i f a) ρ m Q := by
  obtain ⟨y, m1, e, d, e2, q⟩ := h
  refine ⟨_, m1, ?_, q⟩
  unfold sAug
  rw [h0]
  show bd (a ρ m) _ = _
  rw [e]
  show bd (pu (f m1 x y) m1) _ = _
  rw [e2]
  rfl
theorem WS.par {is : List Nat} {a : AF} {Q : Fl → M → Prop} (h : WA a ρ m fun xs m1 => xs.length = is.length ∧ Q (.nx (setMany ρ is xs)) m1) : WS (sPar is a) ρ m Q :=
  Wr.bd (by obtain ⟨x, m1, e, h1, h2⟩ := h; exact ⟨x, m1, e, _, m1, if_pos h1, h2⟩)
/-- a walk over what is there at its start -/
def WI (f : AF) (ρ : Ss) (m : M) (Q : List D → M → Prop) : Prop := Wr (f ρ m) Q
theorem WI.it {a : EF} {Q : List D → M → Prop} (h : WE a ρ m fun x m1 => Kn (items x) fun ds => Q ds m1) : WI (iIt a) ρ m Q :=
  Wr.bd (by obtain ⟨x, m1, e, h⟩ := h; exact ⟨x, m1, e, Wr.pu h⟩)
theorem WI.r1 {a : AF} {Q : List D → M → Prop} (h : WA a ρ m fun xs m1 => ∃ j : Int, xs = [.int j] ∧ (-1000000 ≤ j ∧ j ≤ 1000000) ∧ Q (rngD 0 j.toNat) m1) : WI (iR1 a) ρ m Q :=
  Wr.bd (by obtain ⟨x, m1, e, j, rfl, hj, h⟩ := h; exact ⟨_, m1, e, _, m1, if_pos ⟨by omega, by omega⟩, h⟩)
/-- a loop whose turns keep to an invariant and leave it never -/
theorem WS.forI {it : AF} {g : GF} {b : SF} {Q : Fl → M → Prop} (I : Nat → Ss → M → Prop) (h : WI it ρ m fun xs m1 => I 0 ρ m1 ∧ (∀ i x ρ m, xs[i]? = some x → I i ρ m → WG g x ρ m fun ρ1 m1 => WS b ρ1 m1 fun r m2 => ∃ ρ2, (r = .nx ρ2 ∨ r = .ct ρ2) ∧ I (i + 1) ρ2 m2) ∧ ∀ ρ m, I xs.length ρ m → Q (.nx ρ) m) : WS (sFor it g b) ρ m Q :=
  Wr.bd (by
    obtain ⟨xs, m1, e, h1, h2, h3⟩ := h
    obtain ⟨ρ', m', e2, h4⟩ := forGo_inv (f := g) (b := b) I xs 0 ρ m1 h1 (by
      intro j x ρ m hx hI
      rw [Nat.zero_add] at hI
      obtain ⟨ρ1, m1, e1, r, m2, e2, ρ2, hr, h⟩ := h2 j x ρ m hx hI
      exact ⟨ρ1, m1, e1, r, m2, e2, ρ2, hr, by rw [Nat.zero_add]; exact h⟩)
    rw [Nat.zero_add] at h4
    exact ⟨xs, m1, e, _, m', e2, h3 _ _ h4⟩)
/-- the end: a function that is called -/
theorem WS.runP {a n : Nat} {b : SF} {ds : List D} {d : D} (h : WS b (startD n ds) [] fun r m => ∃ y, r = .rt y ∧ frz m y = some d) (hl : ds.length = a) : runP a n b ds = some d := by
  obtain ⟨r, m1, e, y, rfl, q⟩ := h
  unfold L4.runP
  rw [if_pos hl, e]
  exact q
theorem WS.runM {a n : Nat} {b : SF} {ds : List D} {Q : D → M → Prop} (h : WS b (startD n ds) m fun r m1 => (∃ y, r = .rt y ∧ Q y m1) ∨ ∃ ρ, r = .nx ρ ∧ Q .non m1) (hl : ds.length = a) : Wr (runM a n b ds m) Q := by
  obtain ⟨r, m1, e, h⟩ := h
  unfold L4.runM
  rw [if_pos hl, e]
  rcases h with ⟨y, rfl, q⟩ | ⟨ρ, rfl, q⟩
  · exact ⟨y, m1, rfl, q⟩
  · exact ⟨.non, m1, rfl, q⟩
end
end L4
namespace L4
open PySem
section
variable {ρ : Ss} {m : M} {Q : D → Prop}
theorem wsz {n : Nat} (h : n ≤ 1000) : n ≤ sizeLine := by rw [sizeLine_eq]; omega
theorem Kn.call {F : List D → Option D} {xs : List D} {d : D} (hp : pureL xs = true) (e : F xs = some d) (q : Q d) : Kn (callP F m xs) Q := ⟨d, by unfold callP; rw [if_pos hp]; exact e, q⟩
theorem Kn.add_i {i j : Int} (q : Q (.int (i + j))) : Kn (addD m (.int i) (.int j)) Q := ⟨_, rfl, q⟩
theorem add_lst {x y : D} {a b : List D} (hx : lstOf m x = some a) (hy : lstOf m y = some b) (h : a.length + b.length ≤ sizeLine) : addD m x y = some (.lst (a ++ b)) := by
  have key : (match lstOf m x, lstOf m y with
    | some a, some b => if a.length + b.length ≤ sizeLine then some (D.lst (a ++ b)) else none
    | _, _ => none) = some (.lst (a ++ b)) := by rw [hx, hy]; exact if_pos h
  cases x with
  | lst xs => cases y with
    | lst ys => exact key
    | ref n => exact key
    | _ => cases hy
  | ref n => cases y with
    | lst ys => exact key
    | ref n => exact key
    | _ => cases hy
  | _ => cases hx
theorem Kn.add_l {x y : D} {a b : List D} (hx : lstOf m x = some a) (hy : lstOf m y = some b) (h : a.length + b.length ≤ sizeLine) (q : Q (.lst (a ++ b))) : Kn (addD m x y) Q := ⟨_, add_lst hx hy h, q⟩
theorem Kn.add_s {a b : Str} (h : a.length + b.length ≤ sizeLine) (q : Q (.str (catS a b))) : Kn (addD m (.str a) (.str b)) Q := ⟨_, if_pos h, q⟩
theorem Kn.sub {i j : Int} (q : Q (.int (i - j))) : Kn (subD m (.int i) (.int j)) Q := ⟨_, rfl, q⟩
theorem Kn.mul_i {i j : Int} (h : (-(2 ^ 64) < i ∧ i < 2 ^ 64) ∨ (-(2 ^ 64) < j ∧ j < 2 ^ 64)) (q : Q (.int (i * j))) : Kn (mulD m (.int i) (.int j)) Q := ⟨_, if_pos h, q⟩
theorem Kn.fdiv {i j : Int} (h : 0 < j ∧ j < 1073741824) (q : Q (.int (i / j))) : Kn (fdivD m (.int i) (.int j)) Q := ⟨_, if_pos h, q⟩
theorem Kn.mod {i j : Int} (h : 0 < j) (q : Q (.int (i % j))) : Kn (modD m (.int i) (.int j)) Q := ⟨_, if_pos h, q⟩
theorem Kn.neg {i : Int} (q : Q (.int (-i))) : Kn (negD m (.int i)) Q := ⟨_, rfl, q⟩
theorem w_eq_int {i j : Int} : eqD m (.int i) (.int j) = some (.bl (i == j)) := by
  have hi : ∀ i : Int, pdM m (.int i) = some (.int i) := fun i => by
    have h1 : SeqAt.shaped (PyData.int i) = true := rfl
    simp [pdM, frz, pureD, pd, h1]
  simp [eqD, hi, PyData.eqv]
theorem w_ne_int {i j : Int} : neD m (.int i) (.int j) = some (.bl (!(i == j))) := by
  have hi : ∀ i : Int, pdM m (.int i) = some (.int i) := fun i => by
    have h1 : SeqAt.shaped (PyData.int i) = true := rfl
    simp [pdM, frz, pureD, pd, h1]
  simp [neD, hi, PyData.eqv]
theorem Kn.eq_i {i j : Int} (q : Q (.bl (i == j))) : Kn (eqD m (.int i) (.int j)) Q := ⟨_, w_eq_int, q⟩
theorem Kn.ne_i {i j : Int} (q : Q (.bl (!(i == j)))) : Kn (neD m (.int i) (.int j)) Q := ⟨_, w_ne_int, q⟩
theorem Kn.lt {i j : Int} (q : Q (.bl (decide (i < j)))) : Kn (ltD m (.int i) (.int j)) Q := ⟨_, rfl, q⟩
theorem Kn.le {i j : Int} (q : Q (.bl (decide (i ≤ j)))) : Kn (leD m (.int i) (.int j)) Q := ⟨_, rfl, q⟩
theorem Kn.gt {i j : Int} (q : Q (.bl (decide (j < i)))) : Kn (gtD m (.int i) (.int j)) Q := ⟨_, rfl, q⟩
theorem Kn.ge {i j : Int} (q : Q (.bl (decide (j ≤ i)))) : Kn (geD m (.int i) (.int j)) Q := ⟨_, rfl, q⟩
theorem Kn.int_i {i : Int} (q : Q (.int i)) : Kn (intD m [.int i]) Q := ⟨_, rfl, q⟩
theorem Kn.int_b {b : Bool} (q : Q (.int (if b then 1 else 0))) : Kn (intD m [.bl b]) Q := ⟨_, rfl, q⟩
theorem Kn.abs {i : Int} (q : Q (.int (if i < 0 then -i else i))) : Kn (absD m [.int i]) Q := ⟨_, rfl, q⟩
theorem Kn.min2 {i j : Int} (q : Q (.int (if j < i then j else i))) : Kn (min2D m [.int i, .int j]) Q := ⟨_, rfl, q⟩
theorem Kn.max2 {i j : Int} (q : Q (.int (if j > i then j else i))) : Kn (max2D m [.int i, .int j]) Q := ⟨_, rfl, q⟩
theorem Kn.len_t {ds : List D} (q : Q (.int ds.length)) : Kn (lenD m [.tup ds]) Q := ⟨_, rfl, q⟩
theorem Kn.len_l {ds : List D} (q : Q (.int ds.length)) : Kn (lenD m [.lst ds]) Q := ⟨_, rfl, q⟩
theorem Kn.len_s {ds : List D} (q : Q (.int ds.length)) : Kn (lenD m [.scr ds]) Q := ⟨_, rfl, q⟩
theorem Kn.len_r {n : Nat} {ds : List D} (h : m[n]? = some (.lst ds)) (q : Q (.int ds.length)) : Kn (lenD m [.ref n]) Q := ⟨.int ds.length, by
  show (lstR m (.ref n)).map _ = _
  have e : lstR m (.ref n) = some ds := by show (m[n]?).bind lstO = _; rw [h]; rfl
  rw [e]; rfl, q⟩
theorem Kn.tup_t {ds : List D} (q : Q (.tup ds)) : Kn (tupD m [.tup ds]) Q := ⟨_, rfl, q⟩
theorem Kn.tup_l {ds : List D} (q : Q (.tup ds)) : Kn (tupD m [.lst ds]) Q := ⟨_, rfl, q⟩
theorem Kn.lis_t {ds : List D} (q : Q (.lst ds)) : Kn (lisD m [.tup ds]) Q := ⟨_, rfl, q⟩
theorem Kn.lis_l {ds : List D} (q : Q (.lst ds)) : Kn (lisD m [.lst ds]) Q := ⟨_, rfl, q⟩
theorem Kn.seq_t {Q : List D → Prop} {ds : List D} (q : Q ds) : Kn (seqD m (.tup ds)) Q := ⟨_, rfl, q⟩
theorem Kn.seq_l {Q : List D → Prop} {ds : List D} (q : Q ds) : Kn (seqD m (.lst ds)) Q := ⟨_, rfl, q⟩
theorem Kn.it_t {Q : List D → Prop} {ds : List D} (q : Q ds) : Kn (items (.tup ds)) Q := ⟨_, rfl, q⟩
theorem Kn.it_l {Q : List D → Prop} {ds : List D} (q : Q ds) : Kn (items (.lst ds)) Q := ⟨_, rfl, q⟩
theorem Kn.it_s {Q : List D → Prop} {ds : List D} (q : Q ds) : Kn (items (.scr ds)) Q := ⟨_, rfl, q⟩
theorem Kn.ix_l {ds : List D} {i : Nat} {d : D} (h : ds[i]? = some d) (q : Q d) : Kn (ixA m (.lst ds) (.int (i : Nat))) Q := ⟨d, by rw [ixA_lst]; exact L2.atI_nat h, q⟩
theorem Kn.isi {x : D} {c : String} {b : Bool} (h : isiD m [x, .ty c] = some (.bl b)) (q : Q (.bl b)) : Kn (isiD m [x, .ty c]) Q := ⟨_, h, q⟩
theorem Kn.sl_t {ds : List D} {lo hi : Option Int} (q : Q (.tup (cutD ds lo hi))) : Kn (slD m (.tup ds) lo hi) Q := ⟨_, rfl, q⟩
theorem Kn.sl_l {ds : List D} {lo hi : Option Int} (q : Q (.lst (cutD ds lo hi))) : Kn (slD m (.lst ds) lo hi) Q := ⟨_, rfl, q⟩
end
section
variable {ρ : Ss} {m : M} {Q : D → M → Prop}
theorem WG.one {i : Nat} {d : D} {Q : Ss → M → Prop} (q : Q (ρ.set i (some d)) m) : WG (gTgt (.one i)) d ρ m Q := ⟨_, m, rfl, q⟩
theorem WG.tup {is : List Nat} {ds : List D} {Q : Ss → M → Prop} (h : ds.length = is.length) (q : Q (setMany ρ is ds) m) : WG (gTgt (.many is)) (.tup ds) ρ m Q := ⟨setMany ρ is ds, m, by
  show (match (if ds.length = is.length then some ds else none) with | some ds => some (setMany ρ is ds, m) | none => none) = _
  rw [if_pos h], q⟩
/-- xs.append(e) -/
theorem WE.app {o e : EF} (h : WE o ρ m fun x m1 => ∃ n, x = .ref n ∧ (∃ ds0, m1[n]? = some (.lst ds0)) ∧ WE e ρ m1 fun y m2 => ∃ ds, m2[n]? = some (.lst ds) ∧ ds.length < sizeLine ∧ Q .non (m2.set n (.lst (ds ++ [y])))) : WE (eLm0 (fun _ => appL) o (aCons e aNil)) ρ m Q := by
  obtain ⟨x, m1, e1, n, rfl, ⟨ds0, h0⟩, y, m2, e2, ds, h1, h2, q⟩ := h
  refine ⟨.non, _, ?_, q⟩
  unfold eLm0
  rw [e1]
  show (match m1[n]? with
    | some (.lst _) => bd (aCons e aNil ρ m1) fun ys m2 => match m2[n]? with
      | some (.lst ds) => (appL ds ys).map fun (r : D × List D) => (r.1, m2.set n (.lst r.2))
      | _ => none
    | _ => none) = _
  rw [h0]
  have ea : aCons e aNil ρ m1 = some ([y], m2) := by unfold aCons; rw [e2]; rfl
  show bd (aCons e aNil ρ m1) _ = _
  rw [ea]
  show (match m2[n]? with
      | some (.lst ds) => (appL ds [y]).map fun (r : D × List D) => (r.1, m2.set n (.lst r.2))
      | _ => none) = _
  rw [h1]
  show (if ds.length < sizeLine then some (D.non, ds ++ [y]) else none).map _ = _
  rw [if_pos h2]
  rfl
/-- [e for .. in ..], over what is there at its start -/
theorem WE.lcK {nw : Bool} {it : AF} {t : Tgt} {c : TF} {e : EF} (h : WI it ρ m fun xs m1 => xs.length ≤ 1000000 ∧ Wr (compGo t c e ρ xs m1) fun ys m2 => Q (bif nw then .ref m2.length else .lst ys) (bif nw then m2 ++ [.lst ys] else m2)) : WE (eLcK nw it t c e) ρ m Q :=
  Wr.bd (by
    obtain ⟨xs, m1, e1, h1, ys, m2, e2, q⟩ := h
    refine ⟨xs, m1, e1, _, _, (if_pos h1).trans ?_, q⟩
    rw [e2]
    cases nw <;> rfl)
theorem WE.lcV {nw : Bool} {it : LF} {t : Tgt} {c : TF} {e : EF} (h : Wr (it ρ m) fun nx m1 => Wr (compLv t c e nx ρ 1000001 0 m1) fun ys m2 => Q (bif nw then .ref m2.length else .lst ys) (bif nw then m2 ++ [.lst ys] else m2)) : WE (eLcV nw it t c e) ρ m Q :=
  Wr.bd (by
    obtain ⟨nx, m1, e1, ys, m2, e2, q⟩ := h
    refine ⟨nx, m1, e1, _, _, ?_, q⟩
    rw [e2]
    cases nw <;> rfl)
theorem WE.tupR {a : AF} (h : WA a ρ m fun xs m1 => Kn (rgA xs) fun ds => Q (.tup ds) m1) : WE (eTupR a) ρ m Q :=
  Wr.bd (by obtain ⟨xs, m1, e, ds, e2, q⟩ := h; exact ⟨xs, m1, e, _, m1, by rw [e2]; rfl, q⟩)
theorem WE.lisR {a : AF} {nw : Bool} (h : WA a ρ m fun xs m1 => Kn (rgA xs) fun ds => Q (bif nw then .ref m1.length else .lst ds) (bif nw then m1 ++ [.lst ds] else m1)) : WE (eLisR nw a) ρ m Q :=
  Wr.bd (by obtain ⟨xs, m1, e, ds, e2, q⟩ := h; exact ⟨xs, m1, e, _, _, by rw [e2]; cases nw <;> rfl, q⟩)
/-- a comprehension without draws -/
theorem comp_pure {t : Tgt} {c : TF} {e : EF} {α : Type} (enc : α → D) (b : α → Bool) (f : α → D) : ∀ xs : List α, (∀ x ∈ xs, ∃ ds, t.un (enc x) = some ds ∧ c (setMany ρ t.is ds) m = some (b x, m) ∧ (b x = true → e (setMany ρ t.is ds) m = some (f x, m))) → compGo t c e ρ (xs.map enc) m = some ((xs.filter b).map f, m)
  | [], _ => rfl
  | x :: xs, h => by
    obtain ⟨ds, h1, h2, h3⟩ := h x List.mem_cons_self
    have ih := comp_pure enc b f xs fun y hy => h y (List.mem_cons_of_mem _ hy)
    show compGo t c e ρ (enc x :: xs.map enc) m = _
    unfold compGo
    rw [h1]
    show bd (c (setMany ρ t.is ds) m) _ = _
    rw [h2]
    cases hb : b x
    · show compGo t c e ρ (xs.map enc) m = _
      rw [ih, List.filter_cons, hb]
      rfl
    · show bd (e (setMany ρ t.is ds) m) _ = _
      rw [h3 hb]
      show bd (compGo t c e ρ (xs.map enc) m) _ = _
      rw [ih, List.filter_cons, hb]
      rfl
end
end L4
namespace L4
section
variable {ρ : Ss} {m : M}
theorem WS.ite_t {x : Bool} {a b : SF} {Q : Fl → M → Prop} (h : x = true) (q : WS a ρ m Q) : WS (if x then a else b) ρ m Q := by rw [if_pos h]; exact q
theorem WS.ite_f {x : Bool} {a b : SF} {Q : Fl → M → Prop} (h : x = false) (q : WS b ρ m Q) : WS (if x then a else b) ρ m Q := by rw [h]; exact q
theorem WE.ite_t {x : Bool} {a b : EF} {Q : D → M → Prop} (h : x = true) (q : WE a ρ m Q) : WE (if x then a else b) ρ m Q := by rw [if_pos h]; exact q
theorem WE.ite_f {x : Bool} {a b : EF} {Q : D → M → Prop} (h : x = false) (q : WE b ρ m Q) : WE (if x then a else b) ρ m Q := by rw [h]; exact q
end
end L4
namespace L4
open PySem
section
variable {ρ : Ss} {m : M} {Q : D → M → Prop} {α : Type}
/-- a walk tells these things in turn -/
def Tells (nx : NX) (m : M) (g : Nat → α → D) (ds : List α) : Prop := ∀ i, i ≤ ds.length → nx m i = some ((ds[i]?).map (g i))
theorem tells_R {n : Nat} {enc : α → D} {ds : List α} (h : m[n]? = some (.lst (ds.map enc))) : Tells (nxR n) m (fun _ => enc) ds := fun i _ => by
  unfold nxR
  rw [h]
  show some ((ds.map enc)[i]?) = _
  rw [List.getElem?_map]
def pickF (b : Nat → α → Bool) (f : Nat → α → D) : Nat → List α → List D
  | _, [] => []
  | i, x :: xs => (bif b i x then [f i x] else []) ++ pickF b f (i + 1) xs
theorem compLv_go {t : Tgt} {c : TF} {el : EF} {nx : NX} {g : Nat → α → D} (b : Nat → α → Bool) (f : Nat → α → D) {ds : List α} (hn : Tells nx m g ds) : ∀ (rest pre : List α) (k : Nat), ds = pre ++ rest → rest.length < k →
    (∀ (i : Nat) x, ds[i]? = some x → ∃ ys, t.un (g i x) = some ys ∧ c (setMany ρ t.is ys) m = some (b i x, m) ∧ (b i x = true → el (setMany ρ t.is ys) m = some (f i x, m))) →
    compLv t c el nx ρ k pre.length m = some (pickF b f pre.length rest, m)
  | [], pre, 0, _, h, _ => by simp at h
  | _ :: _, pre, 0, _, h, _ => by simp at h
  | [], pre, k + 1, e, _, _ => by
    have h2 := hn pre.length (by simp [e])
    have h1 : ds[pre.length]? = none := by simp [e]
    rw [h1] at h2
    unfold compLv
    rw [h2]
    rfl
  | x :: rest, pre, k + 1, e, hk, h => by
    have hx : ds[pre.length]? = some x := by simp [e]
    have h2 := hn pre.length (by simp [e])
    rw [hx] at h2
    have ih := compLv_go (t := t) (c := c) (el := el) b f hn rest (pre ++ [x]) k (by simp [e]) (by simp at hk; omega) h
    have e3 : pre.length + 1 = (pre ++ [x]).length := by simp
    obtain ⟨ys, q1, q2, q3⟩ := h _ _ hx
    unfold compLv
    rw [h2]
    dsimp only [Option.map_some]
    rw [q1]
    dsimp only
    rw [q2]
    show (if b pre.length x = true then _ else _) = _
    cases hb : b pre.length x
    · rw [if_neg (by simp), e3, ih, pickF, hb, ← e3]
      rfl
    · rw [if_pos rfl, q3 hb, e3]
      show bd (compLv _ _ _ _ _ _ _ _) _ = _
      rw [ih, pickF, hb, ← e3]
      rfl
/-- [e for .. in xs if c], nothing drawn -/
theorem WE.lcT {it : LF} {t : Tgt} {c : TF} {e : EF} {nx : NX} {g : Nat → α → D} (b : Nat → α → Bool) (f : Nat → α → D) {ds : List α} (hi : it ρ m = some (nx, m)) (hn : Tells nx m g ds) (hl : ds.length < 1000000)
    (h : ∀ (i : Nat) x, ds[i]? = some x → ∃ ys, t.un (g i x) = some ys ∧ WT c (setMany ρ t.is ys) m (fun v m1 => v = b i x ∧ m1 = m) ∧ (b i x = true → WE e (setMany ρ t.is ys) m fun v m1 => v = f i x ∧ m1 = m))
    (q : Q (.lst (pickF b f 0 ds)) m) : WE (eLcV false it t c e) ρ m Q :=
  WE.lcV ⟨nx, m, hi, pickF b f 0 ds, m, compLv_go (t := t) (c := c) (el := e) b f hn ds [] 1000001 rfl (by omega) (fun i x hx => by
    obtain ⟨ys, h1, ⟨v, m1, e1, rfl, rfl⟩, h3⟩ := h i x hx
    exact ⟨ys, h1, e1, fun hb => by obtain ⟨v, m2, e2, rfl, rfl⟩ := h3 hb; exact e2⟩), q⟩
theorem lIt_R {a : EF} {n : Nat} {ds : List D} (h : a ρ m = some (.ref n, m)) (hm : m[n]? = some (.lst ds)) : lIt a ρ m = some (nxR n, m) := by
  unfold lIt
  rw [h]
  show ((m[n]?).bind lstO).map (fun _ => (nxR n, m)) = _
  rw [hm]
  rfl
/-- [e for .. in xs], with draws: an invariant; what is found is told by P -/
theorem WE.lcI {it : AF} {t : Tgt} {e : EF} (I : M → List D → Prop) (h : WI it ρ m fun xs m1 => xs.length ≤ 1000000 ∧ I m1 [] ∧ (∀ i x m acc, xs[i]? = some x → acc.length = i → I m acc → ∃ ys, t.un x = some ys ∧ WE e (setMany ρ t.is ys) m fun d m1 => I m1 (acc ++ [d])) ∧ ∀ m acc, acc.length = xs.length → I m acc → Q (.lst acc) m) : WE (eLcK false it t tTrue e) ρ m Q := by
  refine WE.lcK ?_
  obtain ⟨xs, m1, e1, hz, h0, hs, hq⟩ := h
  refine ⟨xs, m1, e1, hz, ?_⟩
  have key : ∀ (rest pre : List D) (m2 : M) (acc : List D), xs = pre ++ rest → acc.length = pre.length → I m2 acc → ∃ ys m3, compGo t tTrue e ρ rest m2 = some (ys, m3) ∧ ys.length = rest.length ∧ I m3 (acc ++ ys) := by
    intro rest
    induction rest with
    | nil => intro pre m2 acc _ _ hI; exact ⟨[], m2, rfl, rfl, by simpa using hI⟩
    | cons x rest ih =>
      intro pre m2 acc ex hl hI
      have hx : xs[pre.length]? = some x := by simp [ex]
      obtain ⟨ys, q1, d, m3, q2, q3⟩ := hs pre.length x m2 acc hx hl hI
      obtain ⟨zs, m4, q4, q5, q6⟩ := ih (pre ++ [x]) m3 (acc ++ [d]) (by simp [ex]) (by simp [hl]) q3
      refine ⟨d :: zs, m4, ?_, by simp [q5], by simpa [List.append_assoc] using q6⟩
      unfold compGo
      rw [q1]
      show bd (e (setMany ρ t.is ys) m2) _ = _
      rw [q2]
      show bd (compGo t tTrue e ρ rest m3) _ = _
      rw [q4]
      rfl
  obtain ⟨ys, m3, k1, k2, k3⟩ := key xs [] m1 [] rfl rfl h0
  exact ⟨ys, m3, k1, hq m3 ys k2 (by simpa using k3)⟩
end
end L4
namespace L4
open PySem
section
variable {m : M}
theorem pdM_pure {x : D} {p : PyData} (hp : pureD x = true) (h : pd x = some p) (hs : SeqAt.shaped p = true) : pdM m x = some p := by
  unfold pdM frz
  rw [if_pos hp]
  show (match pd x with | some a => if SeqAt.shaped a then some a else none | none => none) = _
  rw [h]
  exact if_pos hs
theorem pdM_lay {x : D} {p : PyData} (h : pdM m x = some p) : p.canLay0 = true := by
  unfold pdM at h
  split at h
  · obtain ⟨hz, h⟩ := ite_some h
    cases h
    exact SeqAt.canLay_of_shaped hz
  · cases h
theorem ne_same {x : D} {p : PyData} (h : pdM m x = some p) : neD m x x = some (.bl false) := by
  unfold neD
  rw [h]
  show some (D.bl (!PyData.eqv p p)) = _
  rw [PySem.SeqAt.eqv_refl p (pdM_lay h)]
  rfl
theorem pdL_ints : ∀ is : List Int, pdL (is.map D.int) = some (is.map PyData.int)
  | [] => rfl
  | i :: is => by rw [List.map_cons, pdL, pd, pdL_ints is]; rfl
theorem pureL_ints : ∀ is : List Int, pureL (is.map D.int) = true
  | [] => rfl
  | i :: is => by rw [List.map_cons, pureL, pureD, pureL_ints is]; rfl
theorem lay_ints : ∀ is : List Int, PyData.canLayAll0 (is.map PyData.int) = true ∧ PyData.depthAll (is.map PyData.int) ≤ 1
  | [] => ⟨rfl, by simp [PyData.depthAll]⟩
  | i :: is => by
    obtain ⟨h1, h2⟩ := lay_ints is
    refine ⟨by simp [PyData.canLayAll0, PyData.canLay0, h1], ?_⟩
    simp only [List.map_cons, PyData.depthAll, PyData.depth]
    omega
theorem pdM_li {is : List Int} : pdM m (.lst (is.map .int)) = some (.list (is.map .int)) := by
  obtain ⟨h1, h2⟩ := lay_ints is
  have hd : (PyData.list (is.map .int)).depth ≤ 64 := by simp only [PyData.depth]; omega
  exact pdM_pure (pureL_ints is) (by rw [pd, pdL_ints]; rfl) (by simp [SeqAt.shaped, PyData.canLay0, h1, hd])
end
end L4
namespace L4
open PySem
section
variable {ρ : Ss} {m : M}
theorem w_and_t {x : Bool} {A B : Prop} (h : x = true) (a : A) : (x = true → A) ∧ (x = false → B) := ⟨fun _ => a, fun h' => (by rw [h] at h'; cases h')⟩
theorem w_and_f {x : Bool} {A B : Prop} (h : x = false) (b : B) : (x = true → A) ∧ (x = false → B) := ⟨fun h' => (by rw [h] at h'; cases h'), fun _ => b⟩
theorem w_or_f {x : Bool} {A B : Prop} (h : x = false) (a : A) : (x = false → A) ∧ (x = true → B) := ⟨fun _ => a, fun h' => (by rw [h] at h'; cases h')⟩
theorem w_or_t {x : Bool} {A B : Prop} (h : x = true) (b : B) : (x = false → A) ∧ (x = true → B) := ⟨fun h' => (by rw [h] at h'; cases h'), fun _ => b⟩
theorem WS.mono {f : SF} {P Q : Fl → M → Prop} (h : WS f ρ m P) (k : ∀ r m, P r m → Q r m) : WS f ρ m Q := by
  obtain ⟨r, m1, e, h⟩ := h
  exact ⟨r, m1, e, k r m1 h⟩
theorem lstOf_r {n : Nat} {ds : List D} (h : m[n]? = some (.lst ds)) : lstOf m (.ref n) = some ds := by
  show (m[n]?).bind lstO = _
  rw [h]
  rfl
end
end L4
namespace L4
open PySem PySem.Spec PyProof.Rows L2
mutual
/-- no list, no dict, nothing tracked -/
def noLd : D → Bool
  | .tup ds => noLdL ds
  | .scr ds => noLdL ds
  | .obj _ _ vs => noLdL vs
  | .lst _ => false
  | .dic _ _ => false
  | .ref _ => false
  | .non => true
  | .bl _ => true
  | .int _ => true
  | .str _ => true
  | .glo _ => true
  | .ty _ => true
  | .ptp ds => noLdL ds
def noLdL : List D → Bool
  | [] => true
  | d :: ds => noLd d && noLdL ds
end
/-- a list or a dict that may change -/
def Ll : HO → Prop
  | .lst _ => True
  | .dK _ => True
  | .ext _ => True
  | _ => False
section
variable {X : Cx} {g : G} {T : Tk} {H H' : Hp} {m : M} {pos p : Pos} {e : Expr} {es : List Expr} {k n : Nat} {x c : Str}
structure LentLd (T : Tk) (H H' : Hp) (ν : List Addr) : Prop where
  sub : ∀ a ∈ ν, a ∈ T.ν
  ld : ∀ a ∈ T.ν, a ∉ ν → ∃ u, H' a = some u ∧ Ll u
theorem LentLd.out {ν : List Addr} (h : LentLd T H H' ν) {a : Addr} {v : HO} (n : a ∉ ν) (e : H' a = some v) (hv : ¬ Ll v) : a ∉ T.ν := fun z => by
  obtain ⟨u, h2, h3⟩ := h.ld a z n
  rw [e] at h2
  cases h2
  exact hv h3
mutual
theorem Rep.unlentLd {ν : List Addr} (h : LentLd T H H' ν) : ∀ (d : D) {v : V}, noLd d = true → Rep g (T0 ν) H' d v → Rep g T H' d v
  | .non, _, _, r => by cases r; exact .non
  | .bl _, _, _, r => by cases r; exact .bl _
  | .int _, _, _, r => by cases r; exact .int _
  | .str _, _, _, r => by cases r; exact .str _
  | .glo _, _, _, r => by cases r; exact .glo _
  | .ty _, _, _, r => by cases r; exact .ty _
  | .ref _, _, q, _ => by rw [noLd] at q; cases q
  | .lst _, _, q, _ => by rw [noLd] at q; cases q
  | .dic _ _, _, q, _ => by rw [noLd] at q; cases q
  | .tup ds, _, q, .tup f r => by
    rw [noLd] at q
    refine .tup ?_ (RepL.unlentLd h ds q r)
    rcases f with ⟨n, f⟩ | f
    · exact .inl ⟨by rcases f with f | ⟨_, f⟩ <;> exact h.out n f fun z => z, f⟩
    · exact .inr f
  | .scr ds, _, q, .scr f r => by
    rw [noLd] at q
    refine .scr ?_ (RepL.unlentLd h ds q r)
    rcases f with ⟨n, ob, f⟩ | f
    · exact .inl ⟨h.out n f fun z => z, ob, f⟩
    · exact .inr f
  | .obj c ns vs, _, q, .obj n f e r => by
    rw [noLd] at q
    exact .obj (h.out n f fun z => z) f e (RepL.unlentLd h vs q r)
  | .ptp ds, _, q, .ptp f r => by
    rw [noLd] at q
    obtain ⟨n, o, f, e⟩ := f
    exact .ptp ⟨h.out n f fun z => z, o, f, e⟩ (RepL.unlentLd h ds q r)
theorem RepL.unlentLd {ν : List Addr} (h : LentLd T H H' ν) : ∀ (ds : List D) {vs : List V}, noLdL ds = true → RepL g (T0 ν) H' ds vs → RepL g T H' ds vs
  | [], _, _, r => by cases r; exact .nil
  | d :: ds, _, q, .cons r s => by
    rw [noLdL] at q
    exact .cons (Rep.unlentLd h d (and2 q).1 r) (RepL.unlentLd h ds (and2 q).2 s)
end
/-- nothing tracked is an instance -/
def noIns (m : M) : Bool := m.all fun o => match o with
  | .ins _ _ _ => false
  | _ => true
theorem noIns_ld (hm : RepH g T H m) (h : noIns m = true) {a : Addr} (ha : a ∈ T.μ) : ∃ u, H a = some u ∧ Ll u := by
  obtain ⟨i, hi, rfl⟩ := List.getElem_of_mem ha
  have hl : i < m.length := by rw [← hm.len]; exact hi
  have h1 := hm.at_ i _ _ (List.getElem?_eq_getElem hi) (List.getElem?_eq_getElem hl)
  have h2 := List.all_eq_true.mp h m[i] (List.getElem_mem hl)
  revert h1 h2
  generalize m[i] = o
  intro h1 h2
  cases h1 with
  | lst h r => exact ⟨_, h, trivial⟩
  | dicF h r q => exact ⟨_, h, trivial⟩
  | dicN h k r q => exact ⟨_, h, trivial⟩
  | ins h k r => cases h2
def callK (F : List D → Option D) (m : M) (ds : List D) : Option D := if pureL ds then F ds else if noIns m then match mapO (frz m) ds with
    | some es => match F es with
      | some d => if noLd d then some d else none
      | none => none
    | none => none
  else none
open Classical in
theorem lent_of (hm : RepH g T H m) (h : noIns m = true) : ∃ ν : List Addr, (∀ a ∈ ν, a ∈ T.ν) ∧ (∀ a ∈ T.μ, a ∉ ν) ∧ ∀ H' : Hp, (∀ a u, H a = some u → H' a = some u) → LentLd T H H' ν := by
  refine ⟨T.ν.filter fun a => decide (∀ u, H a = some u → ¬ Ll u), fun a h => (List.mem_filter.mp h).1, fun a ha hn => ?_, fun H' up => ⟨fun a h => (List.mem_filter.mp h).1, fun a ha hna => ?_⟩⟩
  · obtain ⟨u, hu, hl⟩ := noIns_ld hm h ha
    exact (of_decide_eq_true (List.mem_filter.mp hn).2) u hu hl
  · apply Classical.byContradiction
    intro hno
    apply hna
    exact List.mem_filter.mpr ⟨ha, decide_eq_true fun u hu hdu => hno ⟨u, up a u hu, hdu⟩⟩
theorem rf_callK {F : List D → Option D} (hn : ∀ ds d, F ds = some d → ds.length = n) : RfC g (fun vs H Q => spP g n F vs H Q E0) (callK F) := by
  intro T H m xs vs d hm r hf Q k
  unfold callK at hf
  split at hf
  · next hp =>
    refine ⟨by rw [← r.length]; exact hn _ _ hf, T.ν, xs, d, hm.has, RepL.pure (fun _ h => h) _ hp r, hf, fun v H' up rv => ?_⟩
    obtain ⟨l, hm'⟩ := hm.grow up
    exact k v T H' l hm' (Rep.lift _ rv)
  · obtain ⟨hi, hf⟩ := ite_some hf
    split at hf
    · next es h1 =>
      split at hf
      · next d' h2 =>
        obtain ⟨hg, hf⟩ := ite_some hf
        cases hf
        obtain ⟨ν, hν, hμ, lent⟩ := lent_of hm hi
        have re : RepL g (T0 ν) H es vs := r.mapO (fun d e v h q => frz_ok hm hν hμ h q) h1
        refine ⟨by rw [← re.length]; exact hn _ _ h2, ν, es, d, fun a h => hm.has a (hν a h), re, h2, fun v H' up rv => ?_⟩
        obtain ⟨l, hm'⟩ := hm.grow up
        exact k v T H' l hm' (Rep.unlentLd (lent H' up) _ hg rv)
      · cases hf
    · cases hf
theorem de_pfnK {F : List D → Option D} {f : AF} (hF : PFn X.prog X.w X.K X.mg X.base k x n F) (gd : Gd k X) (hg : Gl X x) (ha : DA X (e :: es) f) (hdb : (x == ("__debug__" : Str)) = false := by decide)
    (he : starEach (e :: es) X.env = (false, eval e X.env) :: starEach es X.env := by rfl) (hpl : (backTo pos (starEach es X.env)).any (·.1) = false := by rfl) : DE X (.Call (.Name x p) (e :: es) [] pos) (eCall (callK F) f) := by
  obtain ⟨fa, fd, ps, G, hm, kp, b⟩ := hF.ex
  obtain ⟨t, pa, ra⟩ := ha.ex
  exact ⟨_, pe_callR (app_nil (r := fun _ _ _ => True) (G.call gd b .nil)) hg hm kp pa hdb he hpl, rf_call (rf_callK hF.len) ra⟩
end
end L4
namespace L4
open PySem
theorem str_ext {a b : Str} (h : a.cps.toList = b.cps.toList) : a = b := by
  cases a; cases b
  congr 1
  exact Array.ext' h
theorem catS_l (a b : Str) : (catS a b).cps.toList = a.cps.toList ++ b.cps.toList := rfl
theorem joinT_l (a : Str) (ys : List Str) : (joinT a ys).cps.toList = TL.joinL a.cps.toList (ys.map fun y => y.cps.toList) := rfl
theorem spl1_word (c : Nat) : ∀ w : List Nat, c ∉ w → spl1 c w = [w]
  | [], _ => rfl
  | x :: w, h => by
    have hx : ¬ x = c := fun e => h (by simp [e])
    have ih := spl1_word c w fun e => h (List.mem_cons_of_mem _ e)
    unfold spl1
    rw [if_neg hx, ih]
theorem spl1_cons (c : Nat) (r : List Nat) : ∀ w : List Nat, c ∉ w → spl1 c (w ++ c :: r) = w :: spl1 c r
  | [], _ => by rw [List.nil_append]; conv => lhs; unfold spl1; rw [if_pos rfl]
  | x :: w, h => by
    have hx : ¬ x = c := fun e => h (by simp [e])
    have ih := spl1_cons c r w fun e => h (List.mem_cons_of_mem _ e)
    rw [List.cons_append]
    conv => lhs; unfold spl1
    rw [if_neg hx, ih]
theorem spl1_join (c : Nat) : ∀ ws : List (List Nat), ws ≠ [] → (∀ w ∈ ws, c ∉ w) → spl1 c (TL.joinL [c] ws) = ws
  | [], h, _ => absurd rfl h
  | [w], _, h => spl1_word c w (h w List.mem_cons_self)
  | w :: v :: ws, _, h => by
    have ih := spl1_join c (v :: ws) (by simp) fun u hu => h u (List.mem_cons_of_mem _ hu)
    show spl1 c (w ++ ([c] ++ TL.joinL [c] (v :: ws))) = _
    rw [List.singleton_append, spl1_cons c _ w (h w List.mem_cons_self), ih]
theorem mk_toList (y : Str) : (⟨y.cps.toList.toArray⟩ : Str) = y := by cases y; simp
/-- a text joined of words without a sign is split at it into these words -/
theorem split_join {a : Str} {c : Nat} (ha : a.cps.toList = [c]) {ws : List Str} (hne : ws ≠ []) (h : ∀ w ∈ ws, c ∉ w.cps.toList) : splitS (joinT a ws) c = ws := by
  unfold splitS
  rw [joinT_l, ha, spl1_join c _ (by simpa using hne) (fun w hw => by
    obtain ⟨y, hy, rfl⟩ := List.mem_map.mp hw
    exact h y hy), List.map_map]
  conv => rhs; rw [← List.map_id ws]
  exact List.map_congr_left fun y _ => mk_toList y
theorem joinL_len (c : Nat) : ∀ ws : List (List Nat), (TL.joinL [c] ws).length ≤ (ws.map fun w => w.length + 1).sum
  | [] => by simp [TL.joinL]
  | [w] => by simp [TL.joinL]
  | w :: v :: ws => by
    have ih := joinL_len c (v :: ws)
    show (w ++ ([c] ++ TL.joinL [c] (v :: ws))).length ≤ _
    simp only [List.length_append, List.length_singleton, List.map_cons, List.sum_cons] at ih ⊢
    omega
theorem slen (x : Str) : x.length = x.cps.toList.length := by
  cases x
  simp [Str.length]
theorem txts_map : ∀ ws : List Str, txts (ws.map D.str) = some ws
  | [] => rfl
  | w :: ws => by
    show (txts (ws.map D.str)).map (w :: ·) = _
    rw [txts_map ws]
    rfl
section
variable {m : M} {Q : D → Prop} {ρ : Ss}
/-- ' '.join of words -/
theorem Kn.join {a : Str} {y : D} {ws : List Str} (hy : seqD m y = some (ws.map D.str)) (hz : (ws.map (·.length)).sum + ws.length * a.length ≤ 16777216) (q : Q (.str (joinT a ws))) : Kn (joinD m (.str a) y) Q := ⟨_, by
  show ((seqD m y).bind txts).bind (joinS a) = _
  rw [hy]
  show (txts (ws.map D.str)).bind (joinS a) = _
  rw [txts_map]
  exact if_pos hz, q⟩
theorem Kn.split {a b : Str} {c : Nat} {ws : List Str} (hb : b.cps.toList = [c]) (hc : c < 256) (ha : a.length + 2 ≤ sizeLine) (e : splitS a c = ws) (q : Q (.lst (ws.map D.str))) : Kn (splitD m (.str a) (.str b)) Q := ⟨_, by
  show (match b.cps.toList with
    | [c] => if c < 256 ∧ a.length + 2 ≤ sizeLine then some (D.lst ((splitS a c).map .str)) else none
    | _ => none) = _
  rw [hb]
  show (if c < 256 ∧ a.length + 2 ≤ sizeLine then some (D.lst ((splitS a c).map .str)) else none) = _
  rw [if_pos ⟨hc, ha⟩, e], q⟩
theorem WE.m1 {F : M → D → D → Option D} {a b : EF} {Q : D → M → Prop} (h : WE a ρ m fun x m1 => ∃ z, x = .str z ∧ WE b ρ m1 fun y m2 => Kn (F m2 (.str z) y) fun d => Q d m2) : WE (eM1 F a b) ρ m Q := by
  obtain ⟨x, m1, e1, z, rfl, y, m2, e2, d, e3, q⟩ := h
  refine ⟨d, m2, ?_, q⟩
  unfold eM1
  rw [e1]
  show bd (b ρ m1) _ = _
  rw [e2]
  show pu (F m2 (.str z) y) m2 = _
  rw [e3]
  rfl
theorem Kn.str_s {x : Str} (q : Q (.str x)) : Kn (strT m [.str x]) Q := ⟨_, rfl, q⟩
end
end L4
namespace L4
open PySem
section
variable {m : M} {ρ : Ss} {Q : D → M → Prop}
theorem WE.newPL {i : Nat} {c : Str} {F : List D → M → Option (D × M)} {a : AF} (h0 : ρ.getD i none = some (.glo c)) (h : WA a ρ m fun xs m1 => Kn (pureC (newP c F) m1 xs) fun d => Q d m1) : WE (eNewPL i c F a) ρ m Q := by
  obtain ⟨d, m1, e, q⟩ := WE.call h
  refine ⟨d, m1, ?_, q⟩
  unfold eNewPL
  rw [h0]
  show (if c = c then eCall (pureC (newP c F)) a ρ m else none) = _
  rw [if_pos rfl]
  exact e
theorem WE.tbl {tb : List (Str × D)} {a : EF} (h : WE a ρ m fun y m1 => Kn (tblGet tb y) fun d => Q d m1) : WE (eTbl tb a) ρ m Q :=
  Wr.bd (by obtain ⟨y, m1, e, h⟩ := h; exact ⟨y, m1, e, Wr.pu h⟩)
theorem WE.tblNin {tb : List (Str × D)} {a : EF} (h : WE a ρ m fun y m1 => ∃ z, y = .str z ∧ Q (.bl (!(tb.lookup z).isSome)) m1) : WE (eTblNin tb a) ρ m Q :=
  Wr.bd (by obtain ⟨y, m1, e, z, rfl, h⟩ := h; exact ⟨_, m1, e, _, m1, rfl, h⟩)
/-- [e for x in xs], nothing drawn, over plain data -/
theorem WE.lcM {it : AF} {i : Nat} {e : EF} {α : Type} (enc f : α → D) {xs : List α} (hi : WI it ρ m fun ys m1 => ys = xs.map enc ∧ m1 = m) (hl : xs.length ≤ 1000000) (h : ∀ x ∈ xs, WE e (ρ.set i (some (enc x))) m fun v m1 => v = f x ∧ m1 = m) (q : Q (.lst (xs.map f)) m) : WE (eLcK false it (.one i) tTrue e) ρ m Q := by
  obtain ⟨ys, m1, e1, rfl, rfl⟩ := hi
  refine WE.lcK ⟨_, m1, e1, by simpa using hl, ?_⟩
  have := comp_pure (t := .one i) (c := tTrue) (e := e) (ρ := ρ) (m := m1) enc (fun _ => true) f xs fun x hx => by
    obtain ⟨v, m2, e2, rfl, rfl⟩ := h x hx
    exact ⟨[enc x], rfl, rfl, fun _ => e2⟩
  rw [List.filter_eq_self.mpr (fun _ _ => rfl)] at this
  exact ⟨_, m1, this, q⟩
theorem in_non {is : List Int} : inA m .non (.lst (is.map .int)) = some (.bl false) := by
  have e : inAB m .non (.lst (is.map .int)) = some false := by
    show inB m .non (.lst (is.map .int)) = _
    have h0 : pdM m .non = some .none := pdM_pure rfl rfl rfl
    show (match pdM m .non, pdM m (.lst (is.map .int)) with
      | some a, some (.tuple ds) => some (ds.any fun z => PyData.eqv z a)
      | some a, some (.list ds) => some (ds.any fun z => PyData.eqv z a)
      | _, _ => none) = _
    rw [pdM_li, h0]
    show some ((is.map PyData.int).any fun z => PyData.eqv z .none) = _
    congr 1
    induction is with
    | nil => rfl
    | cons j is ih => rw [List.map_cons, List.any_cons, ih]; rfl
  unfold inA
  rw [e]
  rfl
end
end L4
namespace L4
open PySem
section
variable {m : M} {ρ : Ss} {Q : D → M → Prop}
/-- {k: e, ..} -/
def WP (ps : List (EF × EF)) (ρ : Ss) (m : M) (Q : List (D × D) → M → Prop) : Prop := Wr (pairsF ps ρ m) Q
theorem WP.nil {Q : List (D × D) → M → Prop} (q : Q [] m) : WP [] ρ m Q := ⟨[], m, rfl, q⟩
theorem WP.cons {a b : EF} {r : List (EF × EF)} {Q : List (D × D) → M → Prop} (h : WE a ρ m fun x m1 => WE b ρ m1 fun y m2 => WP r ρ m2 fun ps m3 => Q ((x, y) :: ps) m3) : WP ((a, b) :: r) ρ m Q := by
  obtain ⟨x, m1, e1, y, m2, e2, ps, m3, e3, q⟩ := h
  refine ⟨(x, y) :: ps, m3, ?_, q⟩
  unfold pairsF
  rw [e1]
  show bd (b ρ m1) _ = _
  rw [e2]
  show bd (pairsF r ρ m2) _ = _
  rw [e3]
  rfl
theorem WE.disp {nw : Bool} {ps : List (EF × EF)} (h : WP ps ρ m fun qs m1 => ((qs.all fun q => isFlat q.1) && decide (qs.length ≤ 15)) = true ∧ Q (bif nw then .ref m1.length else .dic (mergeD qs ([], [])).1 (mergeD qs ([], [])).2) (bif nw then m1 ++ [.dic (mergeD qs ([], [])).1 (mergeD qs ([], [])).2] else m1)) : WE (eDisp nw ps) ρ m Q :=
  Wr.bd (by obtain ⟨qs, m1, e, h1, q⟩ := h; exact ⟨qs, m1, e, _, _, (if_pos h1).trans (by cases nw <;> rfl), q⟩)
/-- d.update(e) -/
theorem WE.upd {a b : EF} (h : WE a ρ m fun x m1 => ∃ n, x = .ref n ∧ (∃ ks0 vs0, m1[n]? = some (.dic ks0 vs0) ∧ flatL ks0 = true) ∧ WE b ρ m1 fun y m2 => ∃ ks vs ks2 vs2, m2[n]? = some (.dic ks vs) ∧ y = .dic ks2 vs2 ∧ (flatL ks && flatL ks2 && decide (ks.length + ks2.length ≤ sizeLine) && decide (ks2.length = vs2.length)) = true ∧ Q .non (m2.set n (.dic (mergeD (ks2.zip vs2) (ks, vs)).1 (mergeD (ks2.zip vs2) (ks, vs)).2))) : WE (eUpd a b) ρ m Q := by
  obtain ⟨x, m1, e1, n, rfl, ⟨ks0, vs0, h0, hf0⟩, y, m2, e2, ks, vs, ks2, vs2, h1, rfl, h2, q⟩ := h
  refine ⟨.non, _, ?_, q⟩
  unfold eUpd
  rw [e1]
  show (match m1[n]? with
    | some (.dic ks0 _) => if flatL ks0 then bd (b ρ m1) fun y m2 => match m2[n]?, y with
        | some (.dic ks vs), .dic ks2 vs2 => if flatL ks && flatL ks2 && decide (ks.length + ks2.length ≤ sizeLine) && decide (ks2.length = vs2.length) then some (D.non, m2.set n (.dic (mergeD (ks2.zip vs2) (ks, vs)).1 (mergeD (ks2.zip vs2) (ks, vs)).2)) else none
        | _, _ => none
      else none
    | _ => none) = _
  rw [h0]
  show (if flatL ks0 then bd (b ρ m1) _ else none) = _
  rw [if_pos hf0, e2]
  show (match m2[n]?, D.dic ks2 vs2 with
        | some (.dic ks vs), .dic ks2 vs2 => if flatL ks && flatL ks2 && decide (ks.length + ks2.length ≤ sizeLine) && decide (ks2.length = vs2.length) then some (D.non, m2.set n (.dic (mergeD (ks2.zip vs2) (ks, vs)).1 (mergeD (ks2.zip vs2) (ks, vs)).2)) else none
        | _, _ => none) = _
  rw [h1]
  exact if_pos h2
theorem WE.chain {f h : M → D → D → Option D} {a b c : EF} (q : WE a ρ m fun x m1 => WE b ρ m1 fun y m2 => Kn (f m2 x y) fun d => ∃ v, d = .bl v ∧ (v = true → WE c ρ m2 fun z m3 => Kn (h m3 y z) fun d2 => Q d2 m3) ∧ (v = false → Q (.bl false) m2)) : WE (eChain f h a b c) ρ m Q := by
  obtain ⟨x, m1, e1, y, m2, e2, d, e3, v, rfl, q1, q2⟩ := q
  unfold eChain WE
  show Wr (bd (a ρ m) _) Q
  rw [e1]
  show Wr (bd (b ρ m1) _) Q
  rw [e2]
  show Wr (match f m2 x y with
    | some (.bl true) => bd (c ρ m2) fun z m3 => pu (h m3 y z) m3
    | some (.bl false) => some (.bl false, m2)
    | _ => none) Q
  rw [e3]
  cases v
  · exact ⟨_, m2, rfl, q2 rfl⟩
  · obtain ⟨z, m3, e4, d2, e5, q⟩ := q1 rfl
    refine ⟨d2, m3, ?_, q⟩
    show bd (c ρ m2) _ = _
    rw [e4]
    show pu (h m3 y z) m3 = _
    rw [e5]
    rfl
end
end L4
namespace L4
open PySem
section
variable {m : M} {Q : D → Prop}
theorem ix_dp {ks vs : List D} {y x : D} (e : (if headOk ks y then dGet ks vs y else none) = some x) : ixA m (.dic ks vs) y = some x := by
  have e1 : dicOf m (.dic ks vs) = some (ks, vs) := rfl
  unfold ixA
  rw [e1]
  exact e
theorem Kn.callK {F : List D → Option D} {xs ys : List D} {d : D} (hp : pureL xs = false) (hi : noIns m = true) (hz : mapO (frz m) xs = some ys) (e : F ys = some d) (hg : noLd d = true) (q : Q d) : Kn (callK F m xs) Q := ⟨d, by
  unfold L4.callK
  rw [hp, hz]
  simp only [Bool.false_eq_true, if_false, hi, if_true, e, hg], q⟩
end
end L4
namespace L4
open PySem
section
variable {m : M} {ρ : Ss}
/-- a loop with an invariant that counts down -/
theorem WS.whileI {c : TF} {b : SF} {Q : Fl → M → Prop} (I : Nat → Ss → M → Prop) : ∀ (k w : Nat) (ρ : Ss) (m : M), k < w → I k ρ m →
    (∀ k ρ m, I k ρ m → WT c ρ m fun x m1 => (x = true → WS b ρ m1 fun r m2 => (∃ ρ2 k2, (r = .nx ρ2 ∨ r = .ct ρ2) ∧ k2 < k ∧ I k2 ρ2 m2) ∨ (∃ d, r = .rt d ∧ Q (.rt d) m2) ∨ ∃ ρ2, r = .bk ρ2 ∧ Q (.nx ρ2) m2) ∧ (x = false → Q (.nx ρ) m1)) → WS (sWhile w c b) ρ m Q
  | k, 0, _, _, hw, _, _ => by omega
  | k, w + 1, ρ, m, hw, hI, hs => by
    obtain ⟨x, m1, e1, h1, h2⟩ := hs k ρ m hI
    unfold WS sWhile
    show Wr (bd (c ρ m) _) Q
    rw [e1]
    cases x
    · exact ⟨_, m1, rfl, h2 rfl⟩
    · obtain ⟨r, m2, e2, h⟩ := h1 rfl
      show Wr (bd (b ρ m1) _) Q
      rw [e2]
      rcases h with ⟨ρ2, k2, hr, hk, hI2⟩ | ⟨d, rfl, q⟩ | ⟨ρ2, rfl, q⟩
      · have ih := WS.whileI (c := c) (b := b) I k2 w ρ2 m2 (by omega) hI2 hs
        rcases hr with rfl | rfl <;> exact ih
      · exact ⟨_, m2, rfl, q⟩
      · exact ⟨_, m2, rfl, q⟩
end
end L4
namespace L4
open PySem
section
variable {m : M} {ρ : Ss} {Q : D → M → Prop}
/-- a field of an object -/
def Fld (m : M) (x : D) (cs : List Str) (f : Str) (Q : D → Prop) : Prop := ∃ c ns vs v, insOf m x = some (c, ns, vs) ∧ cs.contains c = true ∧ fldAt ns vs f = some v ∧ Q v
theorem WE.fldF {cs : List Str} {f : Str} {o : EF} (h : WE o ρ m fun x m1 => Fld m1 x cs f fun v => Q v m1) : WE (eFld cs f o) ρ m Q := by
  obtain ⟨x, m1, e, c, ns, vs, v, h1, h2, h3, q⟩ := h
  refine ⟨v, m1, ?_, q⟩
  unfold eFld
  rw [e]
  show (match insOf m1 x with
    | some (c, ns, vs) => if cs.contains c = true then pu (fldAt ns vs f) m1 else none
    | none => none) = _
  rw [h1]
  show (if cs.contains c = true then pu (fldAt ns vs f) m1 else none) = _
  rw [if_pos h2, h3]
  rfl
end
end L4
namespace L4
open PySem
section
variable {m : M} {ρ : Ss} {Q : D → M → Prop}
/-- o.m(..), an object's method on plain data -/
theorem WE.mth {c nm : Str} {F : M → List D → Option D} {o : EF} {a : AF} (h : WE o ρ m fun x m1 => ∃ ns vs, insOf m1 x = some (c, ns, vs) ∧ ns.contains nm = false ∧ WA a ρ m1 fun xs m2 => Kn (F m2 (x :: xs)) fun d => Q d m2) : WE (eMth c nm F o a) ρ m Q := by
  obtain ⟨x, m1, e, ns, vs, h1, h2, xs, m2, e2, d, e3, q⟩ := h
  refine ⟨d, m2, ?_, q⟩
  unfold eMth
  rw [e]
  show (match insOf m1 x with
    | some (c', ns, _) => if c' = c ∧ ns.contains nm = false then bd (a ρ m1) fun xs m2 => pu (F m2 (x :: xs)) m2 else none
    | none => none) = _
  rw [h1]
  show (if c = c ∧ ns.contains nm = false then bd (a ρ m1) fun xs m2 => pu (F m2 (x :: xs)) m2 else none) = _
  rw [if_pos ⟨rfl, h2⟩, e2]
  show pu (F m2 (x :: xs)) m2 = _
  rw [e3]
  rfl
end
end L4
namespace L4
open PySem PySem.Spec PyProof.Rows L2
section
variable {X : Cx} {g : G} {T T' : Tk} {H : Hp} {m : M} {Q : VK} {pos p : Pos} {e : Expr} {ks vs : List D} {kvs : List (Key × V)}
def dicW (m : M) : D → Option (List D × List D)
  | .ref n => match m[n]? with
    | some (.dic ks vs) => if flatL ks then some (ks, vs) else none
    | _ => none
  | .dic ks vs => if flatL ks then some (ks, vs) else none
  | _ => none
/-- a new dict that stays as it is -/
theorem KV.dicF (k : KV g T H m (.dic ks vs) Q) (hm : RepH g T H m) (r1 : RepL g T H ks (kvs.map fun p => kV p.1)) (r2 : RepL g T H vs (kvs.map Prod.snd)) (p : Addr) (hp : H p = none) : Q (.ref p) (upd H p (.dK kvs)) := by
  obtain ⟨l, hm'⟩ := hm.fresh (u := .dK kvs) hp
  exact k _ T _ l hm' (.dicF (fun z => hm.nope hp z) (.inl upd_same) (r1.le l) (r2.le l))
def eDicC (nw : Bool) (a : EF) : EF := fun ρ m => bd (a ρ m) fun x m1 => match dicW m1 x with
  | some (ks, vs) => some (bif nw then (.ref m1.length, m1 ++ [.dic ks vs]) else (.dic ks vs, m1))
  | none => none
end
end L4
namespace L4
open PySem
section
variable {m : M} {ρ : Ss} {Q : D → M → Prop}
theorem WE.dicC {nw : Bool} {a : EF} (h : WE a ρ m fun x m1 => Kn (dicW m1 x) fun p => Q (bif nw then D.ref m1.length else D.dic p.1 p.2) (bif nw then m1 ++ [O.dic p.1 p.2] else m1)) : WE (eDicC nw a) ρ m Q := by
  obtain ⟨x, m1, e, ⟨ks, vs⟩, e2, q⟩ := h
  refine ⟨_, _, ?_, q⟩
  unfold eDicC
  rw [e]
  show (match dicW m1 x with
    | some (ks, vs) => some (bif nw then (D.ref m1.length, m1 ++ [O.dic ks vs]) else (D.dic ks vs, m1))
    | none => none) = _
  rw [e2]
  cases nw <;> rfl
end
end L4
namespace L4
open PySem PySem.Spec PyProof.Rows L2
section
variable {X : Cx} {g : G} {T T' : Tk} {H : Hp} {m : M} {Q : VK} {k n : Nat} {c : Str} {F : List D → Option D}
/-- x == y of two objects of the class c -/
def eqO (c : Str) (F : List D → Option D) (m : M) (x y : D) : Option Bool := match insOf m x, insOf m y with
  | some (c1, _, _), some (c2, _, _) => if c1 = c ∧ c2 = c then match callP F m [x, y] with
    | some (.bl b) => some b
    | _ => none
    else none
  | _, _ => none
end
end L4
namespace L4
open PySem PySem.Spec PyProof.Rows L2
section
variable {X : Cx} {g : G} {T : Tk} {H : Hp} {m : M} {Q : VK} {pos apos cpos : Pos}
/-- a tuple that is known to the object -/
def Kt (H : Hp) (a : Addr) (vs : List V) : Prop := ∃ ob : Obj, H a = some (.frz ob (.tup vs)) ∧ ob.dict = none
theorem Kt.new {H : Hp} {p : Addr} {ob : Obj} {vs : List V} (h : ob.dict = none) : Kt (upd H p (.frz ob (.tup vs))) p vs := ⟨ob, upd_same, h⟩
theorem Kt.rd {a : Addr} {vs : List V} (h : Kt H a vs) : Rd H a (.tup vs) := by obtain ⟨ob, h, _⟩ := h; exact .inr ⟨ob, h⟩
end
section
variable {X : Cx} {T T' : Tk} {H H' : Hp} {m : M} {g : G}
theorem Kt.le {a : Addr} {vs : List V} (k : Kt H a vs) (l : Le T H T' H') (n : a ∉ T.μ) : Kt H' a vs := by
  obtain ⟨ob, h, d⟩ := k
  exact ⟨ob, l.keep _ _ h n, d⟩
theorem SqT.fresh {K : PySem.W.Frag} {a c : Addr} {vs : List V} {u : HO} (h : SqT K H a vs) (hc : H c = none) : SqT K (upd H c u) a vs := by
  rcases h with (h | ⟨ob, h⟩) | h
  · exact .inl (.inl (by rw [upd_ne (ne_of_none h hc)]; exact h))
  · exact .inl (.inr ⟨ob, by rw [upd_ne (ne_of_none h hc)]; exact h⟩)
  · exact .inr h
end
end L4
namespace L4
open PySem PySem.Spec PyProof.Rows L2
section
variable {X : Cx} {g : G} {T : Tk} {H H' : Hp} {m : M} {e tg iter elt : Expr} {ifs : List Expr} {pos : Pos}
def isNotD (m : M) (x y : D) : Option D := match x, y with
  | .bl a, .bl b => some (.bl (!decide (a = b)))
  | _, _ => none
theorem op_isNot' : OpD X (compareOp .IsNot) isNotD := ⟨_, op_notBl, fun T H m x y v u d hm rx ry hf Q k => by
  cases rx <;> cases ry <;> first | (cases hf; exact ⟨_, _, rfl, rfl, k _ T H .refl hm (.bl _)⟩) | (cases hf; done)⟩
end
end L4
namespace L4
open PySem PySem.Spec PyProof.Rows L2
section
variable {X : Cx} {g : G} {T T' : Tk} {H : Hp} {m : M} {Q : VK} {pos p apos : Pos} {e o : Expr} {es : List Expr} {k n : Nat} {x c nm : Str}
def newG (F : List D → Option D) (m : M) (ds : List D) : Option D := if pureL ds then F ds else match mapO (frz m) ds with
  | some es => match F es with
    | some (.obj c ns vs) => if groundL vs then some (.obj c ns vs) else none
    | _ => none
  | none => none
theorem rf_newG {F : List D → M → Option (D × M)} (hn : ∀ ds m r, F ds m = some r → ds.length = n) :
    RfC g (fun vs H Q => ∀ x dx, H x = none → H dx = none → dx ≠ x → spM g n F (.ref x :: vs) (upd (upd H dx (.own x)) x (.ins (He.ga g.K c) dx [])) (fun v H2 => v = .non ∧ Q (.ref x) H2) E0) (newG (newP c F)) := by
  intro T H m xs vs d hm r hf Q k x dx hx hdx hne
  unfold newG at hf
  split at hf
  · next hp =>
    have hf' : pureC (newP c F) m xs = some d := by unfold pureC; rw [if_pos hp]; exact hf
    exact rf_newP hn T H m xs vs d hm r hf' Q k x dx hx hdx hne
  · split at hf
    · next es h1 =>
      split at hf
      · next c' ns ws h2 =>
        obtain ⟨hg, hf⟩ := ite_some hf
        cases hf
        unfold newP at h2
        split at h2
        · next m2 hF =>
          have up : ∀ a u, H a = some u → upd (upd H dx (.own x)) x (.ins (He.ga g.K c) dx []) a = some u := fun a u e => by
            rw [upd_ne (ne_of_none e hx), upd_ne (ne_of_none e hdx)]; exact e
          have nx : x ∉ T.ν := hm.nope hx
          let Tc : Tk := ⟨[x], [x], fun a h => h⟩
          have hmc : RepH g Tc (upd (upd H dx (.own x)) x (.ins (He.ga g.K c) dx [])) [.ins c [] []] := by
            refine ⟨rfl, by simp [Tc], fun a ha => ?_, fun i a o h1 h2 => ?_⟩
            · rw [List.mem_singleton.mp ha]
              exact ⟨_, upd_same, trivial⟩
            · cases i with
              | zero => cases h1; cases h2; exact .ins upd_same rfl .nil
              | succ i => cases h2
          have re : RepL g (T0 []) H es vs := r.mapO (fun d e v h q => frz_ok hm (fun a h => (List.not_mem_nil h).elim) (fun a _ h => (List.not_mem_nil h).elim) h q) h1
          have rc : RepL g Tc (upd (upd H dx (.own x)) x (.ins (He.ga g.K c) dx [])) es vs := by
            have l0 : Le (T0 []) H ⟨[], [x], fun a h => nomatch h⟩ (upd (upd H dx (.own x)) x (.ins (He.ga g.K c) dx [])) := ⟨List.prefix_rfl, fun a u e _ => up a u e, fun a ha n => by
              rw [List.mem_singleton.mp ha]
              exact hx, fun a h n => (nomatch h), fun a h => nomatch h⟩
            exact RepL.lift (T := Tc) _ (re.le l0)
          refine ⟨by have := hn _ _ _ hF; rw [← this]; simp [re.length], Tc, _, .ref 0 :: es, .non, m2, hmc, .cons (.ref rfl) rc, hF, fun v T2 H2 l2 hm2 rv => ?_⟩
          cases rv
          refine ⟨rfl, ?_⟩
          have upH : ∀ a u, H a = some u → H2 a = some u := fun a u e => l2.keep a u (up a u e) fun z => by
            rw [List.mem_singleton.mp z] at e
            rw [hx] at e
            cases e
          obtain ⟨l3, hm3⟩ := hm.grow upH
          have rz : Rep g T2 H2 (.ref 0) (.ref x) := .ref (l2.get (n := 0) rfl)
          have rn : Rep g (T0 []) H2 (.obj c' ns ws) (.ref x) := frz_ok hm2 (ν := []) (fun a h => nomatch h) (fun a _ h => nomatch h) h2 rz
          refine k _ T H2 l3 hm3 ?_
          cases rn with
          | obj nf f e rl => exact .obj nx f e (RepL.ground hm3.has ws hg rl)
        · cases h2
      · cases hf
    · cases hf
theorem de_newG {F : List D → M → Option (D × M)} {f : AF} (hF : MNw X.prog X.w X.K X.mg X.base k c n F) (gd : Gd (k + 1) X) (hg : Gl X c) (ha : DA X (e :: es) f) (hdb : (c == ("__debug__" : Str)) = false := by decide)
    (he : starEach (e :: es) X.env = (false, eval e X.env) :: starEach es X.env := by rfl) (hpl : (backTo pos (starEach es X.env)).any (·.1) = false := by rfl) : DE X (.Call (.Name c p) (e :: es) [] pos) (eCall (newG (newP c F)) f) := by
  obtain ⟨fa, fd, ps, G, M, b⟩ := hF.ex
  obtain ⟨t, pa, ra⟩ := ha.ex
  exact ⟨_, pe_callR (G.make M gd b) hg hF.mgC M.kp pa hdb he hpl, rf_call (rf_newG hF.len) ra⟩
theorem Kn.newG {F : List D → Option D} {xs ys vs : List D} {c : Str} {ns : List Str} (hp : pureL xs = false) (hz : mapO (frz m) xs = some ys) (e : F ys = some (.obj c ns vs)) (hg : groundL vs = true) {Q : D → Prop} (q : Q (.obj c ns vs)) : Kn (L4.newG F m xs) Q := ⟨_, by
  unfold L4.newG
  rw [hp, hz]
  simp only [Bool.false_eq_true, if_false, e, hg, if_true], q⟩
end
end L4
namespace L4
open PySem PySem.Spec PyProof.Rows L2
def upD : D → D
  | .ptp ds => .tup ds
  | d => d
section
variable {X : Cx} {g : G} {T T' : Tk} {H H' : Hp} {m : M} {Q : VK} {pos p apos cpos : Pos} {e o : Expr} {es : List Expr} {k n : Nat} {x c nm : Str}
def eUp (a : EF) : EF := fun ρ m => bd (a ρ m) fun x m1 => some (upD x, m1)
end
end L4
namespace L4
open PySem PySem.Spec PyProof.Rows L2
section
variable {X : Cx} {g : G} {T T' : Tk} {H H' : Hp} {m : M} {Q : VK} {pos p apos cpos : Pos} {e o : Expr} {es : List Expr} {k n : Nat} {x c nm : Str}
def pairD : D → Option (D × D)
  | .tup [k, v] => some (k, v)
  | _ => none
def pairsD : List D → Option (List (D × D))
  | [] => some []
  | d :: ds => match pairD d, pairsD ds with
    | some q, some qs => some (q :: qs)
    | _, _ => none
def srcD (m : M) : D → Option (List D)
  | .ptp ds => some ds
  | x => lstR m x
def mgD (qs : List (D × D)) : List D × List D := mergeD qs ([], [])
def eDicP (nw : Bool) (a : EF) : EF := fun ρ m => bd (a ρ m) fun x m1 => match (srcD m1 x).bind pairsD with
  | some qs => if ((qs.all fun q => isFlat q.1) || qs.all fun q => (nkT q.1).isSome) && decide (qs.length ≤ sizeLine) then some (bif nw then (.ref m1.length, m1 ++ [.dic (mgD qs).1 (mgD qs).2]) else (.dic (mgD qs).1 (mgD qs).2, m1)) else none
  | none => none
end
end L4
namespace L4
open PySem PySem.Spec PyProof.Rows L2
section
variable {X : Cx} {g : G} {T T' : Tk} {H H' : Hp} {m : M} {Q : VK} {pos p apos cpos : Pos} {e o : Expr} {es : List Expr} {k n : Nat} {x c nm : Str}
/-- a new tuple that is held as it is -/
theorem KV.ptp {ds : List D} {xs : List V} (k : KV g T H m (.ptp ds) Q) (hm : RepH g T H m) (rl : RepL g T H ds xs) (q : Addr) (hq : H q = none) (o : Obj) (ho : o.dict = none) : Q (.ref q) (upd H q (.frz o (.tup xs))) := by
  obtain ⟨l, hm'⟩ := hm.fresh (u := .frz o (.tup xs)) hq
  exact k _ T _ l hm' (.ptp ⟨hm.nope hq, o, upd_same, ho⟩ (rl.le l))
def eTupA (a : AF) : EF := fun ρ m => bd (a ρ m) fun xs m1 => if xs.length ≤ sizeLine then some (.ptp xs, m1) else none
def eTupL (a : EF) : EF := fun ρ m => bd (a ρ m) fun x m1 => match lstR m1 x with
  | some ds => some (.ptp ds, m1)
  | none => none
end
end L4
namespace L4
open PySem
section
variable {m : M} {ρ : Ss}
theorem WE.up {a : EF} {Q : D → M → Prop} (h : WE a ρ m fun x m1 => Q (upD x) m1) : WE (eUp a) ρ m Q :=
  Wr.bd (by obtain ⟨x, m1, e, h⟩ := h; exact ⟨x, m1, e, _, m1, rfl, h⟩)
theorem WE.upP {i : Nat} {ds : List D} {Q : D → M → Prop} (h : ρ.getD i none = some (.ptp ds)) (q : Q (.tup ds) m) : WE (eUp (eVar i)) ρ m Q := WE.up (WE.var h q)
theorem WE.upT {i : Nat} {ds : List D} {Q : D → M → Prop} (h : ρ.getD i none = some (.tup ds)) (q : Q (.tup ds) m) : WE (eUp (eVar i)) ρ m Q := WE.up (WE.var h q)
theorem WE.upL {i : Nat} {ds : List D} {Q : D → M → Prop} (h : ρ.getD i none = some (.lst ds)) (q : Q (.lst ds) m) : WE (eUp (eVar i)) ρ m Q := WE.up (WE.var h q)
theorem WE.upN {i : Nat} {Q : D → M → Prop} (h : ρ.getD i none = some .non) (q : Q .non m) : WE (eUp (eVar i)) ρ m Q := WE.up (WE.var h q)
theorem WE.tupA {a : AF} {Q : D → M → Prop} (h : WA a ρ m fun xs m1 => xs.length ≤ sizeLine ∧ Q (.ptp xs) m1) : WE (eTupA a) ρ m Q :=
  Wr.bd (by obtain ⟨x, m1, e, h1, h2⟩ := h; exact ⟨x, m1, e, _, m1, if_pos h1, h2⟩)
theorem WE.tupL {a : EF} {Q : D → M → Prop} (h : WE a ρ m fun x m1 => Kn (lstR m1 x) fun ds => Q (.ptp ds) m1) : WE (eTupL a) ρ m Q := by
  obtain ⟨x, m1, e, ds, e2, q⟩ := h
  refine ⟨_, m1, ?_, q⟩
  unfold eTupL
  rw [e]
  show (match lstR m1 x with
    | some ds => some (D.ptp ds, m1)
    | none => none) = _
  rw [e2]
theorem WE.dicP {a : EF} {Q : D → M → Prop} (h : WE a ρ m fun x m1 => Kn ((srcD m1 x).bind pairsD) fun qs => (((qs.all fun q => isFlat q.1) || qs.all fun q => (nkT q.1).isSome) && decide (qs.length ≤ sizeLine)) = true ∧ Q (.dic (mgD qs).1 (mgD qs).2) m1) : WE (eDicP false a) ρ m Q := by
  obtain ⟨x, m1, e, qs, e2, hg, q⟩ := h
  refine ⟨_, m1, ?_, q⟩
  unfold eDicP
  rw [e]
  show (match (srcD m1 x).bind pairsD with
    | some qs => if (((qs.all fun q => isFlat q.1) || qs.all fun q => (nkT q.1).isSome) && decide (qs.length ≤ sizeLine)) = true then some (bif false then (D.ref m1.length, m1 ++ [O.dic (mgD qs).1 (mgD qs).2]) else (D.dic (mgD qs).1 (mgD qs).2, m1)) else none
    | none => none) = _
  rw [e2]
  exact if_pos hg
end
end L4
namespace L4
open PySem PySem.Spec PyProof.Rows L2
section
variable {X : Cx} {g : G} {T : Tk} {H : Hp} {m : M} {pos p apos : Pos} {e e2 o : Expr}
def insL (ds ys : List D) : Option (D × List D) := match ys with
  | [.int i, y] => if ds.length < sizeLine ∧ 0 ≤ i ∧ i < 2 ^ 63 then some (.non, ds.take i.toNat ++ [y] ++ ds.drop i.toNat) else none
  | _ => none
end
section
variable {m : M} {ρ : Ss}
theorem WE.ins {o e1 e2 : EF} {Q : D → M → Prop} (h : WE o ρ m fun x m1 => ∃ n, x = .ref n ∧ (∃ ds0, m1[n]? = some (.lst ds0)) ∧ WE e1 ρ m1 fun i m2 => WE e2 ρ m2 fun y m3 => ∃ (j : Nat) (ds : List D), i = .int (j : Nat) ∧ j < 1000000 ∧ m3[n]? = some (.lst ds) ∧ ds.length < sizeLine ∧ Q .non (m3.set n (.lst (ds.take j ++ [y] ++ ds.drop j)))) : WE (eLm0 (fun _ => insL) o (aCons e1 (aCons e2 aNil))) ρ m Q := by
  obtain ⟨x, m1, e1', n, rfl, ⟨ds0, h0⟩, i, m2, e2', y, m3, e3', j, ds, rfl, hj, h1, h2, q⟩ := h
  refine ⟨.non, _, ?_, q⟩
  unfold eLm0
  rw [e1']
  show (match m1[n]? with
    | some (.lst _) => bd (aCons e1 (aCons e2 aNil) ρ m1) fun ys m2 => match m2[n]? with
      | some (.lst ds) => (insL ds ys).map fun (r : D × List D) => (r.1, m2.set n (.lst r.2))
      | _ => none
    | _ => none) = _
  rw [h0]
  have ea : aCons e1 (aCons e2 aNil) ρ m1 = some ([.int (j : Nat), y], m3) := by
    unfold aCons
    rw [e2']
    show bd (bd (e2 ρ m2) _) _ = _
    rw [e3']
    rfl
  dsimp only
  rw [ea]
  show (match m3[n]? with
    | some (.lst ds) => (insL ds [.int (j : Nat), y]).map fun (r : D × List D) => (r.1, m3.set n (.lst r.2))
    | _ => none) = _
  rw [h1]
  have hi : insL ds [.int (j : Nat), y] = some (.non, ds.take j ++ [y] ++ ds.drop j) := by
    show (if ds.length < sizeLine ∧ 0 ≤ ((j : Nat) : Int) ∧ ((j : Nat) : Int) < 2 ^ 63 then some (D.non, ds.take ((j : Nat) : Int).toNat ++ [y] ++ ds.drop ((j : Nat) : Int).toNat) else none) = _
    rw [if_pos ⟨h2, by omega, by omega⟩, Int.toNat_natCast]
  dsimp only
  rw [hi]
  rfl
end
end L4
namespace L4
open PySem PySem.Spec PyProof.Rows PySem.W L2
section
variable {prog : Program} {w : World} {A : Around} {E : Value → Shared → Prop} {s : Shared} {z TI TO i1 i2 e : Addr} {fp1 fp2 : List Addr} {n1 n2 i : Nat} {P1 P2 : Nat → Value → Prop} {St1 St2 : Nat → Heap → Prop} {a1 a2 : Value}
/-- what is kept but for some cells -/
def Kp (L : List Addr) (h h' : Heap) : Prop := ∀ c o, c ∉ L → h.get? c = some o → h'.get? c = some o
theorem Kp.refl (L : List Addr) (h : Heap) : Kp L h h := fun _ _ _ e => e
theorem Kp.same {L : List Addr} {h h' : Heap} {x : Addr} (k : Heap.SameBut x h h') (m : x ∈ L) : Kp L h h' := fun c o n g => k.extBut c o (fun q => n (q ▸ m)) g
theorem Kp.trans {L : List Addr} {h h1 h2 : Heap} (a : Kp L h h1) (b : Kp L h1 h2) : Kp L h h2 := fun c o n g => b c o n (a c o n g)
theorem Kp.push {L : List Addr} {h : Heap} {ob : Obj} : Kp L h (h.push ob) := fun _ _ _ g => Heap.get?_push_of_some _ g
theorem Kp.more {L M : List Addr} {h h' : Heap} (a : Kp L h h') (m : ∀ x ∈ L, x ∈ M) : Kp M h h' := fun c o n g => a c o (fun q => n (m c q)) g
end
end L4
namespace L4
open PySem PySem.Spec PyProof.Rows L2
theorem Gd.any {k : Nat} {X Y : Cx} (h : Gd k X) (e : Y.A = X.A := by rfl) : Gd k Y := ⟨by rw [e]; exact h.g, by rw [e]; exact h.r⟩
def noM : List D → M → Option (D × M) := fun _ _ => none
theorem mfn_none {P : Program} {w : World} {K : PySem.W.Frag} {mg : Str → Option Value} {base : Heap} {k : Nat} {x : Str} {ps : List Str} {st : Stmt} (D : L3.Df K mg x st)
    (hb : ∀ (kV doc pm : Value) (an : Option Addr) (cdv ct : Value) (us : List Value), us.length = ps.length → bindArgs (PySem.W.fnOf x x (defArgs st) (defBody st) (defScope st) .none kV doc pm an cdv ct) ⟨us, []⟩ = pure (ps.zip us)) : MFn P w K mg base k x ps.length noM := by
  obtain ⟨f, fd, F, g⟩ := D.ex
  refine ⟨(fun ds m r h => nomatch h), f, fd, ps, ⟨fun vs H Q E h => h.1, fun A outer s H args us vs Q E _ _ _ _ _ h => ?_⟩, g, F.kp, F.binds hb⟩
  obtain ⟨_, _, _, _, _, _, _, _, h, _⟩ := h
  cases h
end L4
namespace L4
open PySem PySem.Spec PyProof.Rows L2
def ItA (K : PySem.W.Frag) (cs : List Str) : Prop := ∀ c ∈ cs, C8.InsC K (He.ga K c) ∧ ∀ t ∈ kinds, PySem.W.kitOne K (.ref (He.ga K c)) (.type t) = some false
theorem itA_nil {K : PySem.W.Frag} : ItA K [] := fun _ h => nomatch h
theorem itA_cons {K : PySem.W.Frag} {c : Str} {cs : List Str} (N : C8.InsC K (He.ga K c)) (h : itaB K c = true) (r : ItA K cs) : ItA K (c :: cs) := fun d hd => by
  rcases List.mem_cons.mp hd with rfl | hd
  · exact ⟨N, fun t ht => of_decide_eq_true (List.all_eq_true.mp h t ht)⟩
  · exact r d hd
section
variable {X : Cx}
def isiTA (cs : List Str) (m : M) (xs : List D) : Option D := match isiD m xs with
  | some d => some d
  | none => match xs with
    | [x, .ty t] => if kinds.contains t then match insOf m x with
      | some (c, _, _) => if cs.contains c then some (.bl false) else none
      | none => none
      else none
    | _ => none
theorem call_isiTA {cs : List Str} (A : ItA X.K cs) : CallD X (.builtin "isinstance") (isiTA cs) := by
  obtain ⟨r0, c0, q0⟩ := (call_isi' (X := X)).ex
  refine ⟨_, orC c0 call_isi, fun T H m xs vs d hm r hf Q k => ?_⟩
  unfold isiTA at hf
  split at hf
  · next d2 h2 =>
    cases hf
    exact .inl (q0 T H m xs vs d hm r h2 Q k)
  · split at hf
    · next x t =>
      obtain ⟨ht, hf⟩ := ite_some hf
      obtain ⟨v, w, rfl, q1, q2⟩ := r.two
      cases q2
      split at hf
      · next c1 n1 w1 h1 =>
        obtain ⟨hc, hf⟩ := ite_some hf
        cases hf
        obtain ⟨a, dx, fs, rfl, ea, _, _⟩ := ins_rep hm q1 h1
        obtain ⟨N, hk⟩ := A c1 (by simpa using hc)
        exact .inr ⟨_, _, _, _, false, rfl, .ty _, .base (.ins ea N.cl N.ha N.hn N.htk N.hm), hk _ (by simpa using ht), k.now hm (.bl false)⟩
      · cases hf
    · cases hf
end
end L4
namespace L4
open PySem PySem.Spec PyProof.Rows L2
theorem _root_.L2.PA.nox {X : Cx} {es : List Expr} {t : TA} (h : PA X.nox es t) : PA X es t := ⟨fun pos pins s σ H Q I hw =>
  wpAny_mono (h.run pos pins s σ H Q (I.wish _) hw) (fun _ _ ⟨v, H', I', r, q⟩ => ⟨v, H', I'.unwish, r, q⟩) fun _ _ z => False.elim z⟩
theorem _root_.L2.PS.nox {X : Cx} {st : Stmt} {t : TS} (h : PS X.nox st t) : PS X st t := ⟨fun pins s σ H D I hw =>
  wpAny_mono (h.run pins s σ H D (I.wish _) hw) (fun _ _ z => SP.unwish z) fun _ _ z => False.elim z⟩
/-- a raised thing: its class by name, its fields -/
structure Xn where
  c : Str
  ns : List Str
  vs : List D
inductive Rv where
  | ok (d : D) | ex (x : Xn)
inductive Rf where
  | fl (r : Fl) | ex (x : Xn) (ρ : Ss)
abbrev EX := Ss → M → Option (Rv × M)
abbrev SX := Ss → M → Option (Rf × M)
def XRep (g : G) (T : Tk) (H : Hp) (cls : Value) (dd : Option Addr) (x : Xn) : Prop :=
  cls = .ref (He.ga g.K x.c) ∧ ((dd = none ∧ x.ns = [] ∧ x.vs = []) ∨ ∃ a fs, dd = some a ∧ a ∉ T.ν ∧ H a = some (.xd fs) ∧ fs.map Prod.fst = x.ns ∧ RepL g T H x.vs (fs.map Prod.snd))
section
variable {g : G} {T T1 : Tk} {H H1 : Hp} {m : M}
theorem XRep.le {cls : Value} {dd : Option Addr} {x : Xn} (l : Le T H T1 H1) (h : XRep g T H cls dd x) : XRep g T1 H1 cls dd x := by
  obtain ⟨e, h⟩ := h
  refine ⟨e, ?_⟩
  rcases h with h | ⟨a, fs, e1, n, h, e2, r⟩
  · exact .inl h
  · exact .inr ⟨a, fs, e1, l.out h n, l.keep _ _ h (Tk.out n), e2, r.le l⟩
def KX (g : G) (T : Tk) (H : Hp) (m : M) (x : Xn) (E : XK) : Prop := ∀ cls dd T' H', Le T H T' H' → RepH g T' H' m → XRep g T' H' cls dd x → E cls dd H'
def KY (g : G) (T : Tk) (H : Hp) (m : M) (x : Xn) (ρ : Ss) (W : WX) : Prop := ∀ cls dd σ T' H', Le T H T' H' → RepH g T' H' m → RepS g T' H' σ ρ → XRep g T' H' cls dd x → W cls dd σ H'
def KR (g : G) (T : Tk) (H : Hp) (m : M) (r : Rv) (Q : VK) (E : XK) : Prop := match r with
  | .ok d => KV g T H m d Q
  | .ex x => KX g T H m x E
def KQ (g : G) (T : Tk) (H : Hp) (m : M) (r : Rf) (D : Ends) (W : WX) : Prop := match r with
  | .fl r => KF g T H m r D
  | .ex x ρ => KY g T H m x ρ W
theorem KX.le {x : Xn} {E : XK} (l : Le T H T1 H1) (k : KX g T H m x E) : KX g T1 H1 m x E := fun c d T' H' l' => k c d T' H' (l.trans l')
theorem KY.le {x : Xn} {ρ : Ss} {W : WX} (l : Le T H T1 H1) (k : KY g T H m x ρ W) : KY g T1 H1 m x ρ W := fun c d σ T' H' l' => k c d σ T' H' (l.trans l')
theorem KR.le {r : Rv} {Q : VK} {E : XK} (l : Le T H T1 H1) (k : KR g T H m r Q E) : KR g T1 H1 m r Q E := by
  cases r with
  | ok d => exact KV.le l k
  | ex x => exact KX.le l k
theorem KQ.le {r : Rf} {D : Ends} {W : WX} (l : Le T H T1 H1) (k : KQ g T H m r D W) : KQ g T1 H1 m r D W := by
  cases r with
  | fl r => exact KF.le l k
  | ex x ρ => exact KY.le l k
end
/-- readings from a function -/
def tX (g : G) (f : EX) (W : WX) : TE := fun σ H Q => ∃ T ρ m r m', RepH g T H m ∧ RepS g T H σ ρ ∧ f ρ m = some (r, m') ∧ KR g T H m' r Q (fun c d H' => W c d σ H')
def tY (g : G) (f : SX) (W : WX) : TS := fun D σ H => ∃ T ρ m r m', RepH g T H m ∧ RepS g T H σ ρ ∧ f ρ m = some (r, m') ∧ KQ g T H m' r D W
structure DX (X : Cx) (e : Expr) (f : EX) : Prop where
  go : ∀ W, Takes X W → PE X e (tX (gx X) f W)
structure DY (X : Cx) (s : Stmt) (f : SX) : Prop where
  go : ∀ W, Takes X W → PS X s (tY (gx X) f W)
structure DYs (X : Cx) (s : List Stmt) (f : SX) : Prop where
  go : ∀ W, Takes X W → PSs X s (tY (gx X) f W)
def bdX (r : Option (Rv × M)) (k : D → M → Option (Rv × M)) : Option (Rv × M) := match r with
  | some (.ok d, m) => k d m
  | some (.ex x, m) => some (.ex x, m)
  | none => none
def bdY (ρ : Ss) (r : Option (Rv × M)) (k : D → M → Option (Rf × M)) : Option (Rf × M) := match r with
  | some (.ok d, m) => k d m
  | some (.ex x, m) => some (.ex x ρ, m)
  | none => none
theorem bdX_some {r : Option (Rv × M)} {k : D → M → Option (Rv × M)} {z : Rv × M} (h : bdX r k = some z) : (∃ d m, r = some (.ok d, m) ∧ k d m = some z) ∨ ∃ x m, r = some (.ex x, m) ∧ z = (.ex x, m) := by
  match r, h with
  | some (.ok d, m), h => exact .inl ⟨d, m, rfl, h⟩
  | some (.ex x, m), h => cases h; exact .inr ⟨x, m, rfl, rfl⟩
theorem bdY_some {ρ : Ss} {r : Option (Rv × M)} {k : D → M → Option (Rf × M)} {z : Rf × M} (h : bdY ρ r k = some z) : (∃ d m, r = some (.ok d, m) ∧ k d m = some z) ∨ ∃ x m, r = some (.ex x, m) ∧ z = (.ex x ρ, m) := by
  match r, h with
  | some (.ok d, m), h => exact .inl ⟨d, m, rfl, h⟩
  | some (.ex x, m), h => cases h; exact .inr ⟨x, m, rfl, rfl⟩
@[simp] theorem bdX_ok {d : D} {m : M} {k : D → M → Option (Rv × M)} : bdX (some (.ok d, m)) k = k d m := rfl
@[simp] theorem bdX_ex {x : Xn} {m : M} {k : D → M → Option (Rv × M)} : bdX (some (.ex x, m)) k = some (.ex x, m) := rfl
@[simp] theorem bdY_ok {ρ : Ss} {d : D} {m : M} {k : D → M → Option (Rf × M)} : bdY ρ (some (.ok d, m)) k = k d m := rfl
@[simp] theorem bdY_ex {ρ : Ss} {x : Xn} {m : M} {k : D → M → Option (Rf × M)} : bdY ρ (some (.ex x, m)) k = some (.ex x ρ, m) := rfl
def yOf (f : SF) : SX := fun ρ m => (f ρ m).map fun r => (.fl r.1, r.2)
def ySeq (a b : SX) : SX := fun ρ m => bd (a ρ m) fun x m1 => match x with
  | .fl (.nx ρ1) => b ρ1 m1
  | r => some (r, m1)
def yIf (c : TF) (a b : SX) : SX := fun ρ m => bd (c ρ m) fun x m1 => if x then a ρ m1 else b ρ m1
def yAsg (a : EX) (g : GF) : SX := fun ρ m => bdY ρ (a ρ m) fun x m1 => bd (g x ρ m1) fun ρ1 m2 => some (.fl (.nx ρ1), m2)
def yDrop (a : EX) : SX := fun ρ m => bdY ρ (a ρ m) fun _ m1 => some (.fl (.nx ρ), m1)
def yRet (a : EX) : SX := fun ρ m => bdY ρ (a ρ m) fun d m1 => some (.fl (.rt d), m1)
def xUn (f : M → D → Option D) (a : EX) : EX := fun ρ m => bdX (a ρ m) fun x m1 => (f m1 x).map fun d => (.ok d, m1)
section
variable {X : Cx} {pos : Pos}
theorem _root_.L2.PE.imp {e : Expr} {t u : TE} (h : PE X e t) (i : ∀ σ H Q, u σ H Q → t σ H Q) : PE X e u := ⟨fun pins s σ H Q I q => h.run pins s σ H Q I (i _ _ _ q)⟩
theorem _root_.L2.PS.imp {e : Stmt} {t u : TS} (h : PS X e t) (i : ∀ D σ H, u D σ H → t D σ H) : PS X e u := ⟨fun pins s σ H Q I q => h.run pins s σ H Q I (i _ _ _ q)⟩
theorem _root_.L2.PSs.imp {e : List Stmt} {t u : TS} (h : PSs X e t) (i : ∀ D σ H, u D σ H → t D σ H) : PSs X e u := ⟨fun pins s σ H Q I q => h.run pins s σ H Q I (i _ _ _ q)⟩
theorem dy_of {e : Stmt} {f : SF} (h : DS X.nox e f) : DY X e (yOf f) := by
  obtain ⟨t, p, r⟩ := h.ex
  refine ⟨fun W tk => (PS.nox p).imp fun D σ H hw => ?_⟩
  obtain ⟨T, ρ, m, z, m', hm, hs, hf, k⟩ := hw
  obtain ⟨⟨d, m1⟩, e1, e2⟩ := Option.map_eq_some_iff.mp hf
  cases e2
  exact r T σ H ρ m d _ hm hs e1 D k
theorem dys_of {e : List Stmt} {f : SF} (h : DSs X.nox e f) : DYs X e (yOf f) := by
  obtain ⟨t, p, r⟩ := h.ex
  refine ⟨fun W tk => p.nox.imp fun D σ H hw => ?_⟩
  obtain ⟨T, ρ, m, z, m', hm, hs, hf, k⟩ := hw
  obtain ⟨⟨d, m1⟩, e1, e2⟩ := Option.map_eq_some_iff.mp hf
  cases e2
  exact r T σ H ρ m d _ hm hs e1 D k
theorem dys_one {s : Stmt} {f : SX} (h : DY X s f) : DYs X [s] f := ⟨fun W tk => pss_one (h.go W tk)⟩
theorem dys_cons {s : Stmt} {r : List Stmt} {a b : SX} (h : DY X s a) (hr : DYs X r b) : DYs X (s :: r) (ySeq a b) := by
  refine ⟨fun W tk => (pss_cons (h.go W tk) (hr.go W tk)).imp fun D σ H hw => ?_⟩
  obtain ⟨T, ρ, m, z, m', hm, hs, hf, k⟩ := hw
  obtain ⟨x, m1, e1, hf⟩ := bd_some hf
  refine ⟨T, ρ, m, x, m1, hm, hs, e1, ?_⟩
  cases x with
  | ex x ρ1 => cases hf; exact k
  | fl x => cases x with
    | nx ρ1 => exact fun σ1 T1 H1 l1 hm1 hs1 => ⟨T1, ρ1, m1, z, m', hm1, hs1, hf, k.le l1⟩
    | rt d => cases hf; exact k
    | bk ρ => cases hf; exact k
    | ct ρ => cases hf; exact k
theorem dy_if {c : Expr} {a b : List Stmt} {fc : TF} {fa fb : SX} (hc : DT X.nox c fc) (ha : DYs X a fa) (hb : DYs X b fb) : DY X (.If c a b pos) (yIf fc fa fb) := by
  obtain ⟨tc, pc, rc⟩ := hc.ex
  refine ⟨fun W tk => (ps_if pc.nox (ha.go W tk) (hb.go W tk)).imp fun D σ H hw => ?_⟩
  obtain ⟨T, ρ, m, z, m', hm, hs, hf, k⟩ := hw
  obtain ⟨x, m1, e1, hf⟩ := bd_some hf
  refine rc T σ H ρ m x m1 hm hs e1 _ fun T1 H1 l1 hm1 => ?_
  cases x with
  | true => exact ⟨T1, ρ, m1, z, m', hm1, hs.le l1, hf, k.le l1⟩
  | false => exact ⟨T1, ρ, m1, z, m', hm1, hs.le l1, hf, k.le l1⟩
theorem dy_set {i : Nat} {x : Str} {e : Expr} {a : EX} {pos' : Pos} (hN : X.N.Nodup) (hi : X.N[i]? = some x) (hx : Loc X.env.scope x) (he : DX X e a) (hs : swapsWith e (some (.Name x pos')) pos.line X.env = pure false := by rfl) (hf : X.fn x = true ∨ X.env.scope.names.lookup x = some .local := by first | exact .inl rfl | exact .inr rfl | assumption) :
    DY X (.Assign [.Name x pos'] e pos) (yAsg a (gNm i)) := by
  refine ⟨fun W tk => (ps_set hN hi hx (he.go W tk) hs hf).imp fun D σ H hw => ?_⟩
  obtain ⟨T, ρ, m, z, m', hm, hs, hf, k⟩ := hw
  rcases bdY_some hf with ⟨d, m1, e1, hf⟩ | ⟨x, m1, e1, e2⟩
  · cases hf
    exact ⟨T, ρ, m, _, _, hm, hs, e1, fun v T1 H1 l1 hm1 r1 => k _ T1 H1 l1 hm1 ((hs.le l1).set r1)⟩
  · cases e2
    exact ⟨T, ρ, m, _, _, hm, hs, e1, fun c dd T' H' l hm' xr => k c dd σ T' H' l hm' (hs.le l) xr⟩
theorem dy_expr {e : Expr} {a : EX} (he : DX X e a) (hs : swapsWith e none pos.line X.env = pure false := by rfl) : DY X (.Expr e pos) (yDrop a) := by
  refine ⟨fun W tk => (ps_expr (he.go W tk) hs).imp fun D σ H hw => ?_⟩
  obtain ⟨T, ρ, m, z, m', hm, hs, hf, k⟩ := hw
  rcases bdY_some hf with ⟨d, m1, e1, hf⟩ | ⟨x, m1, e1, e2⟩
  · cases hf
    exact ⟨T, ρ, m, _, _, hm, hs, e1, fun v T1 H1 l1 hm1 r1 => k σ T1 H1 l1 hm1 (hs.le l1)⟩
  · cases e2
    exact ⟨T, ρ, m, _, _, hm, hs, e1, fun c dd T' H' l hm' xr => k c dd σ T' H' l hm' (hs.le l) xr⟩
theorem dy_ret {e : Expr} {a : EX} (he : DX X e a) : DY X (.Return (some e) pos) (yRet a) := by
  refine ⟨fun W tk => (ps_ret (he.go W tk)).imp fun D σ H hw => ?_⟩
  obtain ⟨T, ρ, m, z, m', hm, hs, hf, k⟩ := hw
  rcases bdY_some hf with ⟨d, m1, e1, hf⟩ | ⟨x, m1, e1, e2⟩
  · cases hf
    exact ⟨T, ρ, m, _, _, hm, hs, e1, k⟩
  · cases e2
    exact ⟨T, ρ, m, _, _, hm, hs, e1, fun c dd T' H' l hm' xr => k c dd σ T' H' l hm' (hs.le l) xr⟩
/-- a rule of one part, of what may be raised within -/
theorem dx_un {e e' : Expr} {r : V → Hp → VK → Prop} {f : M → D → Option D} {a : EX} (hr : RfU (gx X) r f) (hp : ∀ t, PE X e t → PE X e' (tUn r t)) (ha : DX X e a) : DX X e' (xUn f a) := by
  refine ⟨fun W tk => (hp _ (ha.go W tk)).imp fun σ H Q hw => ?_⟩
  obtain ⟨T, ρ, m, z, m', hm, hs, hf, k⟩ := hw
  rcases bdX_some hf with ⟨d, m1, e1, hf⟩ | ⟨x, m1, e1, e2⟩
  · obtain ⟨d2, e2, e3⟩ := Option.map_eq_some_iff.mp hf
    cases e3
    exact ⟨T, ρ, m, _, _, hm, hs, e1, fun v T1 H1 l1 hm1 r1 => hr T1 H1 _ d v d2 hm1 r1 e2 Q (KV.le l1 k)⟩
  · cases e2
    exact ⟨T, ρ, m, _, _, hm, hs, e1, k⟩
def notNU (_ : M) (x : D) : Option D := some (.bl (!isNon x))
theorem dx_notN {a : Expr} {f : EX} {j pos'} (ha : DX X a f) : DX X (.Compare a [.IsNot] [.Constant .none j pos'] pos) (xUn notNU f) :=
  dx_un (r := fun v H Q => Q (.bl (!decide (v = .non))) H) (fun T H m x v d hm r hf Q k => by cases hf; rw [r.isN]; exact k _ T H .refl hm (.bl _)) (fun t p => pe_cmp (pc_notN p)) ha
end
end L4
namespace L4
open PySem PySem.Spec PyProof.Rows L2
/-- what a def on plain data promises: a value, or what is raised -/
def spPX (g : G) (n : Nat) (F : List D → Option Rv) : Sp := fun vs H Q E => vs.length = n ∧ ∃ (ν : List Addr) (ds : List D) (r : Rv), (∀ a ∈ ν, ∃ u, H a = some u ∧ Mu u) ∧ RepL g (T0 ν) H ds vs ∧ F ds = some r ∧
  match r with
  | .ok d => ∀ v H', (∀ a u, H a = some u → H' a = some u) → Rep g (T0 ν) H' d v → Q v H'
  | .ex x => ∀ c dd H', (∀ a u, H a = some u → H' a = some u) → XRep g (T0 ν) H' c dd x → E c dd H'
def xnF (m : M) (x : Xn) : Option Xn := (frzL m x.vs).map fun vs => ⟨x.c, x.ns, vs⟩
def endPX : Option (Rf × M) → Option Rv
  | some (.fl (.rt d), m) => (frz m d).map .ok
  | some (.fl (.nx _), _) => some (.ok .non)
  | some (.ex x _, m) => (xnF m x).map .ex
  | _ => none
def runPX (a n : Nat) (b : SX) (ds : List D) : Option Rv := if ds.length = a then endPX (b (startD n ds) []) else none
theorem runPX_len {a n : Nat} {b : SX} {ds : List D} {d : Rv} (h : runPX a n b ds = some d) : ds.length = a := (ite_some h).1
theorem frzL_nil {m : M} {vs : List D} (h : frzL m [] = some vs) : vs = [] := by
  unfold frzL at h
  split at h
  · cases h; rfl
  · next n => exact absurd rfl n
theorem xnF_ok {g : G} {T : Tk} {H : Hp} {m : M} {ν : List Addr} {cls : Value} {dd : Option Addr} {x y : Xn} (hm : RepH g T H m) (hν : ∀ a ∈ ν, a ∈ T.ν) (hμ : ∀ a ∈ T.μ, a ∉ ν) (h : xnF m x = some y) (r : XRep g T H cls dd x) : XRep g (T0 ν) H cls dd y := by
  obtain ⟨vs, h1, rfl⟩ := Option.map_eq_some_iff.mp h
  obtain ⟨e, r⟩ := r
  refine ⟨e, ?_⟩
  rcases r with ⟨e1, e2, e3⟩ | ⟨a, fs, e1, n, ha, e2, r⟩
  · rw [e3] at h1
    exact .inl ⟨e1, e2, frzL_nil h1⟩
  · exact .inr ⟨a, fs, e1, fun z => n (hν _ z), ha, e2, frzL_ok hm hν hμ h1 r⟩
abbrev endsX (Q : VK) : Ends := { nx := fun _ H' => Q .non H', rt := Q }
theorem spPX_run {g : G} {n a : Nat} {N : List Str} {b : SX} {vs : List V} {H : Hp} {Q : VK} {E : XK} (h : spPX g n (runPX a N.length b) vs H Q E) : tY g b (fun c d _ H' => E c d H') (endsX Q) (L2.start N vs) H := by
  obtain ⟨_, ν, ds, z, hν, r, hf, k⟩ := h
  have hm : RepH g (T0 ν) H [] := ⟨rfl, List.nodup_nil, hν, fun n a o h _ => by cases h⟩
  replace hf := (ite_some hf).2
  have far : ∀ {T' : Tk} {H' : Hp}, Le (T0 ν) H T' H' → ∀ a ∈ T'.μ, a ∉ ν := fun l a h z => by
    have := l.newμ a h fun z => nomatch z
    obtain ⟨u, q, _⟩ := hν a z
    rw [this] at q
    cases q
  have up : ∀ {T' : Tk} {H' : Hp}, Le (T0 ν) H T' H' → ∀ a u, H a = some u → H' a = some u := fun l a u h => l.keep a u h fun z => nomatch z
  unfold endPX at hf
  split at hf
  · next d' m e =>
    obtain ⟨d, h1, rfl⟩ := Option.map_eq_some_iff.mp hf
    exact ⟨T0 ν, _, [], _, _, hm, repS_start r, e, fun v T' H' l hm' rv => k v H' (up l) (frz_ok hm' (fun a h => l.up a h) (far l) h1 rv)⟩
  · next e =>
    cases hf
    exact ⟨T0 ν, _, [], _, _, hm, repS_start r, e, fun σ T' H' l hm' rv => k _ H' (up l) .non⟩
  · next x ρ m e =>
    obtain ⟨y, h1, rfl⟩ := Option.map_eq_some_iff.mp hf
    exact ⟨T0 ν, _, [], _, _, hm, repS_start r, e, fun c dd σ T' H' l hm' _ xr => k c dd H' (up l) (xnF_ok hm' (fun a h => l.up a h) (far l) h1 xr)⟩
  · cases hf
section
variable {P : Program} {w : World} {K : PySem.W.Frag} {mg : Str → Option Value} {base : Heap} {k : Nat} {x q m c p0 : Str} {ps N : List Str} {st : Stmt} {b : SX}
theorem fnX_body {f : Addr} {fd : FuncData} {sp : Sp} {oc cdv : Value} {od an : Option Addr} {dV kV doc pm ct : Value} {osl : Array (Option Value)} {name : Str} (lk : K.lookup f = some ⟨oc, od, .func fd, osl⟩) (efd : fd = PySem.W.fnOf name q (defArgs st) (defBody st) (defScope st) dV kV doc pm an cdv ct) (hcd : PySem.W.codeIn K cdv q = true) (S : FnScope N ps (defScope st)) (len : ∀ vs H Q E, sp vs H Q E → vs.length = ps.length)
    (hsp : ∀ vs H Q E, sp vs H Q E → tY ⟨P, w, K⟩ b (fun c d _ H' => E c d H') (endsX Q) (L2.start N vs) H)
    (hbody : ∀ (A : Around) (outer : List Env) (s : Shared) (H : Hp) (E : XK), Gd k (cxOf (L2.CX P w) P w K mg base N q (defScope st) f cdv A outer s H E) →
      DYs (cxOf (L2.CX P w) P w K mg base N q (defScope st) f cdv A outer s H E) (defBody st) b) : FnG P w K mg base (L2.CX P w) (k + 1) f fd ps sp := by
  subst efd
  refine ⟨len, fun A outer s H args us vs Q E hg hr e0 hb rv hs => ?_⟩
  have keep : ∀ b o, base.get? b = some o → s.heap.get? b = some o := fun b o e => (e0.bs b o e).1
  have KX := e0.mod.kin.keeps keep
  have par : ∀ y ∈ ps.zip us, (defScope st).names.lookup y.1 = some .local ∨ ((defScope st).names.lookup y.1 = some .cell ∧ ((cellsFrom (s.heap.objs.size + 1) (defScope st).names []).lookup y.1).isSome = true) := by
    rintro ⟨n, v⟩ hy
    cases S.par n (List.of_mem_zip hy).1 with
    | inl z => exact .inl z
    | inr z => exact .inr ⟨z, PySem.W.cellsFrom_some _ _ _ (.inl z)⟩
  refine codeAny_call_function hr.depth (KX _ _ lk) rfl S.co S.gen rfl (PySem.W.codeRec_of KX hcd) (hb _ _ _ _ ?_)
  refine wpAny_newFunctionEnv_cells S.kind par ?_
  rintro env rfl s1 x
  refine ⟨(e0.mod.nolimit.keeps keep).keeps x.toInCall.keep, codeAny_func ?_⟩
  have D := hbody A outer s H E ⟨hg, hr.deeper _⟩
  have I := inv_start (CX := L2.CX P w) (E := E) S hr.hd e0 (len _ _ _ _ hs) rv x
  have tk : Takes (cxOf (L2.CX P w) P w K mg base N q (defScope st) f cdv A outer s H E) (fun c d _ H' => E c d H') := takes_of rfl rfl rfl rfl
  refine wpAny_mono ((D.go _ tk).run [] s1 (start N vs) H _ I (hsp vs H Q E hs)) ?_ (fun _ _ z => z)
  intro fl s' z
  match fl, z with
  | .ret u, ⟨v, σ', H', J, rv, z⟩ => exact ⟨v, H', J.os, J.bare, J.base, J.hok, rv, z⟩
  | .next, ⟨σ', H', J, z⟩ => exact ⟨.non, H', J.os, J.bare, J.base, J.hok, rfl, z⟩
  | .brk, ⟨_, _, _, z⟩ => exact z.elim
  | .cont, ⟨_, _, _, z⟩ => exact z.elim
theorem fnX_of {f : Addr} {fd : FuncData} {sp : Sp} (F : Fun K x q st f fd) (S : FnScope N ps (defScope st)) (len : ∀ vs H Q E, sp vs H Q E → vs.length = ps.length)
    (hsp : ∀ vs H Q E, sp vs H Q E → tY ⟨P, w, K⟩ b (fun c d _ H' => E c d H') (endsX Q) (L2.start N vs) H)
    (hbody : ∀ (cdv : Value) (A : Around) (outer : List Env) (s : Shared) (H : Hp) (E : XK), Gd k (cxOf (L2.CX P w) P w K mg base N q (defScope st) f cdv A outer s H E) →
      DYs (cxOf (L2.CX P w) P w K mg base N q (defScope st) f cdv A outer s H E) (defBody st) b) : FnG P w K mg base (L2.CX P w) (k + 1) f fd ps sp := by
  obtain ⟨oc, od, kV, doc, pm, an, cdv, ct, osl, e, lk, hcd⟩ := F.ex
  exact fnX_body lk e hcd S len hsp (hbody cdv)
end
structure PFx (P : Program) (w : World) (K : PySem.W.Frag) (mg : Str → Option Value) (base : Heap) (k : Nat) (x : Str) (n : Nat) (F : List D → Option Rv) : Prop where
  len : ∀ ds d, F ds = some d → ds.length = n
  ex : ∃ f fd ps, FnG P w K mg base (L2.CX P w) k f fd ps (spPX ⟨P, w, K⟩ n F) ∧ mg x = some (.ref f) ∧ PySem.W.keepIn K (.ref f) = true ∧ Binds K fd ps []
section
variable {P : Program} {w : World} {K : PySem.W.Frag} {mg : Str → Option Value} {base : Heap} {k : Nat} {x q m c p0 : Str} {ps N : List Str} {st : Stmt} {b : SX}
abbrev BodyX (P : Program) (w : World) (K : PySem.W.Frag) (mg : Str → Option Value) (base : Heap) (k : Nat) (N : List Str) (q : Str) (st : Stmt) (b : SX) : Prop := ∀ (f : Addr) (cdv : Value) (A : Around) (outer : List Env) (s : Shared) (H : Hp) (E : XK),
  Gd k (cxOf (L2.CX P w) P w K mg base N q (defScope st) f cdv A outer s H E) → DYs (cxOf (L2.CX P w) P w K mg base N q (defScope st) f cdv A outer s H E) (defBody st) b
abbrev BindX (x q : Str) (st : Stmt) (ps : List Str) : Prop := ∀ (kV doc pm : Value) (an : Option Addr) (cdv ct : Value) (us : List Value), us.length = ps.length → bindArgs (PySem.W.fnOf x q (defArgs st) (defBody st) (defScope st) .none kV doc pm an cdv ct) ⟨us, []⟩ = pure (ps.zip us)
theorem pfx_df (D : L3.Df K mg x st) (S : FnScope N ps (defScope st)) (hb : BindX x x st ps) (h : BodyX P w K mg base k N x st b) : PFx P w K mg base (k + 1) x ps.length (runPX ps.length N.length b) := by
  obtain ⟨f, fd, F, g⟩ := D.ex
  exact ⟨fun ds d h => runPX_len h, f, fd, ps, fnX_of F S (fun vs H Q E h => h.1) (fun vs H Q E h => spPX_run h) (h f), g, F.kp, F.binds hb⟩
end
def CallRX (X : Cx) (v : Value) (r : List V → Hp → VK → XK → Prop) : Prop := ∀ W, Takes X W → ∀ (pins : List (Addr × Obj)) (s : Shared) (σ : L2.St) (H : Hp) (vs : List V) (us : List Value) (Q : VK), Inv X pins σ H s → Vals vs us → r vs H Q (fun c d H' => W c d σ H') →
  wpAny (model X.prog X.w) X.A (call v us) (EP X pins σ Q) X.xe s
def RfCX (g : G) (r : List V → Hp → VK → XK → Prop) (f : M → List D → Option Rv) : Prop := ∀ T H m xs vs z, RepH g T H m → RepL g T H xs vs → f m xs = some z → ∀ (Q : VK) (E : XK), KR g T H m z Q E → r vs H Q E
def callPX (F : List D → Option Rv) (m : M) (ds : List D) : Option Rv := if pureL ds then F ds else match mapO (frz m) ds with
  | some es => match F es with
    | some (.ok d) => if groundD d then some (.ok d) else none
    | some (.ex x) => if groundL x.vs then some (.ex x) else none
    | none => none
  | none => none
theorem XRep.lift {g : G} {T : Tk} {H : Hp} {c : Value} {dd : Option Addr} {x : Xn} (r : XRep g (T0 T.ν) H c dd x) : XRep g T H c dd x := by
  obtain ⟨e, r⟩ := r
  refine ⟨e, ?_⟩
  rcases r with r | ⟨a, fs, e1, n, h, e2, r⟩
  · exact .inl r
  · exact .inr ⟨a, fs, e1, n, h, e2, RepL.lift _ r⟩
theorem rf_callPX {g : G} {n : Nat} {F : List D → Option Rv} (hn : ∀ ds d, F ds = some d → ds.length = n) : RfCX g (spPX g n F) (callPX F) := by
  intro T H m xs vs z hm r hf Q E k
  unfold callPX at hf
  split at hf
  · next hp =>
    refine ⟨by rw [← r.length]; exact hn _ _ hf, T.ν, xs, z, hm.has, RepL.pure (fun _ h => h) _ hp r, hf, ?_⟩
    cases z with
    | ok d =>
      intro v H' up rv
      obtain ⟨l, hm'⟩ := hm.grow up
      exact k v T H' l hm' (Rep.lift _ rv)
    | ex x =>
      intro c dd H' up rv
      obtain ⟨l, hm'⟩ := hm.grow up
      exact k c dd T H' l hm' rv.lift
  · split at hf
    · next es h1 =>
      have re : RepL g (T0 []) H es vs := r.mapO (fun d e v h q => frz_ok hm (fun a h => (List.not_mem_nil h).elim) (fun a _ h => (List.not_mem_nil h).elim) h q) h1
      split at hf
      · next d' h2 =>
        obtain ⟨hg, hf⟩ := ite_some hf
        cases hf
        refine ⟨by rw [← re.length]; exact hn _ _ h2, [], es, _, fun a h => (List.not_mem_nil h).elim, re, h2, fun v H' up rv => ?_⟩
        obtain ⟨l, hm'⟩ := hm.grow up
        exact k v T H' l hm' (Rep.ground hm'.has _ hg rv)
      · next x h2 =>
        obtain ⟨hg, hf⟩ := ite_some hf
        cases hf
        refine ⟨by rw [← re.length]; exact hn _ _ h2, [], es, _, fun a h => (List.not_mem_nil h).elim, re, h2, fun c dd H' up rv => ?_⟩
        obtain ⟨l, hm'⟩ := hm.grow up
        refine k c dd T H' l hm' ?_
        obtain ⟨e, rv⟩ := rv
        refine ⟨e, ?_⟩
        rcases rv with rv | ⟨a, fs, e1, n, h, e2, rv⟩
        · exact .inl rv
        · refine .inr ⟨a, fs, e1, fun z => ?_, h, e2, RepL.ground hm'.has _ hg rv⟩
          obtain ⟨u, q1, q2⟩ := hm'.has a z
          rw [h] at q1
          cases q1
          exact q2
      · cases hf
    · cases hf
def eCallX (F : M → List D → Option Rv) (a : AF) : EX := fun ρ m => bd (a ρ m) fun xs m1 => (F m1 xs).map (·, m1)
section
variable {X : Cx} {k : Nat} {f : Addr} {fd : FuncData} {ps : List Str} {sp : Sp} {ds : List Value} {dvs : List V}
theorem FnG.callX (F : FnG X.prog X.w X.K X.mg X.base (L2.CX X.prog X.w) k f fd ps sp) (hr : Gd k X) (hb : Binds X.K fd ps ds) (hd : Vals dvs ds) : CallRX X (.ref f) fun vs H Q E => sp (vs ++ dvs) H Q E := by
  intro W tk pins s σ H vs us Q I r h
  have r2 : Vals (vs ++ dvs) (us ++ ds) := r.append hd
  have hl : (us ++ ds).length = ps.length := by rw [← r2.length]; exact F.len _ _ _ _ h
  refine wpAny_call (codeAny_mono (F.run X.A X.stack s H ⟨us, []⟩ (us ++ ds) (vs ++ dvs) Q _ hr.g hr.r I.env0 (hb s us I.kIn hl) r2 h) fun r s' hq => ?_)
  match r, hq with
  | .error e, hq => exact tk e s' (XE.of_call I (fun _ _ _ z => z) hq)
  | .ok (.ret u), hq => exact I.after hq
theorem appX_nil {v : Value} {sp : Sp} (h : CallRX X v fun vs H Q E => sp (vs ++ []) H Q E) : CallRX X v sp := by
  intro W tk pins s σ H xs us Q I r q
  exact h W tk pins s σ H xs us Q I r (by show sp (xs ++ []) H Q _; rw [List.append_nil]; exact q)
variable {r : List V → Hp → VK → XK → Prop} {x : Str} {p pos apos : Pos} {e e' o : Expr} {es : List Expr}
abbrev tCX (r : List V → Hp → VK → XK → Prop) (W : WX) (t : TA) : TE := fun σ H Q => t σ H fun vs H1 => r vs H1 Q (fun c d H' => W c d σ H')
theorem pe_callX {W : WX} {t : TA} (hc : CallRX X (.ref f) r) (tk : Takes X W) (hg : Gl X x) (hm : X.mg x = some (.ref f)) (hk : PySem.W.keepIn X.K (.ref f) = true) (ha : PA X (e :: es) t) (hdb : (x == ("__debug__" : Str)) = false := by decide)
    (he : starEach (e :: es) X.env = (false, eval e X.env) :: starEach es X.env := by rfl) (hpl : (backTo pos (starEach es X.env)).any (·.1) = false := by rfl) : PE X (.Call (.Name x p) (e :: es) [] pos) (tCX r W t) := by
  refine ⟨fun pins s σ H Q I h => wpAny_Call_Name_kw (ld_glob I hg hm ?_ hdb)⟩
  exact PySem.W.callWith_K (h₀ := X.base) I.ok.mod.kin hk (thn (ha.run pos pins s σ H _ I h) fun us s1 ⟨vs, H1, I1, rv, q⟩ => ⟨I1.kIn, hc W tk pins s1 σ H1 vs us Q I1 rv q⟩) he hpl
theorem dx_callG {F : M → List D → Option Rv} {a : AF} (rf : RfCX (gx X) r F) (hp : ∀ W t, Takes X W → PA X es t → PE X e' (tCX r W t)) (ha : DA X.nox es a) : DX X e' (eCallX F a) := by
  obtain ⟨t, pa, ra⟩ := ha.ex
  refine ⟨fun W tk => (hp W t tk pa.nox).imp fun σ H Q hw => ?_⟩
  obtain ⟨T, ρ, m, z, m', hm, hs, hf, k⟩ := hw
  obtain ⟨xs, m1, e1, hf⟩ := bd_some hf
  obtain ⟨z1, e2, e3⟩ := Option.map_eq_some_iff.mp hf
  cases e3
  exact ra T σ H ρ m xs _ hm hs e1 _ fun vs T1 H1 l1 hm1 r1 => rf T1 H1 _ xs vs z hm1 r1 e2 Q _ (k.le l1)
theorem dx_pfx {n : Nat} {F : List D → Option Rv} {a : AF} (hF : PFx X.prog X.w X.K X.mg X.base k x n F) (gd : Gd k X) (hg : Gl X x) (ha : DA X.nox (e :: es) a) (hdb : (x == ("__debug__" : Str)) = false := by decide)
    (he : starEach (e :: es) X.env = (false, eval e X.env) :: starEach es X.env := by rfl) (hpl : (backTo pos (starEach es X.env)).any (·.1) = false := by rfl) : DX X (.Call (.Name x p) (e :: es) [] pos) (eCallX (callPX F) a) := by
  obtain ⟨fa, fd, ps, G, hm, kp, b⟩ := hF.ex
  exact dx_callG (rf_callPX hF.len) (fun W t tk pa => pe_callX (appX_nil (G.callX gd b .nil)) tk hg hm kp pa hdb he hpl) ha
def eCallGX (i : Nat) (tb : List (Str × (List D → Option Rv))) (a : AF) : EX := fun ρ m => match ρ.getD i none with
  | some (.glo x) => match tb.lookup x with
    | some F => eCallX (callPX F) a ρ m
    | none => none
  | _ => none
inductive TabX (X : Cx) (k : Nat) : List (Str × (List D → Option Rv)) → Prop
  | nil : TabX X k []
  | cons {x n F tb} : PFx X.prog X.w X.K X.mg X.base k x n F → X.mg x = some (.ref (He.ga X.K x)) → TabX X k tb → TabX X k ((x, F) :: tb)
theorem TabX.get {tb : List (Str × (List D → Option Rv))} {F : List D → Option Rv} (h : TabX X k tb) (e : tb.lookup x = some F) : ∃ n, PFx X.prog X.w X.K X.mg X.base k x n F ∧ X.mg x = some (.ref (He.ga X.K x)) := by
  induction h with
  | nil => cases e
  | @cons y n G tb p q t ih =>
    rw [List.lookup_cons] at e
    split at e
    · next hb =>
      cases e
      have := eq_of_beq hb
      subst this
      exact ⟨n, p, q⟩
    · exact ih e
theorem dx_callLX {i : Nat} {tb : List (Str × (List D → Option Rv))} {a : AF} (ht : TabX X k tb) (gd : Gd k X) (hN : X.N[i]? = some x) (hv : Vis X.env.scope x) (ha : DA X.nox (e :: es) a)
    (hdb : (x == ("__debug__" : Str)) = false := by decide) (hcd : (x == ("__classdict__" : Str)) = false := by decide)
    (he : starEach (e :: es) X.env = (false, eval e X.env) :: starEach es X.env := by rfl) (hpl : (backTo pos (starEach es X.env)).any (·.1) = false := by rfl) : DX X (.Call (.Name x p) (e :: es) [] pos) (eCallGX i tb a) := by
  obtain ⟨t, pa, ra⟩ := ha.ex
  refine ⟨fun W tk => ⟨fun pins s σ H Q I hw => ?_⟩⟩
  obtain ⟨T, ρ, m, z, m', hm, hs, hf, k⟩ := hw
  unfold eCallGX at hf
  split at hf
  · next y hy =>
    split at hf
    · next F hF =>
      obtain ⟨n, pf, hmg⟩ := ht.get hF
      obtain ⟨fa, fd, ps, G, hmf, kp, b⟩ := pf.ex
      have ef : fa = He.ga X.K y := by
        rw [hmg] at hmf
        cases hmf
        rfl
      obtain ⟨v, ev, rv⟩ := hs.at_ i (.glo y) (by
        rw [List.getD_eq_getElem?_getD] at hy
        cases h : ρ[i]? with
        | none => rw [h] at hy; cases hy
        | some o => rw [h] at hy; cases hy; rfl)
      cases rv
      obtain ⟨xs, m1, e1, hf⟩ := bd_some hf
      obtain ⟨z1, e2, e3⟩ := Option.map_eq_some_iff.mp hf
      cases e3
      refine wpAny_Call_Name_kw (thn ((pe_var (pos := p) hN hv hdb hcd).run pins s σ H (fun v H1 => v = .ref fa ∧ H1 = H) I ⟨.ref fa, by rw [ef]; exact ev, rfl, rfl⟩) fun u s1 ⟨v, H1, I1, r1, q1⟩ => ?_)
      obtain ⟨rfl, rfl⟩ := q1
      cases r1
      have hrun := ra T σ _ ρ m xs _ hm hs e1 _ fun vs T1 H1 l1 hm1 r1 => rf_callPX (g := gx X) pf.len T1 H1 _ xs vs z hm1 r1 e2 Q (fun c d H' => W c d σ H') (k.le l1)
      exact PySem.W.callWith_K (h₀ := X.base) I.ok.mod.kin kp (thn (pa.nox.run pos pins s1 σ _ _ I1 hrun) fun us s2 ⟨vs, H2, I2, rv, q⟩ => ⟨I2.kIn, appX_nil (G.callX gd b .nil) W tk pins s2 σ H2 vs us Q I2 rv q⟩) he hpl
    · cases hf
  · cases hf
end
end L4
namespace L4
open PySem PySem.Spec PyProof.Rows L2
/-- a clause: its class, the slot of its name, what its suite does with what is caught -/
abbrev Cla := Value × Option Nat × (Addr → Value → Option Addr → TS)
def offD (i : Option Nat) (D : Ends) : Ends := match i with
  | none => D
  | some i => { nx := fun σ H => D.nx (σ.set i none) H, rt := D.rt, bk := fun σ H => D.bk (σ.set i none) H, ct := fun σ H => D.ct (σ.set i none) H }
def onS (i : Option Nat) (a : Addr) (σ : L2.St) : L2.St := match i with
  | none => σ
  | some i => σ.set i (some (.ref a))
def wCl (K : PySem.W.Frag) (Wout : WX) (D : Ends) : List Cla → WX
  | [] => Wout
  | (c, i, ts) :: r => fun cls d σ H => ∃ b, PySem.W.exmOne K cls c = some b ∧ (b = true → ∀ a, H a = none → ts a cls d (offD i D) (onS i a σ) H) ∧ (b = false → wCl K Wout D r cls d σ H)
inductive ClsOk (X : Cx) : List ExceptHandler → List Cla → Prop
  | nil : ClsOk X [] []
  | bare {x : Str} {c : Value} {ts : Addr → Value → Option Addr → TS} {b₀ : Stmt} {suite : List Stmt} {np q : Pos} {hds : List ExceptHandler} {l : List Cla} (hc : Names X x c)
      (hsu : ∀ (a : Addr) (oe : Obj) (cls : Value) (d : Option Addr) (pn : List (Addr × Obj)), Zc cls d oe → (∃ vs, oe.data = .fields vs) → PSs (X.suite a ((a, oe) :: pn)) (b₀ :: suite) (ts a cls d)) (r : ClsOk X hds l) :
      ClsOk X (.ExceptHandler (some (.Name x np)) none (b₀ :: suite) q :: hds) ((c, none, ts) :: l)
  | named {x n : Str} {c : Value} {i : Nat} {ts : Addr → Value → Option Addr → TS} {b₀ : Stmt} {suite : List Stmt} {np q : Pos} {hds : List ExceptHandler} {l : List Cla} (hc : Names X x c) (hi : X.N[i]? = some n) (hln : X.env.kindOf n = some .local)
      (hsu : ∀ (a : Addr) (oe : Obj) (cls : Value) (d : Option Addr) (pn : List (Addr × Obj)), Zc cls d oe → (∃ vs, oe.data = .fields vs) → PSs (X.suite a ((a, oe) :: pn)) (b₀ :: suite) (ts a cls d)) (r : ClsOk X hds l) :
      ClsOk X (.ExceptHandler (some (.Name x np)) (some n) (b₀ :: suite) q :: hds) ((c, some i, ts) :: l)
section
variable {X : Cx} {body : List Stmt} {h₀ : ExceptHandler} {hds : List ExceptHandler} {l : List Cla} {pos : Pos} {tb : WX → TS} {Wout : WX}
/-- what is caught, on the ground before one clause after another -/
theorem clauses (hs : X.stack = X.env :: X.outer) (hf : X.env.frame = some X.env.locals) (hN : X.N.Nodup) (ok : X.Ok) (tk : Takes X Wout) {a : Addr} {B : Heap} {sI s' : Shared} {pins pins' : List (Addr × Obj)} {σ' : L2.St} {H' : Hp} {cls : Value} {d : Option Addr} {D : Ends}
    (J : Inv X pins' σ' H' sI) (J0 : Inv X pins σ' H' sI) (nb : ∀ b o, sI.heap.get? b = some o → b ∉ frs X.stack → B.get? b = some o) (na : H' a = none) (os : s'.os = sI.os) (ag : AllBare s'.gens) {h3 : Heap} (fl : HandSPX.FlyingZ B (X.env :: X.outer) a (Zc cls d) h3) (up : sI.heap.UpToSlots h3)
    (hk : ClsOk X hds l) (w : wCl X.K Wout D l cls d σ' H') : wpAny (model X.prog X.w) X.A (handleBy (.ref a) X.env hds) (SP X pins D) X.xe { s' with heap := h3 } := by
  have far : ∀ {h : Heap} {o : Obj} {vs : Array Value}, h.FunFrames B (X.env :: X.outer) → h.get? a = some o → o.data = .fields vs → a ≠ X.env.locals ∧ a ∉ X.fs := fun {h o vs} ff e dd => by
    have nf : a ∉ frs (X.env :: X.outer) := fun hm => by
      obtain ⟨_, o2, e2, z⟩ := ff.mem hm
      rw [e] at e2
      cases e2
      exact z _ dd
    refine ⟨fun z => nf ?_, fun z => nf ?_⟩
    · rw [z]
      exact List.mem_filterMap.mpr ⟨X.env, List.mem_cons_self .., hf⟩
    · obtain ⟨e, z1, z2⟩ := List.mem_filterMap.mp z
      exact List.mem_filterMap.mpr ⟨e, List.mem_cons_of_mem _ z1, z2⟩
  -- the suite's state, whatever stands behind the flight
  have seat : ∀ {h4 : Heap}, HandSPX.FlyingZ B (X.env :: X.outer) a (Zc cls d) h4 → sI.heap.UpToSlots h4 → ∃ oe, Zc cls d oe ∧ (∃ vs, oe.data = .fields vs) ∧ h4.get? a = some oe ∧ Inv (X.suite a ((a, oe) :: (X.pn ++ pins))) [] σ' H' { s' with heap := h4 } ∧ Inv X pins σ' H' { s' with heap := h4 } := fun {h4} fl4 up4 => by
    obtain ⟨oe, vs, he, hz, hd⟩ := fl4.there
    obtain ⟨f1, f2⟩ := far fl4.2.2.1 he hd
    have L : Inv X pins σ' H' { s' with heap := h4 } := J0.landed nb fl4.1 up4 os ag
    exact ⟨oe, hz, ⟨vs, hd⟩, he, L.suite he hd na f1 f2, L⟩
  have ends : ∀ {oe : Obj} {i : Option Nat} {fl : Flow} {s6 : Shared}, SP (X.suite a ((a, oe) :: (X.pn ++ pins))) [] (offD i D) fl s6 → i = none → SP X pins D fl s6 := fun {oe i fl s6} z e => by
    subst e
    cases fl with
    | next => obtain ⟨σ6, H6, S6, q⟩ := z; exact ⟨_, _, S6.unsuite ok, q⟩
    | brk => obtain ⟨σ6, H6, S6, q⟩ := z; exact ⟨_, _, S6.unsuite ok, q⟩
    | cont => obtain ⟨σ6, H6, S6, q⟩ := z; exact ⟨_, _, S6.unsuite ok, q⟩
    | ret u => obtain ⟨v6, σ6, H6, S6, r6, q⟩ := z; exact ⟨_, _, _, S6.unsuite ok, r6, q⟩
  have look : ∀ {x : Str} {np : Pos} {c : Value} {b : Bool} {Q : Bool → Shared → Prop} {E : Value → Shared → Prop} {h4 : Heap}, Names X x c → PySem.W.exmOne X.K cls c = some b → HandSPX.FlyingZ B (X.env :: X.outer) a (Zc cls d) h4 → sI.heap.UpToSlots h4 → Q b { s' with heap := h4 } →
      wpAny (model X.prog X.w) (X.A.mark (some (.ref a))) (eval (.Name x np) X.env) (fun c s₁ => wpAny (model X.prog X.w) (X.A.mark (some (.ref a))) (excMatches (.ref a) c) Q E s₁) E { s' with heap := h4 } := fun {x np c b Q E h4} hc hb fl4 up4 q => by
    obtain ⟨oe, hz, _, he, S, L⟩ := seat fl4 up4
    have LT : PySem.W.Looks (model X.prog X.w) h4 (typeOf (.ref a)) cls := fun A Q E s k q => wpAny_typeOf_ref (k _ _ he) (by rw [hz.1]; exact q)
    have LM := PySem.W.exm_one (M := model X.prog X.w) L.kIn LT hb
    obtain ⟨g1, g2, g3⟩ := hc
    rcases g3 with hm | ⟨hm, hv, hn⟩
    · exact ld_glob (X := X.suite a ((a, oe) :: (X.pn ++ pins))) S g1 hm (LM.here q) g2
    · exact ld_blt (X := X.suite a ((a, oe) :: (X.pn ++ pins))) S g1 hm hv (LM.here q) hn g2
  induction hk generalizing h3 with
  | nil =>
    refine wpAny_handleBy_nil ?_
    obtain ⟨k1, k2, k3, oe, vs, T, oT, ts', he, hz, hd, h1, hr⟩ := id fl
    unfold PySem.passOn
    refine wpAny_bind (wpAny_field he hd h1 ?_)
    rw [if_neg (by simp)]
    have go : wpAny (model X.prog X.w) X.A (setFlight (.ref a) X.env.frame) (fun _ s4 => wpAny (model X.prog X.w) X.A (throw (.ref a) : Sem Flow) (SP X pins D) X.xe s4) X.xe { s' with heap := h3 } := by
      rw [hf]
      exact HandSPX.setFlight_upZ fl fun h4 hh up4 => wpAny_throw (tk _ _ ⟨a, B, sI, pins, σ', H', cls, d, rfl, J0, nb, up.trans up4, .inr (.inr (by rw [hs]; exact hh)), na, os, ag, w⟩)
    first
      | exact wpAny_bind (wpAny_pure (wpAny_bind go))
      | exact wpAny_bind go
  | @bare x c ts b₀ suite np q hds2 l2 hc hsu r ih =>
    obtain ⟨b, hb, hyes, hno⟩ := w
    refine wpAny_handleBy_cons (codeAny_handlers_test (look hc hb fl up ?_)) (by intro q; cases q)
    cases b with
    | false => exact ih fl up (hno rfl)
    | true =>
      refine codeAny_handlers_suite (HandSPX.lands_againZ fl fun h4 fl4 up4 => ?_)
      obtain ⟨oe, hz, hd, he, S, L⟩ := seat fl4 (up.trans up4)
      exact wpAny_mono ((hsu a oe cls d (X.pn ++ pins) hz hd).run [] _ _ H' _ S (hyes rfl a na)) (fun _ _ z => ends z rfl) fun _ _ z => z.elim
  | @named x n c i ts b₀ suite np q hds2 l2 hc hi hln hsu r ih =>
    obtain ⟨b, hb, hyes, hno⟩ := w
    refine wpAny_handleBy_cons (codeAny_handlers_test (look hc hb fl up ?_)) (by intro q; cases q)
    cases b with
    | false => exact ih fl up (hno rfl)
    | true =>
      refine codeAny_handlers_suite_as (HandSPX.lands_againZ fl fun h4 fl4 up4 => ?_)
      obtain ⟨oe, hz, hd, he, S, L⟩ := seat fl4 (up.trans up4)
      refine store_ok (X := X.suite a ((a, oe) :: (X.pn ++ pins))) (v := .ref a) S hN hi (.inl hln) rfl (fun s5 S5 => ?_) (.inr hln)
      refine wpAny_mono ((hsu a oe cls d (X.pn ++ pins) hz hd).run [] s5 _ H' _ S5 (hyes rfl a na)) (fun fl6 s6 z => ?_) fun _ _ z => z.elim
      have gone : ∀ {σ6 : L2.St} {H6 : Hp} {Q : Shared → Prop}, Inv (X.suite a ((a, oe) :: (X.pn ++ pins))) [] σ6 H6 s6 → (∀ s7, Inv X pins (σ6.set i none) H6 s7 → Q s7) →
          wpAny (model X.prog X.w) X.A (do bindName X.env n .none; unbindBehindTheSuite X.env n q) (fun _ s7 => Q s7) X.xe s6 := fun S6 hq => gone_ok (S6.unsuite ok) hN hi hln hq
      cases fl6 with
      | next => obtain ⟨σ6, H6, S6, y⟩ := z; exact gone S6 fun s7 J7 => ⟨_, _, J7, y⟩
      | brk => obtain ⟨σ6, H6, S6, y⟩ := z; exact gone S6 fun s7 J7 => ⟨_, _, J7, y⟩
      | cont => obtain ⟨σ6, H6, S6, y⟩ := z; exact gone S6 fun s7 J7 => ⟨_, _, J7, y⟩
      | ret u => obtain ⟨v6, σ6, H6, S6, r6, y⟩ := z; exact gone S6 fun s7 J7 => ⟨_, _, _, J7, r6, y⟩
theorem ps_tryC (hs : X.stack = X.env :: X.outer) (hf : X.env.frame = some X.env.locals) (hN : X.N.Nodup) (tk : Takes X Wout)
    (hb : ∀ (W : WX) (pn : List (Addr × Obj)) (xe : Value → Shared → Prop), Takes (X.tr pn xe) W → PassesOwn (model X.prog X.w) X.A X.env xe → PSs (X.tr pn xe) body (tb W))
    (hh : ClsOk X (h₀ :: hds) l) : PS X (.Try body (h₀ :: hds) [] [] pos) (fun D σ H => tb (wCl X.K Wout D l) D σ H) := by
  refine ⟨fun pins s σ H D I h => ?_⟩
  have ok := I.ok
  have hfr : X.A.frames = some (X.env :: X.outer) := by rw [ok.frames, hs]
  let xe : Value → Shared → Prop := fun e s₁ => wpAny (model X.prog X.w) X.A (noteFrame e X.env) (fun _ s₂ => wpAny (model X.prog X.w) X.A (setFlight e none) (fun _ s₃ => wpAny (model X.prog X.w) X.A (handleBy e X.env (h₀ :: hds)) (SP X pins D) X.xe s₃) X.xe s₂) X.xe s₁
  have tk2 : Takes (X.tr (X.pn ++ pins) xe) (wCl X.K Wout D l) := fun u s' xx => by
    obtain ⟨a, B, sI, pins', σ', H', cls, d, rfl, J', nb, up, sky, na, os, ag, w⟩ := xx
    have J := J'.ofTry ok
    have sky' : Sky B (X.env :: X.outer) a (Zc cls d) X.env.locals s'.heap := by rw [← hs]; exact sky
    exact Sky.land Zc.steady hfr hf sky' fun h3 fl3 up3 => clauses hs hf hN ok tk J J nb na os ag fl3 (up.trans up3) hh w
  refine wpAny_Try_except (wpAny_mono ((hb _ (X.pn ++ pins) xe tk2 PassesOwn.looking).run [] s σ H D (I.toTry _) h) (fun f s1 z => ?_) fun e s1 z => z)
  cases f with
  | next => obtain ⟨σ', H', J, q⟩ := z; exact wpAny_execs_nil ⟨σ', H', J.ofTry ok, q⟩
  | brk => obtain ⟨σ', H', J, q⟩ := z; exact ⟨σ', H', J.ofTry ok, q⟩
  | cont => obtain ⟨σ', H', J, q⟩ := z; exact ⟨σ', H', J.ofTry ok, q⟩
  | ret u => obtain ⟨v, σ', H', J, r, q⟩ := z; exact ⟨v, σ', H', J.ofTry ok, r, q⟩
end
end L4
namespace L4
open PySem PySem.Spec PyProof.Rows L2
def HeldS (i : Option Nat) (a : Addr) (σ : L2.St) : Prop := ∀ j, i = some j → σ[j]? = some (some (.ref a))
def tHs (g : G) (i : Option Nat) (a : Addr) (cls : Value) (d : Option Addr) (f : Xn → SF) : TS := fun D σ H => ∃ T ρ m x r m', RepH g T H m ∧ RepS g T H σ ρ ∧ XRep g T H cls d x ∧ HeldS i a σ ∧ f x ρ m = some (r, m') ∧ KF g T H m' r D
def tHe (g : G) (i : Option Nat) (a : Addr) (cls : Value) (d : Option Addr) (f : Xn → EF) : TE := fun σ H Q => ∃ T ρ m x r m', RepH g T H m ∧ RepS g T H σ ρ ∧ XRep g T H cls d x ∧ HeldS i a σ ∧ f x ρ m = some (r, m') ∧ KV g T H m' r Q
def tHt (g : G) (i : Option Nat) (a : Addr) (cls : Value) (d : Option Addr) (f : Xn → TF) : TT := fun σ H Q => ∃ T ρ m x r m', RepH g T H m ∧ RepS g T H σ ρ ∧ XRep g T H cls d x ∧ HeldS i a σ ∧ f x ρ m = some (r, m') ∧ KB g T H m' r Q
/-- in a suite that holds what is caught (slot i is its name's) -/
abbrev InSuite (X : Cx) (P : Cx → Addr → Value → Option Addr → Prop) : Prop := ∀ (a : Addr) (oe : Obj) (cls : Value) (d : Option Addr) (pn : List (Addr × Obj)), Zc cls d oe → (∃ vs, oe.data = .fields vs) → P (X.suite a ((a, oe) :: pn)) a cls d
structure HS (X : Cx) (i : Option Nat) (ss : List Stmt) (f : Xn → SF) : Prop where
  go : InSuite X fun Y a cls d => PSs Y ss (tHs (gx X) i a cls d f)
structure HE (X : Cx) (i : Option Nat) (e : Expr) (f : Xn → EF) : Prop where
  go : InSuite X fun Y a cls d => PE Y e (tHe (gx X) i a cls d f)
structure HT (X : Cx) (i : Option Nat) (e : Expr) (f : Xn → TF) : Prop where
  go : InSuite X fun Y a cls d => PT Y e (tHt (gx X) i a cls d f)
structure HW (X : Cx) (i : Option Nat) (e : Expr) (f : Xn → TF) : Prop where
  go : InSuite X fun Y a cls d => PW Y e (tHt (gx X) i a cls d f)
section
variable {X : Cx} {i : Option Nat} {pos : Pos}
theorem _root_.L2.PT.imp {e : Expr} {t u : TT} (h : PT X e t) (i : ∀ σ H Q, u σ H Q → t σ H Q) : PT X e u := ⟨fun pins s σ H Q I q => h.run pins s σ H Q I (i _ _ _ q)⟩
theorem _root_.L2.PW.imp {e : Expr} {t u : TT} (h : PW X e t) (i : ∀ σ H Q, u σ H Q → t σ H Q) : PW X e u := ⟨fun whole pins s σ H Q I q => h.run whole pins s σ H Q I (i _ _ _ q)⟩
theorem _root_.L2.PA.imp {e : List Expr} {t u : TA} (h : PA X e t) (i : ∀ σ H Q, u σ H Q → t σ H Q) : PA X e u := ⟨fun pos pins s σ H Q I q => h.run pos pins s σ H Q I (i _ _ _ q)⟩
theorem he_of {e : Expr} {f : EF} (h : ∀ (a : Addr) (pn : List (Addr × Obj)), DE (X.suite a pn) e f) : HE X i e (fun _ => f) := by
  refine ⟨fun a oe cls d pn hz hd => ?_⟩
  obtain ⟨t, p, r⟩ := (h a ((a, oe) :: pn)).ex
  exact p.imp fun σ H Q ⟨T, ρ, m, x, z, m', hm, hs, _, _, hf, k⟩ => r T σ H ρ m z m' hm hs hf Q k
theorem ht_val {e : Expr} {f : Xn → EF} (h : HE X i e f) (he : ∀ env whole, isTrue e env whole = (do let v ← whole; standAt e.pos; holding [v] (truthy v)) := by intro _ _; rfl) : HT X i e (fun x => tVal (f x)) := by
  refine ⟨fun a oe cls d pn hz hd => (pt_val (h.go a oe cls d pn hz hd) (fun whole => he _ whole)).imp fun σ H Q ⟨T, ρ, m, x, z, m', hm, hs, xr, hl, hf, k⟩ => ?_⟩
  obtain ⟨v, m1, e1, hf⟩ := bd_some hf
  cases v with
  | bl b =>
    cases hf
    exact ⟨T, ρ, m, x, _, _, hm, hs, xr, hl, e1, fun v T1 H1 l1 hm1 r1 => by cases r1; exact ⟨_, rfl, k T1 H1 l1 hm1⟩⟩
  | _ => cases hf
theorem ht_not {e : Expr} {f : Xn → TF} (h : HT X i e f) : HT X i (.UnaryOp .Not e pos) (fun x => tNot (f x)) := by
  refine ⟨fun a oe cls d pn hz hd => (pt_not (h.go a oe cls d pn hz hd)).imp fun σ H Q ⟨T, ρ, m, x, z, m', hm, hs, xr, hl, hf, k⟩ => ?_⟩
  obtain ⟨v, m1, e1, hf⟩ := bd_some hf
  cases hf
  exact ⟨T, ρ, m, x, v, _, hm, hs, xr, hl, e1, fun T1 H1 l1 hm1 => k T1 H1 l1 hm1⟩
theorem hw_and {e b : Expr} {rest : List Expr} {f h : Xn → TF} (ha : HT X i e f) (hb : HW X i (.BoolOp .And (b :: rest) pos) h) : HW X i (.BoolOp .And (e :: b :: rest) pos) (fun x => tAnd (f x) (h x)) := by
  refine ⟨fun a oe cls d pn hz hd => (pw_and (ha.go a oe cls d pn hz hd) (hb.go a oe cls d pn hz hd)).imp fun σ H Q ⟨T, ρ, m, x, z, m', hm, hs, xr, hl, hf, k⟩ => ?_⟩
  obtain ⟨v, m1, e1, hf⟩ := bd_some hf
  refine ⟨T, ρ, m, x, v, m1, hm, hs, xr, hl, e1, fun T1 H1 l1 hm1 => ?_⟩
  cases v with
  | true => exact ⟨T1, ρ, m1, x, z, m', hm1, hs.le l1, xr.le l1, hl, hf, k.le l1⟩
  | false => cases hf; exact k T1 H1 l1 hm1
theorem hw_and1 {e : Expr} {f : Xn → TF} (ha : HT X i e f) : HW X i (.BoolOp .And [e] pos) f := ⟨fun a oe cls d pn hz hd => pw_and1 (ha.go a oe cls d pn hz hd)⟩
theorem ht_w {e : Expr} {f : Xn → TF} (ha : HW X i e f) : HT X i e f := ⟨fun a oe cls d pn hz hd => (ha.go a oe cls d pn hz hd).pt⟩
theorem he_if {c a b : Expr} {fc : Xn → TF} {fa fb : Xn → EF} (hc : HT X i c fc) (ha : HE X i a fa) (hb : HE X i b fb) : HE X i (.IfExp c a b pos) (fun x => eIf (fc x) (fa x) (fb x)) := by
  refine ⟨fun p oe cls d pn hz hd => (pe_ifExp (hc.go p oe cls d pn hz hd) (ha.go p oe cls d pn hz hd) (hb.go p oe cls d pn hz hd)).imp fun σ H Q ⟨T, ρ, m, x, z, m', hm, hs, xr, hl, hf, k⟩ => ?_⟩
  obtain ⟨v, m1, e1, hf⟩ := bd_some hf
  refine ⟨T, ρ, m, x, v, m1, hm, hs, xr, hl, e1, fun T1 H1 l1 hm1 => ?_⟩
  cases v with
  | true => exact ⟨T1, ρ, m1, x, z, m', hm1, hs.le l1, xr.le l1, hl, hf, k.le l1⟩
  | false => exact ⟨T1, ρ, m1, x, z, m', hm1, hs.le l1, xr.le l1, hl, hf, k.le l1⟩
end
structure XcC (K : PySem.W.Frag) (C : Addr) : Prop where
  cl : (PySem.W.clsIn K C).isSome = true
  ga : PySem.W.findIn K (.ref C) "__getattribute__" = some (some (.builtin "BaseException.__getattribute__"))
  gg : PySem.W.findIn K (.ref C) "__getattr__" = some none
  ex : PySem.W.subIn K (.ref C) (.type "BaseException") = some true
  hd : PySem.W.hasDictIn K C = true
  co : PySem.W.findIn K (.ref C) "__class__" = some (some (.builtin "object.__class__"))
  cn : PySem.W.specialIn K (.builtin "object.__class__") "__get__" = some (some (.builtin "getset_descriptor.__get__"))
  ct : PySem.W.takesIn K (.builtin "object.__class__") = some true
  ob : PySem.W.mroIn K C (.type "object") = some true
  ty : PySem.W.typeIn K (.ref C) = some (.type "type")
  kp : PySem.W.keepIn K (.ref C) = true
theorem xcB_ok {K : PySem.W.Frag} {C : Addr} (h : xcB K C = true) : XcC K C := by
  unfold xcB at h
  simp only [Bool.and_eq_true, decide_eq_true_eq] at h
  obtain ⟨h1, h2, h3, h4, h5, h6, h7, h8, h9, h10, h11⟩ := h
  exact ⟨h1, He.eqO_ok h2, He.eqO_ok h3, h4, h5, He.eqO_ok h6, He.eqO_ok h7, h8, h9, h10, h11⟩
theorem XcC.raises {X : Cx} {C : Addr} (h : XcC X.K C) : Raises X (.ref C) := raises_own h.ex h.ty
/-- for what is of these classes: whether it is of the class c -/
def XiN (K : PySem.W.Frag) (tb : List (Str × Bool)) (c : Str) : Prop := ∀ y b, tb.lookup y = some b → XcC K (He.ga K y) ∧ PySem.W.kitOne K (.ref (He.ga K y)) (.ref (He.ga K c)) = some b
theorem xiN_nil {K : PySem.W.Frag} {c : Str} : XiN K [] c := fun _ _ h => nomatch h
theorem xiN_cons {K : PySem.W.Frag} {y c : Str} {b : Bool} {tb : List (Str × Bool)} (h : XcC K (He.ga K y)) (hb : PySem.W.kitOne K (.ref (He.ga K y)) (.ref (He.ga K c)) = some b) (r : XiN K tb c) : XiN K ((y, b) :: tb) c := fun z d hz => by
  rw [List.lookup_cons] at hz
  split at hz
  · next e =>
    cases hz
    have := eq_of_beq e
    subst this
    exact ⟨h, hb⟩
  · exact r z d hz
/-- .. whether an except clause of the class c takes it -/
def XmN (K : PySem.W.Frag) (tb : List (Str × Bool)) (c : Str) : Prop := ∀ y b, tb.lookup y = some b → PySem.W.exmOne K (.ref (He.ga K y)) (.ref (He.ga K c)) = some b
theorem xmN_nil {K : PySem.W.Frag} {c : Str} : XmN K [] c := fun _ _ h => nomatch h
theorem xmN_cons {K : PySem.W.Frag} {y c : Str} {b : Bool} {tb : List (Str × Bool)} (hb : PySem.W.exmOne K (.ref (He.ga K y)) (.ref (He.ga K c)) = some b) (r : XmN K tb c) : XmN K ((y, b) :: tb) c := fun z d hz => by
  rw [List.lookup_cons] at hz
  split at hz
  · next e =>
    cases hz
    have := eq_of_beq e
    subst this
    exact hb
  · exact r z d hz
section
variable {X : Cx} {i : Nat} {pos p : Pos} {n nm c : Str}
def eXi (tb : List (Str × Bool)) (x : Xn) : EF := fun _ m => match tb.lookup x.c with
  | some b => some (.bl b, m)
  | none => none
theorem he_isi {tb : List (Str × Bool)} {p1 p2 p3 : Pos} (hc : XiN X.K tb c) (hg : Gl X "isinstance") (hm : X.mg "isinstance" = none) (hN : X.N[i]? = some nm) (hv : Vis X.env.scope nm) (hgc : Gl X c) (hmc : X.mg c = some (.ref (He.ga X.K c)))
    (hdb : (nm == ("__debug__" : Str)) = false := by decide) (hcd : (nm == ("__classdict__" : Str)) = false := by decide) (hdc : (c == ("__debug__" : Str)) = false := by decide)
    (hbt : bootBuiltins "isinstance" = some (.builtin "isinstance") := by decide +kernel)
    (hst : starEach [.Name nm p2, .Name c p3] X.env = (false, eval (.Name nm p2) X.env) :: starEach [.Name c p3] X.env := by rfl) (hst2 : starEach [.Name c p3] X.env = (false, eval (.Name c p3) X.env) :: starEach [] X.env := by rfl) (hpl : (backTo pos (starEach [.Name c p3] X.env)).any (·.1) = false := by rfl) :
    HE X (some i) (.Call (.Name "isinstance" p1) [.Name nm p2, .Name c p3] [] pos) (eXi tb) := by
  refine ⟨fun a oe cls d pn hz hd => ?_⟩
  have PAa : PA (X.suite a ((a, oe) :: pn)) [.Name nm p2, .Name c p3] (tCons (tVar i) (tCons (tC (.ref (He.ga X.K c))) tNil)) :=
    pa_cons (pe_var (X := X.suite a ((a, oe) :: pn)) hN hv hdb hcd) (pa_cons (pe_glob (X := X.suite a ((a, oe) :: pn)) (v := .ref (He.ga X.K c)) hgc hmc rfl hdc) pa_nil hst2) hst
  let r : List V → Hp → VK → Prop := fun xs H Q => ∃ (x : Str) (dd : Option Addr) (b : Bool), xs = [.ref a, .ref (He.ga X.K c)] ∧ cls = .ref (He.ga X.K x) ∧ d = dd ∧ (dd = none ∨ ∃ q fs, dd = some q ∧ H q = some (.xd fs)) ∧ XcC X.K (He.ga X.K x) ∧ PySem.W.kitOne X.K (.ref (He.ga X.K x)) (.ref (He.ga X.K c)) = some b ∧ Q (.bl b) H
  have hr : CallR (X.suite a ((a, oe) :: pn)) (.builtin "isinstance") r := by
    intro pins s σ H xs us Q I rv h
    obtain ⟨x, dd, b, rfl, ec, ed, hh, T, e, q⟩ := h
    subst ed
    cases rv with
    | cons r1 rr => cases rr with
      | cons r2 rr =>
        cases rr; cases r1; cases r2
        obtain ⟨hget, _⟩ := I.pin (a, oe) (List.mem_append.mpr (.inl (List.mem_cons_self ..)))
        obtain ⟨vs, hv⟩ := hd
        have J : ∃ od, PySem.W.InstAt s.heap a oe (He.ga X.K x) od := by
          rcases hh with hh | ⟨qa, fs, e2, hq⟩
          · exact ⟨none, hget, by rw [hz.1, ec], by unfold PySem.W.notCls; rw [hv] <;> rfl, by rw [hz.2, hh]; trivial⟩
          · have hx : ObjOk X.prog X.w H s.heap qa (.xd fs) := I.hok qa _ hq
            obtain ⟨mA, hns, _⟩ := hx
            obtain ⟨od, es, ep, ho, _⟩ := hns
            exact ⟨some od, hget, by rw [hz.1, ec], by unfold PySem.W.notCls; rw [hv] <;> rfl, by rw [hz.2, e2]; exact ho⟩
        obtain ⟨od, J⟩ := J
        exact PySem.W.kia_one (PySem.W.kitx_exc T.cl T.ga T.gg T.ex T.co T.cn T.ct T.ob) I.kIn J e (fun z => nomatch z) fun tk => ⟨.bl b, H, I.kept (t' := tk) fun _ _ z => z, rfl, q⟩
  refine (pe_callB (X := X.suite a ((a, oe) :: pn)) hr hg hm hbt PAa (by decide) (by decide) hst hpl).imp fun σ H Q ⟨T, ρ, m, x, z, m', hm, hs, xr, hl, hf, k⟩ => ?_
  unfold eXi at hf
  split at hf
  · next b hb =>
    cases hf
    obtain ⟨T1, e1⟩ := hc x.c b hb
    obtain ⟨ec, xr⟩ := xr
    refine ⟨.ref a, hl i rfl, x.c, d, b, rfl, ec, rfl, ?_, T1, e1, k _ T H .refl hm (.bl _)⟩
    rcases xr with ⟨e2, _⟩ | ⟨dd, fs, e2, _, ha, _⟩
    · exact .inl e2
    · exact .inr ⟨dd, fs, e2, ha⟩
  · cases hf
end
end L4
namespace L4
open PySem PySem.Spec PyProof.Rows L2
theorem Gd.nox {k : Nat} {X : Cx} (h : Gd k X) : Gd k X.nox := ⟨h.g, h.r⟩
theorem Gd.tr {k : Nat} {X : Cx} {pn : List (Addr × Obj)} {xe : Value → Shared → Prop} (h : Gd k X) : Gd k (X.tr pn xe) := ⟨h.g, h.r⟩
abbrev Clx := List (Str × Bool) × Option Nat × (Xn → SF)
def offR (i : Option Nat) (ρ : Ss) : Ss := match i with
  | none => ρ
  | some i => ρ.set i none
def offF (i : Option Nat) (r : Fl) : Fl := match r with
  | .nx ρ => .nx (offR i ρ)
  | .rt d => .rt d
  | .bk ρ => .bk (offR i ρ)
  | .ct ρ => .ct (offR i ρ)
def okI (i : Option Nat) (ρ : Ss) : Bool := match i with
  | none => true
  | some i => decide (i < ρ.length)
def handle : List Clx → Xn → SX
  | [], x => fun ρ m => some (.ex x ρ, m)
  | (mt, i, f) :: r, x => fun ρ m => match mt.lookup x.c with
    | some true => if okI i ρ then (f x (offR i ρ) m).map fun z => (.fl (offF i z.1), z.2) else none
    | some false => handle r x ρ m
    | none => none
def yTry (b : SX) (hs : List Clx) : SX := fun ρ m => bd (b ρ m) fun r m1 => match r with
  | .fl r => some (.fl r, m1)
  | .ex x ρ1 => handle hs x ρ1 m1
section
variable {g : G} {T : Tk} {H : Hp} {m : M}
theorem RepS.off {σ : L2.St} {ρ : Ss} {i : Option Nat} {a : Addr} (r : RepS g T H σ ρ) : RepS g T H (onS i a σ) (offR i ρ) := by
  cases i with
  | none => exact r
  | some i =>
    refine ⟨by simp [onS, offR, r.len], fun j d h => ?_⟩
    by_cases hj : i = j
    · subst hj
      unfold offR at h
      by_cases hl : i < ρ.length
      · rw [List.getElem?_set_self hl] at h
        cases h
      · rw [List.getElem?_eq_none (by simpa using hl)] at h
        cases h
    · unfold offR at h
      rw [List.getElem?_set_ne hj] at h
      obtain ⟨v, e, q⟩ := r.at_ j d h
      exact ⟨v, by unfold onS; rw [List.getElem?_set_ne hj]; exact e, q⟩
theorem RepS.out {σ : L2.St} {ρ : Ss} {i : Nat} (r : RepS g T H σ ρ) : RepS g T H (σ.set i none) (offR (some i) ρ) := by
  refine ⟨by simp [offR, r.len], fun j d h => ?_⟩
  unfold offR at h
  by_cases hj : i = j
  · subst hj
    by_cases hl : i < ρ.length
    · rw [List.getElem?_set_self hl] at h
      cases h
    · rw [List.getElem?_eq_none (by simpa using hl)] at h
      cases h
  · rw [List.getElem?_set_ne hj] at h
    obtain ⟨v, e, q⟩ := r.at_ j d h
    exact ⟨v, by rw [List.getElem?_set_ne hj]; exact e, q⟩
theorem KF.off {r : Fl} {D : Ends} {i : Option Nat} (k : KF g T H m (offF i r) D) : KF g T H m r (offD i D) := by
  cases i with
  | none => cases r <;> exact k
  | some i =>
    cases r with
    | nx ρ => exact fun σ T' H' l hm hs => k _ T' H' l hm hs.out
    | rt d => exact k
    | bk ρ => exact fun σ T' H' l hm hs => k _ T' H' l hm hs.out
    | ct ρ => exact fun σ T' H' l hm hs => k _ T' H' l hm hs.out
theorem heldS_on {σ : L2.St} {ρ : Ss} {i : Option Nat} {a : Addr} (r : RepS g T H σ ρ) (h : okI i ρ = true) : HeldS i a (onS i a σ) := by
  intro j e
  subst e
  have hl : j < ρ.length := of_decide_eq_true h
  unfold onS
  rw [List.getElem?_set_self (by rw [r.len]; exact hl)]
end
inductive HdX (X : Cx) : List ExceptHandler → List Clx → Prop
  | nil : HdX X [] []
  | bare {c : Str} {mt : List (Str × Bool)} {f : Xn → SF} {b₀ : Stmt} {suite : List Stmt} {np q : Pos} {hds : List ExceptHandler} {l : List Clx} (hg : Gl X c) (hm : X.mg c = some (.ref (He.ga X.K c))) (hdb : (c == ("__debug__" : Str)) = false) (ht : XmN X.K mt c)
      (hsu : HS X none (b₀ :: suite) f) (r : HdX X hds l) : HdX X (.ExceptHandler (some (.Name c np)) none (b₀ :: suite) q :: hds) ((mt, none, f) :: l)
  | named {c n : Str} {i : Nat} {mt : List (Str × Bool)} {f : Xn → SF} {b₀ : Stmt} {suite : List Stmt} {np q : Pos} {hds : List ExceptHandler} {l : List Clx} (hg : Gl X c) (hm : X.mg c = some (.ref (He.ga X.K c))) (hdb : (c == ("__debug__" : Str)) = false) (ht : XmN X.K mt c)
      (hi : X.N[i]? = some n) (hln : X.env.kindOf n = some .local) (hsu : HS X (some i) (b₀ :: suite) f) (r : HdX X hds l) : HdX X (.ExceptHandler (some (.Name c np)) (some n) (b₀ :: suite) q :: hds) ((mt, some i, f) :: l)
section
variable {X : Cx} {pos : Pos}
theorem HdX.sound {hds : List ExceptHandler} {hs : List Clx} (h : HdX X hds hs) : ∃ l : List Cla, ClsOk X hds l ∧ ∀ T H m x ρ r m' D W, handle hs x ρ m = some (r, m') → KQ (gx X) T H m' r D W → KY (gx X) T H m x ρ (wCl X.K W D l) := by
  induction h with
  | nil =>
    refine ⟨[], .nil, fun T H m x ρ r m' D W e k => ?_⟩
    cases e
    exact k
  | @bare c mt f b₀ suite np q hds l hg hm hdb ht hsu r ih =>
    obtain ⟨l2, h2, ih⟩ := ih
    refine ⟨(.ref (He.ga X.K c), none, fun a cls d => tHs (gx X) none a cls d f) :: l2, .bare ⟨hg, hdb, .inl hm⟩ (fun a oe cls d pn hz hd => hsu.go a oe cls d pn hz hd) h2, fun T H m x ρ r m' D W e k cls dd σ T' H' l1 hm1 hs1 xr => ?_⟩
    unfold handle at e
    split at e
    · next hx =>
      obtain ⟨hk, e⟩ := ite_some e
      obtain ⟨⟨z, m2⟩, e1, e2⟩ := Option.map_eq_some_iff.mp e
      cases e2
      refine ⟨true, by rw [xr.1]; exact ht _ _ hx, fun _ a _ => ⟨T', offR none ρ, m, x, z, _, hm1, hs1.off (a := a), xr, heldS_on hs1 hk, e1, KF.off (i := none) (KF.le l1 k)⟩, fun z => nomatch z⟩
    · next hx => exact ⟨false, by rw [xr.1]; exact ht _ _ hx, (fun z => nomatch z), fun _ => ih T H m x ρ r m' D W e k cls dd σ T' H' l1 hm1 hs1 xr⟩
    · cases e
  | @named c n i mt f b₀ suite np q hds l hg hm hdb ht hi hln hsu r ih =>
    obtain ⟨l2, h2, ih⟩ := ih
    refine ⟨(.ref (He.ga X.K c), some i, fun a cls d => tHs (gx X) (some i) a cls d f) :: l2, .named ⟨hg, hdb, .inl hm⟩ hi hln (fun a oe cls d pn hz hd => hsu.go a oe cls d pn hz hd) h2, fun T H m x ρ r m' D W e k cls dd σ T' H' l1 hm1 hs1 xr => ?_⟩
    unfold handle at e
    split at e
    · next hx =>
      obtain ⟨hk, e⟩ := ite_some e
      obtain ⟨⟨z, m2⟩, e1, e2⟩ := Option.map_eq_some_iff.mp e
      cases e2
      refine ⟨true, by rw [xr.1]; exact ht _ _ hx, fun _ a _ => ⟨T', offR (some i) ρ, m, x, z, _, hm1, hs1.off (a := a), xr, heldS_on hs1 hk, e1, KF.off (i := some i) (KF.le l1 k)⟩, fun z => nomatch z⟩
    · next hx => exact ⟨false, by rw [xr.1]; exact ht _ _ hx, (fun z => nomatch z), fun _ => ih T H m x ρ r m' D W e k cls dd σ T' H' l1 hm1 hs1 xr⟩
    · cases e
theorem dy_try {body : List Stmt} {h₀ : ExceptHandler} {hds : List ExceptHandler} {b : SX} {hs : List Clx} (hst : X.stack = X.env :: X.outer) (hf : X.env.frame = some X.env.locals) (hN : X.N.Nodup)
    (hb : ∀ (pn : List (Addr × Obj)) (xe : Value → Shared → Prop), PassesOwn (model X.prog X.w) X.A X.env xe → DYs (X.tr pn xe) body b) (hh : HdX X (h₀ :: hds) hs) : DY X (.Try body (h₀ :: hds) [] [] pos) (yTry b hs) := by
  obtain ⟨l, hok, hl⟩ := hh.sound
  refine ⟨fun W tk => (ps_tryC (tb := fun W => tY (gx X) b W) hst hf hN tk (fun W pn xe tk2 po => (hb pn xe po).go W tk2) hok).imp fun D σ H hw => ?_⟩
  obtain ⟨T, ρ, m, z, m', hm, hs, hf, k⟩ := hw
  obtain ⟨r, m1, e1, hf⟩ := bd_some hf
  refine ⟨T, ρ, m, r, m1, hm, hs, e1, ?_⟩
  cases r with
  | fl r => cases hf; exact k
  | ex x ρ1 => exact hl T H m1 x ρ1 z m' D W hf k
theorem hs_set {i : Option Nat} {j : Nat} {y : Str} {e : Expr} {f : Xn → EF} {p' : Pos} (hN : X.N.Nodup) (hj : X.N[j]? = some y) (hy : Loc X.env.scope y) (he : HE X i e f) (hs : swapsWith e (some (.Name y p')) pos.line X.env = pure false := by rfl) (hf : X.fn y = true ∨ X.env.scope.names.lookup y = some .local := by first | exact .inl rfl | exact .inr rfl | assumption) :
    HS X i [.Assign [.Name y p'] e pos] (fun x => sAsg (f x) (gNm j)) := by
  refine ⟨fun a oe cls d pn hz hd => (pss_one (ps_set (X := X.suite a ((a, oe) :: pn)) hN hj hy (he.go a oe cls d pn hz hd) hs hf)).imp fun D σ H ⟨T, ρ, m, x, z, m', hm, hs, xr, hl, hf, k⟩ => ?_⟩
  obtain ⟨v, m1, e1, hf⟩ := bd_some hf
  cases hf
  exact ⟨T, ρ, m, x, v, _, hm, hs, xr, hl, e1, fun v1 T1 H1 l1 hm1 r1 => k _ T1 H1 l1 hm1 ((hs.le l1).set r1)⟩
structure Xc0 (K : PySem.W.Frag) (c : Str) : Prop where
  x : XcC K (He.ga K c)
  q : PySem.W.excIn K (He.ga K c) He.veBase "ValueError.__new__" = true
theorem pmk_own0 {C : Addr} {bmB : List Value} {B newId initId : String} {x : Str} {p : Pos} (F : ExcBaseFacts B newId initId bmB) (q : PySem.W.excIn X.K C bmB newId = true) (gC : X.mg x = some (.ref C)) (kC : PySem.W.keepIn X.K (.ref C) = true) (r : Raises X (.ref C)) (hg : Gl X x)
    (hdb : (x == ("__debug__" : Str)) = false := by decide) : PMk X (.Call (.Name x p) [] [] pos) (fun _ H Q => Q (.ref C) none H) := by
  intro pins s σ H Q I h
  refine wpAny_Call_Name_kw (ld_glob I hg gC (PySem.W.callWith_K0 I.kIn kC ?_) hdb)
  obtain ⟨bm, N, nm, qn, bs, hdct, sn, sub, ab, col, dd, k0, k1, k2, k3, k5, mN, hC, hN, hni, T⟩ := exc_obj I.kIn q
  refine wpAny_call_exc_subT F T hC hN hni (fun h' e hm => ?_) (Nat.zero_le _)
  exact mk_of I hm r h (I.hok.gone hm.new)
def yRaise0 (c : Str) : SX := fun ρ m => some (.ex ⟨c, [], []⟩ ρ, m)
theorem dy_raise0 {c : Str} {p p' : Pos} (hc : X.calm = true) (h : Xc0 X.K c) (hg : Gl X c) (hm : X.mg c = some (.ref (He.ga X.K c))) (hdb : (c == ("__debug__" : Str)) = false := by decide) : DY X (.Raise (some (.Call (.Name c p) [] [] pos)) none p') (yRaise0 c) := by
  refine ⟨fun W tk => (ps_raise hc tk (pmk_own0 F.excBase_ValueError h.q hm h.x.kp h.x.raises hg hdb)).imp fun D σ H hw => ?_⟩
  obtain ⟨T, ρ, m, z, m', hm, hs, hf, k⟩ := hw
  cases hf
  exact k _ none σ T H .refl hm hs ⟨rfl, .inl ⟨rfl, rfl, rfl⟩⟩
end
end L4
namespace L4
open PySem PySem.Spec PyProof.Rows L2
theorem xmB_ok {K : PySem.W.Frag} {y c : Str} {b : Bool} (h : xmB K y c b = true) : PySem.W.exmOne K (.ref (He.ga K y)) (.ref (He.ga K c)) = some b := of_decide_eq_true h
theorem xiB_ok {K : PySem.W.Frag} {y c : Str} {b : Bool} (h : xiB K y c b = true) : PySem.W.kitOne K (.ref (He.ga K y)) (.ref (He.ga K c)) = some b := of_decide_eq_true h
theorem xc0B_ok {K : PySem.W.Frag} {c : Str} (h : xcB K (He.ga K c) = true) (q : xc0B K c = true) : Xc0 K c := ⟨xcB_ok h, q⟩
def oxP (F : List D → Option Rv) (ds : List D) : Option D := match F ds with
  | some (.ok d) => some d
  | _ => none
theorem oxP_some {F : List D → Option Rv} {ds : List D} {d : D} (h : oxP F ds = some d) : F ds = some (.ok d) := by
  unfold oxP at h
  split at h
  · next e => cases h; exact e
  · cases h
theorem oxP_of {F : List D → Option Rv} {ds : List D} {d : D} (h : F ds = some (.ok d)) : oxP F ds = some d := by unfold oxP; rw [h]
section
variable {P : Program} {w : World} {K : PySem.W.Frag} {mg : Str → Option Value} {base : Heap} {k n : Nat} {x c m : Str} {f : Addr} {fd : FuncData} {ps : List Str}
theorem FnG.noX {sp sp' : Sp} (h : FnG P w K mg base (L2.CX P w) k f fd ps sp) (i : ∀ vs H Q E, sp' vs H Q E → sp vs H Q fun _ _ _ => False) : FnG P w K mg base CX0 k f fd ps sp' :=
  ⟨fun vs H Q E q => h.len _ _ _ _ (i _ _ _ _ q), fun A outer s H args us vs Q E hg hr e0 hb rv q => codeAny_mono (h.run A outer s H args us vs Q _ hg hr e0 hb rv (i _ _ _ _ q)) fun r s' z => by
    match r, z with
    | .ok (.ret u), z => exact z
    | .ok .next, z => exact z
    | .ok .brk, z => exact z
    | .ok .cont, z => exact z
    | .error e, z =>
      obtain ⟨_, _, _, _, _, _, _, _, _, _, _, _, z⟩ := z
      exact z.elim⟩
theorem FnG.more {CX : CXT} {j : Nat} {sp : Sp} (h : FnG P w K mg base CX j f fd ps sp) (l : j ≤ k) : FnG P w K mg base CX k f fd ps sp :=
  ⟨h.len, fun A outer s H args us vs Q E hg hr e0 hb rv q => h.run A outer s H args us vs Q E hg (hr.mono l) e0 hb rv q⟩
theorem PFx.more {j : Nat} {F : List D → Option Rv} (h : PFx P w K mg base j x n F) (l : j ≤ k) : PFx P w K mg base k x n F := by
  obtain ⟨f, fd, ps, G, hm, kp, b⟩ := h.ex
  exact ⟨h.len, f, fd, ps, G.more l, hm, kp, b⟩
theorem pfx_oxP {F : List D → Option Rv} (h : PFx P w K mg base k x n F) : PFn P w K mg base k x n (oxP F) := by
  obtain ⟨f, fd, ps, G, hm, kp, b⟩ := h.ex
  refine ⟨fun ds d e => h.len _ _ (oxP_some e), f, fd, ps, G.noX fun vs H Q E q => ?_, hm, kp, b⟩
  obtain ⟨l, ν, ds, d, h1, h2, h3, h4⟩ := q
  exact ⟨l, ν, ds, .ok d, h1, h2, oxP_some h3, h4⟩
end
def RxE (f : EF) (y : EX) : Prop := ∀ ρ m d m', f ρ m = some (d, m') → y ρ m = some (.ok d, m')
def RxS (f : SF) (y : SX) : Prop := ∀ ρ m r m', f ρ m = some (r, m') → y ρ m = some (.fl r, m')
theorem rx_of {f : SF} : RxS f (yOf f) := fun ρ m d m' h => by unfold yOf; rw [h]; rfl
theorem rx_no {y : SX} : RxS sNo y := fun ρ m r m' h => nomatch h
theorem rx_seq {a b : SF} {ya yb : SX} (ha : RxS a ya) (hb : RxS b yb) : RxS (sSeq a b) (ySeq ya yb) := fun ρ m r m' h => by
  obtain ⟨x, m1, e1, h⟩ := bd_some h
  show bd (ya ρ m) _ = _
  rw [ha _ _ _ _ e1]
  cases x with
  | nx ρ1 => exact hb _ _ _ _ h
  | rt d => cases h; rfl
  | bk ρ => cases h; rfl
  | ct ρ => cases h; rfl
theorem rx_if {c : TF} {a b : SF} {ya yb : SX} (ha : RxS a ya) (hb : RxS b yb) : RxS (sIf c a b) (yIf c ya yb) := fun ρ m r m' h => by
  obtain ⟨x, m1, e1, h⟩ := bd_some h
  show bd (c ρ m) _ = _
  rw [e1]
  cases x with
  | true => exact ha _ _ _ _ h
  | false => exact hb _ _ _ _ h
theorem rx_drop {a : EF} {y : EX} (h : RxE a y) : RxS (sDrop a) (yDrop y) := fun ρ m r m' e => by
  obtain ⟨x, m1, e1, e⟩ := bd_some e
  cases e
  show bdY ρ (y ρ m) _ = _
  rw [h _ _ _ _ e1]
  rfl
theorem rx_ret {a : EF} {y : EX} (h : RxE a y) : RxS (sRet a) (yRet y) := fun ρ m r m' e => by
  obtain ⟨x, m1, e1, e⟩ := bd_some e
  cases e
  show bdY ρ (y ρ m) _ = _
  rw [h _ _ _ _ e1]
  rfl
theorem rx_asg {a : EF} {y : EX} {g : GF} (h : RxE a y) : RxS (sAsg a g) (yAsg y g) := fun ρ m r m' e => by
  obtain ⟨x, m1, e1, e⟩ := bd_some e
  obtain ⟨ρ1, m2, e2, e⟩ := bd_some e
  cases e
  show bdY ρ (y ρ m) _ = _
  rw [h _ _ _ _ e1]
  show bd (g x ρ m1) _ = _
  rw [e2]
  rfl
theorem rx_notN {a : EF} {y : EX} (h : RxE a y) : RxE (eNotN a) (xUn notNU y) := fun ρ m r m' e => by
  obtain ⟨x, m1, e1, e⟩ := bd_some e
  cases e
  show bdX (y ρ m) _ = _
  rw [h _ _ _ _ e1]
  rfl
def RxP (F : List D → Option D) (G : List D → Option Rv) : Prop := ∀ ds d, F ds = some d → G ds = some (.ok d)
theorem callP_rx {F : List D → Option D} {G : List D → Option Rv} (h : RxP F G) {m : M} {ds : List D} {d : D} (e : callP F m ds = some d) : callPX G m ds = some (.ok d) := by
  unfold callP at e
  unfold callPX
  split at e
  · next hp => rw [if_pos hp]; exact h _ _ e
  · next hp =>
    rw [if_neg hp]
    split at e
    · next es h1 =>
      split at e
      · next d2 h2 =>
        obtain ⟨hg, e⟩ := ite_some e
        cases e
        simp only [h1, h _ _ h2, hg, if_true]
      · cases e
    · cases e
theorem rx_call {F : List D → Option D} {G : List D → Option Rv} {a : AF} (h : RxP F G) : RxE (eCall (callP F) a) (eCallX (callPX G) a) := fun ρ m d m' e => by
  obtain ⟨xs, m1, e1, e⟩ := bd_some e
  obtain ⟨e2, rfl⟩ := pu_some e
  show bd (a ρ m) _ = _
  rw [e1]
  show (callPX G _ xs).map _ = _
  rw [callP_rx h e2]
  rfl
theorem rx_run {a n : Nat} {f : SF} {y : SX} (h : RxS f y) : RxP (runP a n f) (runPX a n y) := fun ds d e => by
  obtain ⟨hl, e⟩ := ite_some e
  unfold runPX
  rw [if_pos hl]
  unfold endP at e
  split at e
  · next x m h1 => rw [h _ _ _ _ h1]; show (frz m x).map _ = _; rw [e]; rfl
  · next ρ m h1 => rw [h _ _ _ _ h1]; cases e; rfl
  · cases e
end L4
namespace L4
open PySem L2 TL
def f__law_box_1 : SF := sRet (eNewL (aCons (eOp ixA (eLst (aCons (eC (.int 0)) (aCons (eVar 2) (aNil)))) (eCall intD (aCons (eOp geD (eVar 2) (eOp powD (eC (.int 10)) (eC (.int 18)))) (aNil)))) (aCons (eVar 3) (aCons (eC (.int 0)) (aNil)))))
def f__law_box_2 : SF := sSeq (sAsg (eOp addD (eOp modD (eCall intD (aCons (eOp addD (eOp addD (eOp mulD (eOp modD (eCall intD (aCons (eVar 2) (aNil))) (eC (.int 2147483629))) (eC (.int 45427))) (eOp mulD (eC (.int 38201)) (eVar 1))) (eC (.int 17))) (aNil))) (eC (.int 2147483629))) (eC (.int 1))) (gNm 3)) (f__law_box_1)
def f__law_box_3 : SF := sSeq (sIf (tVal (eOp ltD (eVar 1) (eCall lenD (aCons (eVar 0) (aNil))))) (sAsg (eCall absD (aCons (eCall intD (aCons (eOp ixA (eVar 0) (eVar 1)) (aNil))) (aNil))) (gNm 2)) (sIf (tVal (eOp gtD (eCall lenD (aCons (eVar 0) (aNil))) (eC (.int 0)))) (sAsg (eOp addD (eVar 2) (eOp mulD (eOp modD (eCall intD (aCons (eOp ixA (eVar 0) (eOp modD (eCall intD (aCons (eVar 1) (aNil))) (eCall lenD (aCons (eVar 0) (aNil))))) (aNil))) (eC (.int 2147483629))) (eC (.int 82373)))) (gNm 2)) (sNop))) (f__law_box_2)
def f__law_box : SF := sSeq (sAsg (eOp addD (eOp mulD (eC (.int 6421)) (eVar 1)) (eC (.int 71))) (gNm 2)) (f__law_box_3)
def F__law_box := runM 2 4 f__law_box
def f_number_in_1 : SF := sRet (eIf (tOr (tVal (eOp eqD (eVar 0) (eC (.str "0")))) (tVal (eOp neD (eOp ixA (eVar 0) (eC (.int 0))) (eC (.str "0"))))) (eCall intD (aCons (eVar 0) (aNil))) (eC .non))
def f_number_in : SF := sSeq (sIf (tOr (tNot (tVal (eChain leD leD (eC (.int 1)) (eCall lenD (aCons (eVar 0) (aNil))) (eVar 1)))) (tNot (tVal (eCall allD (aCons (eLcK false (iIt (eVar 0)) (.one 2) (tTrue) (eOp inA (eVar 2) (eC (.str "0123456789")))) (aNil)))))) (sRet (eC .non)) (sNop)) (f_number_in_1)
def F_number_in := runP 2 3 f_number_in
abbrev f_numbers_in_1 : SF := sRet (eIf (tVal (eOp inA (eC .non) (eVar 1))) (eC .non) (eVar 1))
abbrev f_numbers_in : SF := sSeq (sAsg (eLcK false (iIt (eVar 0)) (.one 2) (tTrue) (eCall (callP F_number_in) (aCons (eVar 2) (aCons (eC (.int 2)) (aNil))))) (gNm 1)) (f_numbers_in_1)
def F_numbers_in := runP 1 3 f_numbers_in
abbrev f_share_in_1 : SF := sRet (eIf (tVal (eOp eqD (eCall lenD (aCons (eVar 1) (aNil))) (eC (.int 2)))) (eCall (callP F_numbers_in) (aCons (eVar 1) (aNil))) (eC .non))
abbrev f_share_in : SF := sSeq (sAsg (eM1 splitD (eVar 0) (eC (.str "/"))) (gNm 1)) (f_share_in_1)
def F_share_in := runP 1 2 f_share_in
def f_is_word : SF := sRet (eAnd (eCall isiD (aCons (eVar 0) (aCons (eC (.ty "str")) (aNil)))) (eOp inA (eVar 0) (eVar 1)))
def F_is_word := runP 2 2 f_is_word
abbrev f_words_between_1 : SF := sRet (eIf (tAnd (tVal (eCall (callP F_is_word) (aCons (eOp ixA (eVar 0) (eC (.int 13))) (aCons (eC (.tup [.str "half", .str "open", .str "trial"])) (aNil))))) (tVal (eCall (callP F_is_word) (aCons (eOp ixA (eVar 0) (eC (.int 18))) (aCons (eC (.tup [.str "fault", .str "no", .str "out"])) (aNil)))))) (eVar 1) (eLst (aNil)))
abbrev f_words_between_2 : SF := sSeq (sFor (iZpM (aCons (eTup (aCons (eC (.int 0)) (aCons (eC (.int 2)) (aCons (eC (.int 4)) (aCons (eC (.int 6)) (aCons (eC (.int 8)) (aCons (eC (.int 10)) (aCons (eC (.int 12)) (aCons (eC (.int 14)) (aCons (eC (.int 17)) (aNil))))))))))) (aCons (eM1 splitD (eC (.str "leave of out more most calm back share hears")) (eC (.str " "))) (aNil)))) (gTgt (.many [2, 3])) (sAsg (eVar 3) (gSetA (eVar 1) (eVar 2)))) (f_words_between_1)
abbrev f_words_between : SF := sSeq (sAsg (eLisN (eVar 0)) (gNm 1)) (f_words_between_2)
def F_words_between := runP 1 4 f_words_between
def f_is_integer : SF := sRet (eAnd (eCall isiD (aCons (eVar 0) (aCons (eC (.ty "int")) (aNil)))) (eNot (eCall isiD (aCons (eVar 0) (aCons (eC (.ty "bool")) (aNil))))))
def F_is_integer := runP 1 1 f_is_integer
def f_is_from : SF := sRet (eAnd (eCall (callP F_is_integer) (aCons (eVar 0) (aNil))) (eOp geD (eVar 0) (eVar 1)))
def F_is_from := runP 2 2 f_is_from
def f_is_number : SF := sRet (eAnd (eCall (callP F_is_integer) (aCons (eVar 0) (aNil))) (eOp geD (eVar 0) (eC (.int 0))))
def F_is_number := runP 1 1 f_is_number
def f_wrong_number_1 : SF := sRet (eIf (tVal (eCall (callP F_is_number) (aCons (eVar 5) (aNil)))) (eC .non) (eC (.str "calm")))
def f_wrong_number_2 : SF := sSeq (sIf (tNot (tVal (eCall (callP F_is_from) (aCons (eVar 4) (aCons (eVar 2) (aNil)))))) (sRet (eC (.str "most"))) (sNop)) (f_wrong_number_1)
def f_wrong_number_3 : SF := sSeq (sIf (tNot (tVal (eCall (callP F_is_number) (aCons (eVar 3) (aNil))))) (sRet (eC (.str "more"))) (sNop)) (f_wrong_number_2)
def f_wrong_number_4 : SF := sSeq (sIf (tNot (tVal (eCall (callP F_is_from) (aCons (eVar 2) (aCons (eC (.int 1)) (aNil)))))) (sRet (eC (.str "base"))) (sNop)) (f_wrong_number_3)
def f_wrong_number_5 : SF := sSeq (sIf (tNot (tVal (eCall (callP F_is_from) (aCons (eVar 1) (aCons (eVar 0) (aNil)))))) (sRet (eC (.str "of"))) (sNop)) (f_wrong_number_4)
def f_wrong_number : SF := sSeq (sIf (tNot (tVal (eCall (callP F_is_from) (aCons (eVar 0) (aCons (eC (.int 1)) (aNil)))))) (sRet (eC (.str "need"))) (sNop)) (f_wrong_number_5)
def F_wrong_number := runP 6 6 f_wrong_number
def f_wrong_word_1 : SF := sRet (eIf (tVal (eCall (callP F_is_word) (aCons (eVar 4) (aCons (eC (.tup [.str "fault", .str "no", .str "out"])) (aNil))))) (eC .non) (eC (.str "hears")))
def f_wrong_word_2 : SF := sSeq (sIf (tNot (tVal (eCall isiD (aCons (eVar 3) (aCons (eC (.ty "bool")) (aNil)))))) (sRet (eC (.str "up"))) (sNop)) (f_wrong_word_1)
def f_wrong_word_3 : SF := sSeq (sIf (tOr (tNot (tVal (eCall (callP F_is_integer) (aCons (eVar 2) (aNil))))) (tOr (tVal (eOp ltD (eVar 2) (eC (.int 1)))) (tVal (eOp ltD (eVar 2) (eVar 1))))) (sRet (eC (.str "under"))) (sNop)) (f_wrong_word_2)
def f_wrong_word_4 : SF := sSeq (sIf (tNot (tVal (eCall (callP F_is_number) (aCons (eVar 1) (aNil))))) (sRet (eC (.str "top"))) (sNop)) (f_wrong_word_3)
def f_wrong_word : SF := sSeq (sIf (tNot (tVal (eCall (callP F_is_word) (aCons (eVar 0) (aCons (eC (.tup [.str "half", .str "open", .str "trial"])) (aNil)))))) (sRet (eC (.str "back"))) (sNop)) (f_wrong_word_4)
def F_wrong_word := runP 5 5 f_wrong_word
def f_Rule___init___1 : SF := sFldM ["Rule"] "cap" (eVar 0) (eIf (tVal (eOp eqD (eVar 4) (eC (.int 0)))) (eC (.int 1)) (eOp addD (eC (.int 1)) (eOp fdivD (eOp subD (eOp addD (eOp subD (eVar 5) (eVar 3)) (eVar 4)) (eC (.int 1))) (eVar 4))))
def f_Rule___init___2 : SF := sSeq (sFldM ["Rule"] "hears" (eVar 0) (eVar 11)) (f_Rule___init___1)
def f_Rule___init___3 : SF := sSeq (sFldM ["Rule"] "up" (eVar 0) (eVar 10)) (f_Rule___init___2)
def f_Rule___init___4 : SF := sSeq (sFldM ["Rule"] "under" (eVar 0) (eVar 9)) (f_Rule___init___3)
def f_Rule___init___5 : SF := sSeq (sFldM ["Rule"] "top" (eVar 0) (eVar 8)) (f_Rule___init___4)
def f_Rule___init___6 : SF := sSeq (sFldM ["Rule"] "back" (eVar 0) (eVar 7)) (f_Rule___init___5)
def f_Rule___init___7 : SF := sSeq (sFldM ["Rule"] "calm" (eVar 0) (eVar 6)) (f_Rule___init___6)
def f_Rule___init___8 : SF := sSeq (sFldM ["Rule"] "most" (eVar 0) (eVar 5)) (f_Rule___init___7)
def f_Rule___init___9 : SF := sSeq (sFldM ["Rule"] "more" (eVar 0) (eVar 4)) (f_Rule___init___8)
def f_Rule___init___10 : SF := sSeq (sFldM ["Rule"] "base" (eVar 0) (eVar 3)) (f_Rule___init___9)
def f_Rule___init___11 : SF := sSeq (sFldM ["Rule"] "of" (eVar 0) (eVar 2)) (f_Rule___init___10)
def f_Rule___init___12 : SF := sSeq (sFldM ["Rule"] "need" (eVar 0) (eVar 1)) (f_Rule___init___11)
def f_Rule___init___13 : SF := sSeq (sIf (tVal (eNotN (eVar 12))) (sNo) (sNop)) (f_Rule___init___12)
def f_Rule___init___14 : SF := sSeq (sIf (tVal (eIsN (eVar 12))) (sAsg (eCall (callP F_wrong_word) (aCons (eVar 7) (aCons (eVar 8) (aCons (eVar 9) (aCons (eVar 10) (aCons (eVar 11) (aNil))))))) (gNm 12)) (sNop)) (f_Rule___init___13)
def f_Rule___init__ : SF := sSeq (sAsg (eCall (callP F_wrong_number) (aCons (eVar 1) (aCons (eVar 2) (aCons (eVar 3) (aCons (eVar 4) (aCons (eVar 5) (aCons (eVar 6) (aNil)))))))) (gNm 12)) (f_Rule___init___14)
def F_Rule___init__ := runM 12 13 f_Rule___init__
abbrev f_Rule_read_1 : SF := sRet (eNewPL 0 "Rule" F_Rule___init__ (aStar (eVar 3) (aCons (eVar 5) (aStar (eVar 4) (aCons (eVar 6) (aCons (eVar 7) (aNil)))))))
abbrev f_Rule_read_2 : SF := sSeq (sPar [5, 6, 7] (aCons (eOp ixA (eVar 2) (eC (.int 13))) (aCons (eTbl tb_ROUNDS (eOp ixA (eVar 2) (eC (.int 16)))) (aCons (eOp ixA (eVar 2) (eC (.int 18))) (aNil))))) (f_Rule_read_1)
abbrev f_Rule_read_3 : SF := sSeq (sIf (tVal (eOp neD (eVar 2) (eCall (callP F_words_between) (aCons (eVar 2) (aNil))))) (sNo) (sNop)) (f_Rule_read_2)
abbrev f_Rule_read_4 : SF := sSeq (sIf (tOr (tVal (eIsN (eVar 3))) (tOr (tVal (eIsN (eVar 4))) (tVal (eTblNin tb_ROUNDS (eOp ixA (eVar 2) (eC (.int 16))))))) (sNo) (sNop)) (f_Rule_read_3)
abbrev f_Rule_read_5 : SF := sSeq (sAsg (eCall (callP F_share_in) (aCons (eOp ixA (eVar 2) (eC (.int 15))) (aNil))) (gNm 4)) (f_Rule_read_4)
abbrev f_Rule_read_6 : SF := sSeq (sAsg (eCall (callP F_numbers_in) (aCons (eLcK false (iIt (eTup (aCons (eC (.int 1)) (aCons (eC (.int 3)) (aCons (eC (.int 5)) (aCons (eC (.int 7)) (aCons (eC (.int 9)) (aCons (eC (.int 11)) (aNil))))))))) (.one 8) (tTrue) (eOp ixA (eVar 2) (eVar 8))) (aNil))) (gNm 3)) (f_Rule_read_5)
abbrev f_Rule_read_7 : SF := sSeq (sIf (tVal (eOp neD (eCall lenD (aCons (eVar 2) (aNil))) (eC (.int 19)))) (sNo) (sNop)) (f_Rule_read_6)
abbrev f_Rule_read : SF := sSeq (sAsg (eM1 splitD (eVar 1) (eC (.str " "))) (gNm 2)) (f_Rule_read_7)
def F_Rule_read := runP 2 9 f_Rule_read
abbrev f__law_rule_text_1 : SF := sRet (eM1 joinD (eC (.str " ")) (eOp addD (eVar 1) (eLst (aCons (eC (.str "hears")) (aCons (eOp ixA (eVar 0) (eC (.str "hears"))) (aNil))))))
abbrev f__law_rule_text_2 : SF := sSeq (sAsg (eOp addD (eVar 1) (eLst (aCons (eC (.str "share")) (aCons (eOp addD (eOp addD (eCall strT (aCons (eOp ixA (eVar 0) (eC (.str "top"))) (aNil))) (eC (.str "/"))) (eCall strT (aCons (eOp ixA (eVar 0) (eC (.str "under"))) (aNil)))) (aCons (eIf (tVal (eOp ixA (eVar 0) (eC (.str "up")))) (eC (.str "up")) (eC (.str "down"))) (aNil)))))) (gNm 1)) (f__law_rule_text_1)
abbrev f__law_rule_text_3 : SF := sSeq (sAsg (eOp addD (eVar 1) (eLst (aCons (eC (.str "most")) (aCons (eCall strT (aCons (eOp ixA (eVar 0) (eC (.str "most"))) (aNil))) (aCons (eC (.str "calm")) (aCons (eCall strT (aCons (eOp ixA (eVar 0) (eC (.str "calm"))) (aNil))) (aCons (eC (.str "back")) (aCons (eOp ixA (eVar 0) (eC (.str "back"))) (aNil))))))))) (gNm 1)) (f__law_rule_text_2)
abbrev f__law_rule_text : SF := sSeq (sAsg (eLst (aCons (eC (.str "leave")) (aCons (eCall strT (aCons (eOp ixA (eVar 0) (eC (.str "need"))) (aNil))) (aCons (eC (.str "of")) (aCons (eCall strT (aCons (eOp ixA (eVar 0) (eC (.str "of"))) (aNil))) (aCons (eC (.str "out")) (aCons (eCall strT (aCons (eOp ixA (eVar 0) (eC (.str "base"))) (aNil))) (aCons (eC (.str "more")) (aCons (eCall strT (aCons (eOp ixA (eVar 0) (eC (.str "more"))) (aNil))) (aNil)))))))))) (gNm 1)) (f__law_rule_text_3)
def F__law_rule_text := runP 1 2 f__law_rule_text
abbrev f__law_rule_of : SF := sRet (eCall (callP fun ds => F_Rule_read (.glo "Rule" :: ds)) (aCons (eCall (callP F__law_rule_text) (aCons (eVar 0) (aNil))) (aNil)))
def F__law_rule_of := runP 1 1 f__law_rule_of
def f__law_take_1 : SF := sSeq (sAsg (eOp fdivD (eOp ixA (eVar 0) (eC (.int 0))) (eVar 1)) (gSetA (eVar 0) (eC (.int 0)))) (sRet (eVar 2))
def f__law_take_2 : SF := sRet (eOp modD (eCall intD (aCons (eOp fdivD (eOp addD (eOp mulD (eVar 3) (eC (.int 2147483647))) (eOp ixA (eVar 0) (eC (.int 1)))) (eC (.int 8191))) (aNil))) (eVar 1))
def f__law_take_3 : SF := sSeq (sAsg (eOp addD (eOp modD (eCall intD (aCons (eOp addD (eOp mulD (eVar 3) (eC (.int 46021))) (eC (.int 28051))) (aNil))) (eC (.int 2147483629))) (eC (.int 1))) (gSetA (eVar 0) (eC (.int 1)))) (f__law_take_2)
def f__law_take_4 : SF := sSeq (sAsg (eOp modD (eCall intD (aCons (eOp mulD (eOp addD (eOp ixA (eVar 0) (eC (.int 1))) (eOp mulD (eC (.int 98641)) (eOp ixA (eVar 0) (eC (.int 2))))) (eC (.int 70381))) (aNil))) (eC (.int 2147483647))) (gNm 3)) (f__law_take_3)
def f__law_take_5 : SF := sSeq (sAsg (eOp addD (eOp ixA (eVar 0) (eC (.int 2))) (eC (.int 1))) (gSetA (eVar 0) (eC (.int 2)))) (f__law_take_4)
def f__law_take : SF := sSeq (sIf (tVal (eOp gtD (eOp ixA (eVar 0) (eC (.int 0))) (eC (.int 0)))) (sSeq (sAsg (eOp modD (eCall intD (aCons (eOp ixA (eVar 0) (eC (.int 0))) (aNil))) (eVar 1)) (gNm 2)) (f__law_take_1)) (sNop)) (f__law_take_5)
def F__law_take := runM 2 4 f__law_take
abbrev f__law_pick : SF := sRet (eOp ixA (eVar 1) (eCallM F__law_take (aCons (eVar 0) (aCons (eCall lenD (aCons (eVar 1) (aNil))) (aNil)))))
def F__law_pick := runM 2 2 f__law_pick
abbrev f__law_rule_1 : SF := sSeq (sDrop (eUpd (eVar 5) (eDisp false [(eC (.str "up"), eOp eqD (eCallM F__law_take (aCons (eVar 0) (aCons (eC (.int 2)) (aNil)))) (eC (.int 0))), (eC (.str "hears"), eCallM F__law_pick (aCons (eVar 0) (aCons (eLst (aCons (eC (.str "fault")) (aCons (eC (.str "no")) (aCons (eC (.str "out")) (aNil))))) (aNil))))]))) (sRet (eVar 5))
abbrev f__law_rule_2 : SF := sSeq (sAsg (eCallM F__law_take (aCons (eVar 0) (aCons (eOp addD (eOp ixA (eVar 5) (eC (.str "under"))) (eC (.int 1))) (aNil)))) (gSetA (eVar 5) (eC (.str "top")))) (f__law_rule_1)
abbrev f__law_rule_3 : SF := sSeq (sAsg (eOp addD (eC (.int 1)) (eCallM F__law_take (aCons (eVar 0) (aCons (eC (.int 6)) (aNil))))) (gSetA (eVar 5) (eC (.str "under")))) (f__law_rule_2)
abbrev f__law_rule_4 : SF := sSeq (sDrop (eUpd (eVar 5) (eDisp false [(eC (.str "calm"), eCallM F__law_take (aCons (eVar 0) (aCons (eOp addD (eVar 3) (eC (.int 1))) (aNil)))), (eC (.str "back"), eCallM F__law_pick (aCons (eVar 0) (aCons (eLst (aCons (eC (.str "half")) (aCons (eC (.str "open")) (aCons (eC (.str "trial")) (aNil))))) (aNil))))]))) (f__law_rule_3)
abbrev f__law_rule_5 : SF := sSeq (sAsg (eOp addD (eOp ixA (eVar 5) (eC (.str "base"))) (eCallM F__law_take (aCons (eVar 0) (aCons (eOp addD (eOp subD (eVar 2) (eOp ixA (eVar 5) (eC (.str "base")))) (eC (.int 1))) (aNil))))) (gSetA (eVar 5) (eC (.str "most")))) (f__law_rule_4)
abbrev f__law_rule_6 : SF := sSeq (sAsg (eCallM F__law_pick (aCons (eVar 0) (aCons (eLst (aCons (eC (.int 0)) (aCons (eC (.int 1)) (aCons (eC (.int 2)) (aCons (eC (.int 1)) (aCons (eC (.int 0)) (aCons (eC (.int 5)) (aCons (eC (.int 9)) (aNil))))))))) (aNil)))) (gSetA (eVar 5) (eC (.str "more")))) (f__law_rule_5)
abbrev f__law_rule_7 : SF := sSeq (sAsg (eDisp true [(eC (.str "need"), eVar 4), (eC (.str "of"), eOp addD (eVar 4) (eCallM F__law_take (aCons (eVar 0) (aCons (eOp addD (eOp subD (eVar 1) (eVar 4)) (eC (.int 1))) (aNil))))), (eC (.str "base"), eOp addD (eC (.int 1)) (eCallM F__law_take (aCons (eVar 0) (aCons (eVar 2) (aNil)))))]) (gNm 5)) (f__law_rule_6)
abbrev f__law_rule : SF := sSeq (sAsg (eOp addD (eC (.int 1)) (eCallM F__law_take (aCons (eVar 0) (aCons (eVar 1) (aNil))))) (gNm 4)) (f__law_rule_7)
def F__law_rule := runM 4 6 f__law_rule
abbrev f_need_goal : SF := sIf (tOr (tNot (tVal (eCall (isiTA ["Rule"]) (aCons (eVar 0) (aCons (eC (.ty "str")) (aNil)))))) (tVal (eOp ninA (eVar 0) (eC (.tup [.str "all", .str "kept", .str "swap"]))))) (sNo) (sNop)
def F_need_goal := runP 1 1 f_need_goal
abbrev f_up_to : SF := sRet (eUn negD (eOp fdivD (eUn negD (eVar 0)) (eVar 1)))
def F_up_to := runP 2 2 f_up_to
abbrev f_least_short : SF := sRet (eIf (tVal (eFld ["Rule"] "up" (eVar 0))) (eCall (callP F_up_to) (aCons (eFld ["Rule"] "under" (eVar 0)) (aCons (eOp subD (eFld ["Rule"] "under" (eVar 0)) (eFld ["Rule"] "top" (eVar 0))) (aNil)))) (eC (.int 1)))
def F_least_short := runP 1 1 f_least_short
def f_Rule_time : SF := sRet (eCall min2D (aCons (eCall intD (aCons (eOp addD (eFld ["Rule"] "base" (eVar 0)) (eOp mulD (eFld ["Rule"] "more" (eVar 0)) (eOp subD (eVar 1) (eC (.int 1))))) (aNil))) (aCons (eCall intD (aCons (eFld ["Rule"] "most" (eVar 0)) (aNil))) (aNil))))
def F_Rule_time := runP 2 2 f_Rule_time
abbrev f_is_lasting : SF := sRet (eOr (eOp eqD (eFld ["Rule"] "back" (eVar 0)) (eC (.str "trial"))) (eOp gtD (eMth "Rule" "time" (callP F_Rule_time) (eVar 0) (aCons (eFld ["Rule"] "cap" (eVar 0)) (aNil))) (eC (.int 1))))
def F_is_lasting := runP 1 1 f_is_lasting
abbrev f_is_missable : SF := sRet (eOr (eCall (callP F_is_lasting) (aCons (eVar 0) (aNil))) (eOp neD (eFld ["Rule"] "hears" (eVar 0)) (eC (.str "no"))))
def F_is_missable := runP 1 1 f_is_missable
abbrev f_numbers_1 : SF := sRet (eIf (tAnd (tVal (eFld ["Rule"] "up" (eVar 0))) (tVal (eOp gtD (eFld ["Rule"] "top" (eVar 0)) (eC (.int 0))))) (eTup (aCons (eC (.int 1)) (aCons (eOp subD (eCall (callP F_least_short) (aCons (eVar 0) (aNil))) (eC (.int 1))) (aNil)))) (eC .non))
abbrev f_numbers_2 : SF := sRet (eTup (aCons (eIf (tOr (tVal (eOp eqD (eVar 1) (eC (.str "kept")))) (tVal (eFld ["Rule"] "up" (eVar 0)))) (eVar 3) (eCall (callP F_up_to) (aCons (eFld ["Rule"] "under" (eVar 0)) (aCons (eFld ["Rule"] "top" (eVar 0)) (aNil))))) (aCons (eC .non) (aNil))))
abbrev f_numbers_3 : SF := sSeq (sAsg (eCall (callP F_least_short) (aCons (eVar 0) (aNil))) (gNm 3)) (f_numbers_2)
abbrev f_numbers_4 : SF := sSeq (sIf (tOr (tVal (eVar 2)) (tAnd (tVal (eOp eqD (eVar 1) (eC (.str "swap")))) (tOr (tVal (eOp eqD (eFld ["Rule"] "top" (eVar 0)) (eC (.int 0)))) (tNot (tVal (eCall (callP F_is_missable) (aCons (eVar 0) (aNil)))))))) (sRet (eC .non)) (sNop)) (f_numbers_3)
abbrev f_numbers_5 : SF := sSeq (sIf (tVal (eOp eqD (eVar 1) (eC (.str "all")))) (sSeq (sIf (tVal (eVar 2)) (sRet (eTup (aCons (eC (.int 1)) (aCons (eC .non) (aNil))))) (sNop)) (f_numbers_1)) (sNop)) (f_numbers_4)
abbrev f_numbers_6 : SF := sSeq (sAsg (eOp eqD (eFld ["Rule"] "top" (eVar 0)) (eFld ["Rule"] "under" (eVar 0))) (gNm 2)) (f_numbers_5)
abbrev f_numbers : SF := sSeq (sDrop (eCall (callP F_need_goal) (aCons (eVar 1) (aNil)))) (f_numbers_6)
def F_numbers := runP 2 4 f_numbers
abbrev f_happens : SF := sRet (eNotN (eCall (callP F_numbers) (aCons (eVar 0) (aCons (eVar 1) (aNil)))))
def F_happens := runP 2 2 f_happens
abbrev y_need_goal : SX := yIf (tOr (tNot (tVal (eCall (isiTA ["Rule"]) (aCons (eVar 0) (aCons (eC (.ty "str")) (aNil)))))) (tVal (eOp ninA (eVar 0) (eC (.tup [.str "all", .str "kept", .str "swap"]))))) (yRaise0 "InvalidGoal") (yOf (sNop))
def FX_need_goal := runPX 1 1 y_need_goal
theorem rx_need_goal : RxP F_need_goal FX_need_goal := rx_run (rx_if (rx_no) (rx_of))
abbrev y_numbers : SX := ySeq (yDrop (eCallX (callPX FX_need_goal) (aCons (eVar 1) (aNil)))) (yOf (f_numbers_6))
def FX_numbers := runPX 2 4 y_numbers
theorem rx_numbers : RxP F_numbers FX_numbers := rx_run (rx_seq (rx_drop (rx_call rx_need_goal)) (rx_of))
abbrev y_happens : SX := yRet (xUn notNU (eCallX (callPX FX_numbers) (aCons (eVar 0) (aCons (eVar 1) (aNil)))))
def FX_happens := runPX 2 2 y_happens
theorem rx_happens : RxP F_happens FX_happens := rx_run (rx_ret (rx_notN (rx_call rx_numbers)))
def f_begun : SF := sRet (eTup (aCons (eC (.str "in")) (aCons (eTup (aNil)) (aCons (eC (.int 0)) (aCons (eC (.int 0)) (aNil))))))
def F_begun := runP 0 0 f_begun
def f_Builder___init___1 : SF := sSeq (sFldM ["Builder"] "now" (eVar 0) (eRepNew (eLst (aCons (eCall (callP F_begun) aNil) (aNil))) (eVar 2))) (sFldM ["Builder"] "events" (eVar 0) (eNewL (aNil)))
def f_Builder___init__ : SF := sSeq (sFldM ["Builder"] "by" (eVar 0) (eVar 1)) (f_Builder___init___1)
def F_Builder___init__ := runM 3 3 f_Builder___init__
abbrev f_Rule_limit : SF := sRet (eOp fdivD (eOp addD (eOp mulD (eVar 1) (eFld ["Rule"] "top" (eVar 0))) (eIf (tVal (eFld ["Rule"] "up" (eVar 0))) (eOp subD (eFld ["Rule"] "under" (eVar 0)) (eC (.int 1))) (eC (.int 0)))) (eFld ["Rule"] "under" (eVar 0)))
def F_Rule_limit := runP 2 2 f_Rule_limit
def f_come_back_1 : SF := sRet (eTup (aCons (eC (.str "in")) (aCons (eOp mulD (eTup (aCons (eC (.bl true)) (aNil))) (eVar 2)) (aCons (eVar 1) (aCons (eC (.int 0)) (aNil))))))
def f_come_back_2 : SF := sSeq (sAsg (eIf (tVal (eOp eqD (eFld ["Rule"] "back" (eVar 0)) (eC (.str "half")))) (eOp subD (eFld ["Rule"] "need" (eVar 0)) (eOp fdivD (eOp addD (eFld ["Rule"] "need" (eVar 0)) (eC (.int 1))) (eC (.int 2)))) (eC (.int 0))) (gNm 2)) (f_come_back_1)
def f_come_back : SF := sSeq (sIf (tVal (eOp eqD (eFld ["Rule"] "back" (eVar 0)) (eC (.str "trial")))) (sRet (eTup (aCons (eC (.str "trial")) (aCons (eVar 1) (aNil))))) (sNop)) (f_come_back_2)
def F_come_back := runP 2 3 f_come_back
def f_left_out_1 : SF := sRet (eTup (aCons (eC (.str "out")) (aCons (eMth "Rule" "time" (callP F_Rule_time) (eVar 0) (aCons (eVar 2) (aNil))) (aCons (eVar 2) (aNil)))))
def f_left_out : SF := sSeq (sAsg (eCall min2D (aCons (eOp addD (eVar 1) (eC (.int 1))) (aCons (eFld ["Rule"] "cap" (eVar 0)) (aNil)))) (gNm 2)) (f_left_out_1)
def F_left_out := runP 2 3 f_left_out
def f_after_ok_1 : SF := sRet (eIf (tVal (eOp geD (eOp addD (eVar 4) (eC (.int 1))) (eFld ["Rule"] "calm" (eVar 0)))) (eTup (aCons (eC (.str "in")) (aCons (eVar 2) (aCons (eC (.int 0)) (aCons (eC (.int 0)) (aNil)))))) (eTup (aCons (eC (.str "in")) (aCons (eVar 2) (aCons (eVar 3) (aCons (eOp addD (eVar 4) (eC (.int 1))) (aNil)))))))
def f_after_ok_2 : SF := sSeq (sIf (tOr (tVal (eOp eqD (eVar 3) (eC (.int 0)))) (tVal (eOp eqD (eFld ["Rule"] "calm" (eVar 0)) (eC (.int 0))))) (sRet (eTup (aCons (eC (.str "in")) (aCons (eVar 2) (aCons (eVar 3) (aCons (eC (.int 0)) (aNil))))))) (sNop)) (f_after_ok_1)
def f_after_ok_3 : SF := sSeq (sAsg (eSl (eTup (aStar (eVar 2) (aCons (eC (.bl false)) (aNil)))) (oYes (eUn negD (eFld ["Rule"] "of" (eVar 0)))) (oNo)) (gNm 2)) (f_after_ok_2)
def f_after_ok : SF := sSeq (sAsg (eSl (eVar 1) (oYes (eC (.int 1))) (oNo)) (gTgt (.many [2, 3, 4]))) (f_after_ok_3)
def F_after_ok := runP 2 5 f_after_ok
def f_at_try : SF := sRet (eIf (tVal (eVar 2)) (eTup (aCons (eCall (callP F_left_out) (aCons (eVar 0) (aCons (eOp ixA (eVar 1) (eC (.int 2))) (aNil)))) (aCons (eC (.bl false)) (aNil)))) (eTup (aCons (eVar 1) (aCons (eC (.bl true)) (aNil)))))
def F_at_try := runP 3 3 f_at_try
def f_after_fault_1 : SF := sRet (eCall (callP F_at_try) (aCons (eVar 0) (aCons (eVar 4) (aCons (eVar 2) (aNil)))))
def f_after_fault_2 : SF := sSeq (sIf (tVal (eOp ltD (eCall lenD (aCons (eLcK false (iIt (eVar 3)) (.one 5) (tVal (eVar 5)) (eVar 5)) (aNil))) (eFld ["Rule"] "need" (eVar 0)))) (sRet (eTup (aCons (eVar 4) (aCons (eC (.bl false)) (aNil))))) (sNop)) (f_after_fault_1)
def f_after_fault_3 : SF := sSeq (sAsg (eTup (aCons (eC (.str "in")) (aCons (eVar 3) (aCons (eOp ixA (eVar 1) (eC (.int 2))) (aCons (eC (.int 0)) (aNil)))))) (gNm 4)) (f_after_fault_2)
def f_after_fault : SF := sSeq (sAsg (eSl (eTup (aStar (eOp ixA (eVar 1) (eC (.int 1))) (aCons (eC (.bl true)) (aNil)))) (oYes (eUn negD (eFld ["Rule"] "of" (eVar 0)))) (oNo)) (gNm 3)) (f_after_fault_3)
def F_after_fault := runP 3 6 f_after_fault
def f_after_turn_1 : SF := sRet (eTup (aCons (eVar 6) (aCons (eIf (tVal (eVar 2)) (eC (.str "skip")) (eC (.str "missed"))) (aCons (eC (.bl false)) (aNil)))))
def f_after_turn_2 : SF := sSeq (sAsg (eIf (tVal (eOp eqD (eVar 4) (eC (.int 1)))) (eCall (callP F_come_back) (aCons (eVar 0) (aCons (eVar 5) (aNil)))) (eTup (aCons (eC (.str "out")) (aCons (eOp subD (eVar 4) (eC (.int 1))) (aCons (eVar 5) (aNil)))))) (gNm 6)) (f_after_turn_1)
def f_after_turn_3 : SF := sRet (eTup (aCons (eVar 6) (aCons (eC (.str "felt")) (aCons (eVar 7) (aNil)))))
def f_after_turn_4 : SF := sSeq (sAsg (eCall (callP F_after_fault) (aCons (eVar 0) (aCons (eVar 1) (aCons (eVar 3) (aNil))))) (gTgt (.many [6, 7]))) (f_after_turn_3)
def f_after_turn_5 : SF := sSeq (sIf (tNot (tVal (eVar 2))) (sRet (eTup (aCons (eCall (callP F_after_ok) (aCons (eVar 0) (aCons (eVar 1) (aNil)))) (aCons (eC (.str "ok")) (aCons (eC (.bl false)) (aNil)))))) (sNop)) (f_after_turn_4)
def f_after_turn_6 : SF := sSeq (sIf (tVal (eOp eqD (eOp ixA (eVar 1) (eC (.int 0))) (eC (.str "trial")))) (sRet (eIf (tVal (eVar 2)) (eTup (aCons (eCall (callP F_left_out) (aCons (eVar 0) (aCons (eOp ixA (eVar 1) (eC (.int 1))) (aNil)))) (aCons (eC (.str "felt")) (aCons (eC (.bl false)) (aNil))))) (eTup (aCons (eTup (aCons (eC (.str "in")) (aCons (eTup (aNil)) (aCons (eOp ixA (eVar 1) (eC (.int 1))) (aCons (eC (.int 0)) (aNil)))))) (aCons (eC (.str "ok")) (aCons (eC (.bl false)) (aNil))))))) (sNop)) (f_after_turn_5)
def f_after_turn : SF := sSeq (sIf (tVal (eOp eqD (eOp ixA (eVar 1) (eC (.int 0))) (eC (.str "out")))) (sSeq (sAsg (eSl (eVar 1) (oYes (eC (.int 1))) (oNo)) (gTgt (.many [4, 5]))) (f_after_turn_2)) (sNop)) (f_after_turn_6)
def F_after_turn := runP 4 8 f_after_turn
def f_Builder_is_room_1 : SF := sRet (eOp ltD (eVar 1) (eMth "Rule" "limit" (callP F_Rule_limit) (eFld ["Builder"] "by" (eVar 0)) (aCons (eCall lenD (aCons (eFld ["Builder"] "now" (eVar 0)) (aNil))) (aNil))))
def f_Builder_is_room : SF := sSeq (sAsg (eCall lenD (aCons (eLcV false (lIt (eFld ["Builder"] "now" (eVar 0))) (.one 2) (tVal (eOp neD (eOp ixA (eVar 2) (eC (.int 0))) (eC (.str "in")))) (eVar 2)) (aNil))) (gNm 1)) (f_Builder_is_room_1)
def F_Builder_is_room := runM 1 3 f_Builder_is_room
def f_Builder_turn_1 : SF := sDrop (eLm0 (fun _ => appL) (eFld ["Builder"] "events" (eVar 0)) (aCons (eOp addD (joinF [eC (.str "turn 0 "), eFmt (eVar 1), eC (.str " ")] Str.empty) (eIf (tVal (eVar 2)) (eC (.str "fault")) (eC (.str "ok")))) (aNil)))
def f_Builder_turn : SF := sSeq (sAsg (eOp ixA (eCall (callK F_after_turn) (aCons (eFld ["Builder"] "by" (eVar 0)) (aCons (eOp ixA (eFld ["Builder"] "now" (eVar 0)) (eVar 1)) (aCons (eVar 2) (aCons (eMthM "Builder" "is_room" F_Builder_is_room (eVar 0) (aNil)) (aNil)))))) (eC (.int 0))) (gSetA (eFld ["Builder"] "now" (eVar 0)) (eVar 1))) (f_Builder_turn_1)
def F_Builder_turn := runM 3 3 f_Builder_turn
def f_Builder_leave_out_1 : SF := sDrop (eMthM "Builder" "turn" F_Builder_turn (eVar 0) (aCons (eVar 1) (aCons (eC (.bl true)) (aNil))))
def f_Builder_leave_out : SF := sWhile big (tVal (eOp neD (eOp ixA (eOp ixA (eFld ["Builder"] "now" (eVar 0)) (eVar 1)) (eC (.int 0))) (eC (.str "out")))) (f_Builder_leave_out_1)
def F_Builder_leave_out := runM 2 2 f_Builder_leave_out
def f_Builder_leave_out_long_1 : SF := sDrop (eMthM "Builder" "leave_out" F_Builder_leave_out (eVar 0) (aCons (eVar 1) (aNil)))
def f_Builder_leave_out_long_2 : SF := sSeq (sDrop (eMthM "Builder" "turn" F_Builder_turn (eVar 0) (aCons (eVar 1) (aCons (eC (.bl true)) (aNil))))) (f_Builder_leave_out_long_1)
def f_Builder_leave_out_long_3 : SF := sWhile big (tAnd (tVal (eOp eqD (eOp ixA (eOp ixA (eFld ["Builder"] "now" (eVar 0)) (eVar 1)) (eC (.int 1))) (eC (.int 1)))) (tVal (eOp neD (eFld ["Rule"] "back" (eFld ["Builder"] "by" (eVar 0))) (eC (.str "trial"))))) (f_Builder_leave_out_long_2)
def f_Builder_leave_out_long : SF := sSeq (sDrop (eMthM "Builder" "leave_out" F_Builder_leave_out (eVar 0) (aCons (eVar 1) (aNil)))) (f_Builder_leave_out_long_3)
def F_Builder_leave_out_long := runM 2 2 f_Builder_leave_out_long
def f_after_word_1 : SF := sRet (eIf (tVal (eOp eqD (eFld ["Rule"] "hears" (eVar 0)) (eC (.str "out")))) (eCall (callP F_at_try) (aCons (eVar 0) (aCons (eVar 1) (aCons (eVar 2) (aNil))))) (eCall (callP F_after_fault) (aCons (eVar 0) (aCons (eVar 1) (aCons (eVar 2) (aNil))))))
def f_after_word : SF := sSeq (sIf (tOr (tVal (eOp neD (eOp ixA (eVar 1) (eC (.int 0))) (eC (.str "in")))) (tVal (eOp eqD (eFld ["Rule"] "hears" (eVar 0)) (eC (.str "no"))))) (sRet (eTup (aCons (eVar 1) (aCons (eC (.bl false)) (aNil))))) (sNop)) (f_after_word_1)
def F_after_word := runP 3 3 f_after_word
def f_Builder_leave_out_missed_1 : SF := sDrop (eLm0 (fun _ => appL) (eFld ["Builder"] "events" (eVar 0)) (aCons (joinF [eC (.str "told 0 1 "), eFmt (eVar 1)] Str.empty) (aNil)))
def f_Builder_leave_out_missed_2 : SF := sSeq (sAsg (eOp ixA (eCall (callK F_after_word) (aCons (eFld ["Builder"] "by" (eVar 0)) (aCons (eOp ixA (eFld ["Builder"] "now" (eVar 0)) (eVar 1)) (aCons (eMthM "Builder" "is_room" F_Builder_is_room (eVar 0) (aNil)) (aNil))))) (eC (.int 0))) (gSetA (eFld ["Builder"] "now" (eVar 0)) (eVar 1))) (f_Builder_leave_out_missed_1)
def f_Builder_leave_out_missed_3 : SF := sWhile big (tVal (eOp neD (eOp ixA (eOp ixA (eFld ["Builder"] "now" (eVar 0)) (eVar 1)) (eC (.int 0))) (eC (.str "out")))) (f_Builder_leave_out_missed_2)
def f_Builder_leave_out_missed_4 : SF := sSeq (sDrop (eMthM "Builder" "turn" F_Builder_turn (eVar 0) (aCons (eVar 1) (aCons (eC (.bl false)) (aNil))))) (f_Builder_leave_out_missed_3)
def f_Builder_leave_out_missed_5 : SF := sSeq (sDrop (eMthM "Builder" "leave_out" F_Builder_leave_out (eVar 0) (aCons (eVar 1) (aNil)))) (f_Builder_leave_out_missed_4)
def f_Builder_leave_out_missed : SF := sSeq (sDrop (eLm0 extL (eFld ["Builder"] "events" (eVar 0)) (aCons (eOp mulD (eLst (aCons (joinF [eC (.str "turn 1 "), eFmt (eVar 1), eC (.str " fault")] Str.empty) (aNil))) (eFld ["Rule"] "need" (eFld ["Builder"] "by" (eVar 0)))) (aNil)))) (f_Builder_leave_out_missed_5)
def F_Builder_leave_out_missed := runM 2 2 f_Builder_leave_out_missed
def f_Builder_keep_1 : SF := sDrop (eMthM "Builder" "turn" F_Builder_turn (eVar 0) (aCons (eVar 1) (aCons (eC (.bl true)) (aNil))))
def f_Builder_keep : SF := sFor (iR1 (aCons (eFld ["Rule"] "need" (eFld ["Builder"] "by" (eVar 0))) (aNil))) (gTgt (.one 2)) (f_Builder_keep_1)
def F_Builder_keep := runM 2 3 f_Builder_keep
def f_is_sequence : SF := sRet (eCall isiD (aCons (eVar 0) (aCons (eTup (aCons (eC (.ty "list")) (aCons (eC (.ty "tuple")) (aNil)))) (aNil))))
def F_is_sequence := runP 1 1 f_is_sequence
def f_event_in_1 : SF := sSeq (sIf (tAnd (tVal (eOp eqD (eOp ixA (eVar 1) (eC (.int 0))) (eC (.str "told")))) (tAnd (tVal (eOp ninA (eC .non) (eVar 2))) (tVal (eOp neD (eOp ixA (eVar 2) (eC (.int 0))) (eOp ixA (eVar 2) (eC (.int 1))))))) (sRet (eTup (aCons (eC (.str "told")) (aStar (eVar 2) (aNil))))) (sNop)) (sRet (eC .non))
def f_event_in_2 : SF := sSeq (sIf (tAnd (tVal (eOp eqD (eOp ixA (eVar 1) (eC (.int 0))) (eC (.str "turn")))) (tAnd (tVal (eOp ninA (eC .non) (eSl (eVar 2) (oNo) (oYes (eC (.int 2)))))) (tVal (eOp inA (eOp ixA (eVar 1) (eC (.int 3))) (eC (.tup [.str "ok", .str "fault"])))))) (sRet (eTup (aCons (eC (.str "turn")) (aCons (eOp ixA (eVar 2) (eC (.int 0))) (aCons (eOp ixA (eVar 2) (eC (.int 1))) (aCons (eOp eqD (eOp ixA (eVar 1) (eC (.int 3))) (eC (.str "fault"))) (aNil))))))) (sNop)) (f_event_in_1)
abbrev f_event_in_3 : SF := sSeq (sAsg (eLcK false (iIt (eSl (eVar 1) (oYes (eC (.int 1))) (oNo))) (.one 3) (tTrue) (eCall (callP F_number_in) (aCons (eVar 3) (aCons (eC (.int 2)) (aNil))))) (gNm 2)) (f_event_in_2)
abbrev f_event_in_4 : SF := sSeq (sIf (tVal (eOp neD (eCall lenD (aCons (eVar 1) (aNil))) (eC (.int 4)))) (sRet (eC .non)) (sNop)) (f_event_in_3)
abbrev f_event_in : SF := sSeq (sAsg (eM1 splitD (eVar 0) (eC (.str " "))) (gNm 1)) (f_event_in_4)
def F_event_in := runP 1 4 f_event_in
abbrev f_event_of_1 : SF := sRet (eIf (tAnd (tVal (eOp ltD (eOp ixA (eVar 3) (eC (.int 1))) (eVar 1))) (tAnd (tVal (eOp ltD (eOp ixA (eVar 3) (eC (.int 2))) (eVar 1))) (tVal (eOp ltD (eOp ixA (eVar 3) (eC (.int 3))) (eVar 2))))) (eVar 3) (eC .non))
def f_event_of_2 : SF := sSeq (sIf (tVal (eOp eqD (eOp ixA (eVar 3) (eC (.int 0))) (eC (.str "turn")))) (sRet (eIf (tAnd (tVal (eOp ltD (eOp ixA (eVar 3) (eC (.int 1))) (eVar 1))) (tVal (eOp ltD (eOp ixA (eVar 3) (eC (.int 2))) (eVar 2)))) (eVar 3) (eC .non))) (sNop)) (f_event_of_1)
def f_event_of_3 : SF := sSeq (sIf (tVal (eIsN (eVar 3))) (sRet (eC .non)) (sNop)) (f_event_of_2)
abbrev f_event_of : SF := sSeq (sAsg (eIf (tVal (eCall isiD (aCons (eVar 0) (aCons (eC (.ty "str")) (aNil))))) (eCall (callP F_event_in) (aCons (eVar 0) (aNil))) (eC .non)) (gNm 3)) (f_event_of_3)
def F_event_of := runP 3 4 f_event_of
def f_events_of_1 : SF := sSeq (sIf (tVal (eOp inA (eC .non) (eVar 3))) (sNo) (sNop)) (sRet (eCall tupD (aCons (eVar 3) (aNil))))
abbrev f_events_of : SF := sSeq (sAsg (eLcK false (iIt (eVar 0)) (.one 4) (tTrue) (eCall (callP F_event_of) (aCons (eVar 4) (aCons (eVar 1) (aCons (eVar 2) (aNil)))))) (gNm 3)) (f_events_of_1)
def F_events_of := runP 3 5 f_events_of
def f_Road___init___1 : SF := sFldM ["Road"] "events" (eVar 0) (eCall tupD (aCons (eVar 3) (aNil)))
abbrev f_Road___init___2 : SF := sSeq (sFldM ["Road"] "servers" (eVar 0) (eVar 2)) (f_Road___init___1)
abbrev f_Road___init___3 : SF := sSeq (sFldM ["Road"] "callers" (eVar 0) (eVar 1)) (f_Road___init___2)
def f_Road___init___4 : SF := sSeq (sFldM ["Road"] "told_events" (eVar 0) (eCall (callP F_events_of) (aCons (eVar 3) (aCons (eVar 1) (aCons (eVar 2) (aNil)))))) (f_Road___init___3)
abbrev f_Road___init___5 : SF := sSeq (sIf (tNot (tVal (eCall (callP F_is_sequence) (aCons (eVar 3) (aNil))))) (sNo) (sNop)) (f_Road___init___4)
abbrev f_Road___init___6 : SF := sSeq (sIf (tNot (tVal (eCall (callP F_is_from) (aCons (eVar 2) (aCons (eC (.int 1)) (aNil)))))) (sNo) (sNop)) (f_Road___init___5)
abbrev f_Road___init__ : SF := sSeq (sIf (tNot (tVal (eCall (callP F_is_from) (aCons (eVar 1) (aCons (eC (.int 1)) (aNil)))))) (sNo) (sNop)) (f_Road___init___6)
def F_Road___init__ := runM 4 4 f_Road___init__
def f_road_1 : SF := sDrop (eMthM "Builder" "leave_out" F_Builder_leave_out (eVar 5) (aCons (eVar 7) (aNil)))
def f_road_2 : SF := sRet (eCall (newG (newP "Road" F_Road___init__)) (aCons (eVar 6) (aCons (eVar 3) (aCons (eFld ["Road", "Builder"] "events" (eVar 5)) (aNil)))))
def f_road_3 : SF := sSeq (sIf (tVal (eOp neD (eVar 1) (eC (.str "all")))) (sDrop (eMthM "Builder" "keep" F_Builder_keep (eVar 5) (aCons (eVar 4) (aNil)))) (sNop)) (f_road_2)
def f_road_4 : SF := sSeq (sIf (tAnd (tVal (eOp eqD (eVar 1) (eC (.str "swap")))) (tVal (eCall (callP F_is_lasting) (aCons (eVar 0) (aNil))))) (sDrop (eMthM "Builder" "turn" F_Builder_turn (eVar 5) (aCons (eC (.int 0)) (aCons (eC (.bl false)) (aNil))))) (sNop)) (f_road_3)
def f_road_5 : SF := sSeq (sFor (iR1 (aCons (eCall min2D (aCons (eVar 4) (aCons (eVar 3) (aNil)))) (aNil))) (gTgt (.one 7)) (f_road_1)) (f_road_4)
def f_road_6 : SF := sSeq (sIf (tAnd (tVal (eOp eqD (eVar 1) (eC (.str "swap")))) (tVal (eCall (callP F_is_lasting) (aCons (eVar 0) (aNil))))) (sDrop (eMthM "Builder" "leave_out_long" F_Builder_leave_out_long (eVar 5) (aCons (eC (.int 0)) (aNil)))) (sIf (tVal (eOp eqD (eVar 1) (eC (.str "swap")))) (sSeq (sDrop (eMthM "Builder" "leave_out_missed" F_Builder_leave_out_missed (eVar 5) (aCons (eC (.int 0)) (aNil)))) (sAsg (eC (.int 2)) (gNm 6))) (sNop))) (f_road_5)
def f_road_7 : SF := sSeq (sPar [4, 5, 6] (aCons (eMth "Rule" "limit" (callP F_Rule_limit) (eVar 0) (aCons (eVar 3) (aNil))) (aCons (eNewM "Builder" F_Builder___init__ (aCons (eVar 0) (aCons (eVar 3) (aNil)))) (aCons (eC (.int 1)) (aNil))))) (f_road_6)
def f_road_8 : SF := sSeq (sAsg (eOp ixA (eVar 2) (eC (.int 0))) (gNm 3)) (f_road_7)
def f_road_9 : SF := sSeq (sIf (tVal (eIsN (eVar 2))) (sRet (eC .non)) (sNop)) (f_road_8)
def f_road : SF := sSeq (sAsg (eCall (callP F_numbers) (aCons (eVar 0) (aCons (eVar 1) (aNil)))) (gNm 2)) (f_road_9)
def F_road := runP 2 8 f_road
abbrev y_road : SX := ySeq (yAsg (eCallX (callPX FX_numbers) (aCons (eVar 0) (aCons (eVar 1) (aNil)))) (gNm 2)) (yOf (f_road_9))
def FX_road := runPX 2 8 y_road
theorem rx_road : RxP F_road FX_road := rx_run (rx_seq (rx_asg (rx_call rx_numbers)) (rx_of))
abbrev y__law_is_let_1 : SX := yDrop (eCallGX 0 [("happens", FX_happens), ("numbers", FX_numbers), ("road", FX_road)] (aCons (eVar 1) (aCons (eVar 2) (aNil))))
abbrev y__law_is_let_2 : SX := ySeq (yTry (y__law_is_let_1) [([("InvalidGoal", true)], some 4, fun x => sAsg ((fun x => eIf ((fun x => tAnd ((fun x => tVal ((eXi [("InvalidGoal", true)]) x)) x) ((fun x => tNot ((fun x => tVal ((eXi [("InvalidGoal", false)]) x)) x)) x)) x) ((fun _ => eC (.bl false)) x) ((fun _ => eC (.str "other")) x)) x) (gNm 3))]) (yOf (sRet (eVar 3)))
abbrev y__law_is_let : SX := ySeq (yOf (sAsg (eC (.bl true)) (gNm 3))) (y__law_is_let_2)
def FX__law_is_let := runPX 3 5 y__law_is_let
abbrev F__law_is_let := oxP FX__law_is_let
abbrev f__law_any_1 (FR : List D → M → Option (D × M)) : SF := sRet (eIf (tVal (eOp ltD (eVar 2) (eC (.int 2)))) (eVar 3) (eCall tupD (aCons (eVar 3) (aNil))))
abbrev f__law_any_2 (FR : List D → M → Option (D × M)) : SF := sRet (eCallM F__law_pick (aCons (eVar 0) (aCons (eLst (aCons (eC (.int 0)) (aCons (eC (.int 1)) (aCons (eC (.bl true)) (aCons (eC .non) (aCons (eC (.str "")) (aCons (eC (.str "All")) (aCons (eC (.str "all ")) (aCons (eC (.str "keep")) (aCons (eC (.str "felt")) (aCons (eC (.str "swap\n")) (aCons (eC (.str "kep")) (aCons (eOp powD (eC (.int 10)) (eC (.int 9))) (aCons (eUn negD (eC (.int 1))) (aNil))))))))))))))) (aNil))))
abbrev f__law_any_3 (FR : List D → M → Option (D × M)) : SF := sSeq (sIf (tAnd (tVal (eOp gtD (eVar 1) (eC (.int 0)))) (tVal (eOp ltD (eVar 2) (eC (.int 4))))) (sSeq (sAsg (eLcK false (iR1 (aCons (eCallM F__law_take (aCons (eVar 0) (aCons (eC (.int 4)) (aNil)))) (aNil))) (.one 4) (tTrue) (eCallM FR (aCons (eVar 0) (aCons (eOp subD (eVar 1) (eC (.int 1))) (aNil))))) (gNm 3)) ((f__law_any_1 FR))) (sNop)) ((f__law_any_2 FR))
abbrev f__law_any (FR : List D → M → Option (D × M)) : SF := sSeq (sAsg (eCallM F__law_take (aCons (eVar 0) (aCons (eC (.int 10)) (aNil)))) (gNm 2)) ((f__law_any_3 FR))
def F__law_any : Nat → List D → M → Option (D × M)
  | 0 => noM
  | n + 1 => runM 2 5 (f__law_any (F__law_any n))
def f_law_1 : SF := sIf (tVal (eOp isNotD (eCall (callP F__law_is_let) (aCons (eVar 4) (aCons (eVar 3) (aCons (eVar 5) (aNil))))) (eC (.bl true)))) (sRet (eC (.bl false))) (sNop)
def f_law_2 : SF := sIf (tVal (eOp isNotD (eCall (callP F__law_is_let) (aCons (eVar 4) (aCons (eVar 3) (aCons (eVar 6) (aNil))))) (eC (.bl false)))) (sRet (eC (.bl false))) (sNop)
def f_law_3 : SF := sFor (iIt (eTup (aCons (eC (.str "")) (aCons (eC (.str "ALL")) (aCons (eC (.str "all kept")) (aCons (eC .non) (aCons (eC (.int 0)) (aCons (eC (.bl true)) (aCons (eLst (aCons (eC (.str "all")) (aNil))) (aCons (eTup (aCons (eC (.str "kept")) (aNil))) (aCons (eVar 3) (aCons (eCallM (F__law_any 10) (aCons (eVar 2) (aCons (eC (.int 5)) (aNil)))) (aNil))))))))))))) (gTgt (.one 6)) (f_law_2)
def f_law_4 : SF := sSeq (sFor (iIt (eTup (aCons (eC (.str "all")) (aCons (eC (.str "kept")) (aCons (eC (.str "swap")) (aNil)))))) (gTgt (.one 5)) (f_law_1)) (f_law_3)
def f_law_5 : SF := sFor (iIt (eTup (aCons (eC (.glo "happens")) (aCons (eC (.glo "numbers")) (aCons (eC (.glo "road")) (aNil)))))) (gTgt (.one 4)) (f_law_4)
def f_law_6 : SF := sSeq (sAsg (eCall (callK F__law_rule_of) (aCons (eCallM F__law_rule (aCons (eVar 2) (aCons (eC (.int 3)) (aCons (eC (.int 4)) (aCons (eC (.int 2)) (aNil)))))) (aNil))) (gNm 3)) (f_law_5)
def f_law_7 : SF := sSeq (sAsg (eCallM F__law_box (aCons (eVar 0) (aCons (eVar 1) (aNil)))) (gNm 2)) (f_law_6)
abbrev f_law : SF := sSeq (sFor (iR1 (aCons (eCall max2D (aCons (eC (.int 1)) (aCons (eCall min2D (aCons (eC (.int 4)) (aCons (eCall lenD (aCons (eVar 0) (aNil))) (aNil)))) (aNil)))) (aNil))) (gTgt (.one 1)) (f_law_7)) (sRet (eC (.bl true)))
def F_law := runP 1 7 f_law
end L4
namespace L4
open PySem
inductive Bk where | half | opn | trial
inductive Hr where | fault | no | out
structure Ru where
  need : Int
  of : Int
  base : Int
  more : Int
  most : Int
  calm : Int
  back : Bk
  top : Int
  under : Int
  up : Bool
  hears : Hr
  cap : Int
def Bk.s : Bk → Str
  | .half => "half"
  | .opn => "open"
  | .trial => "trial"
def Hr.s : Hr → Str
  | .fault => "fault"
  | .no => "no"
  | .out => "out"
def ruNames : List Str := ["need", "of", "base", "more", "most", "calm", "back", "top", "under", "up", "hears", "cap"]
def Ru.vals (r : Ru) : List D := [.int r.need, .int r.of, .int r.base, .int r.more, .int r.most, .int r.calm, .str r.back.s, .int r.top, .int r.under, .bl r.up, .str r.hears.s, .int r.cap]
def Ru.d (r : Ru) : D := .obj "Rule" ruNames r.vals
/-- small numbers -/
structure Ru.Ok (r : Ru) : Prop where
  n1 : 1 ≤ r.need
  n2 : r.need ≤ r.of
  n3 : r.of ≤ 100
  m1 : 0 ≤ r.more
  m2 : r.more ≤ 1000
  b1 : 1 ≤ r.base
  b2 : r.base ≤ r.most
  c0 : 0 ≤ r.calm
  k1 : 1 ≤ r.cap
inductive Sd where
  | inn (w : List Bool) (times calm : Int)
  | out (left times : Int)
  | trial (times : Int)
deriving DecidableEq
def Sd.d : Sd → D
  | .inn w t c => .tup [.str "in", .tup (w.map .bl), .int t, .int c]
  | .out l t => .tup [.str "out", .int l, .int t]
  | .trial t => .tup [.str "trial", .int t]
inductive Lt where | fault | faultFull | ok | told | toldFull
deriving DecidableEq
def Lt.s : Lt → Str
  | .fault => "fault"
  | .faultFull => "fault full"
  | .ok => "ok"
  | .told => "told"
  | .toldFull => "told full"
inductive Wh where | felt | missed | skip | ok | told
deriving DecidableEq
def Wh.s : Wh → Str
  | .felt => "felt"
  | .missed => "missed"
  | .skip => "skip"
  | .ok => "ok"
  | .told => "told"
section
variable {r : Ru} {m : M}
theorem ru_ins : insOf m r.d = some (("Rule" : Str), ruNames, r.vals) := rfl
theorem ru_pure : pureD r.d = true := rfl
theorem ru_c1 : (["Rule"] : List Str).contains "Rule" = true := by decide +kernel
theorem ru_need : fldAt ruNames r.vals "need" = some (.int r.need) := by kernel_rfl
theorem ru_of : fldAt ruNames r.vals "of" = some (.int r.of) := by kernel_rfl
theorem ru_base : fldAt ruNames r.vals "base" = some (.int r.base) := by kernel_rfl
theorem ru_more : fldAt ruNames r.vals "more" = some (.int r.more) := by kernel_rfl
theorem ru_most : fldAt ruNames r.vals "most" = some (.int r.most) := by kernel_rfl
theorem ru_calm : fldAt ruNames r.vals "calm" = some (.int r.calm) := by kernel_rfl
theorem ru_back : fldAt ruNames r.vals "back" = some (.str r.back.s) := by kernel_rfl
theorem ru_top : fldAt ruNames r.vals "top" = some (.int r.top) := by kernel_rfl
theorem ru_under : fldAt ruNames r.vals "under" = some (.int r.under) := by kernel_rfl
theorem ru_up : fldAt ruNames r.vals "up" = some (.bl r.up) := by kernel_rfl
theorem ru_hears : fldAt ruNames r.vals "hears" = some (.str r.hears.s) := by kernel_rfl
theorem ru_cap : fldAt ruNames r.vals "cap" = some (.int r.cap) := by kernel_rfl
theorem ru_ntime : ruNames.contains "time" = false := by kernel_rfl
theorem eqB {o : Option D} {b : Bool} (h : (match o with | some (.bl c) => c == b | _ => false) = true) : o = some (.bl b) := by
  split at h
  · rw [eq_of_beq h]
  · cases h
theorem eq_back (b : Bk) : (eqD m (.str b.s) (.str "trial") = some (.bl (b matches .trial))) ∧ (eqD m (.str b.s) (.str "half") = some (.bl (b matches .half))) := by
  cases b <;> exact ⟨eqB (by kernel_rfl), eqB (by kernel_rfl)⟩
theorem eq_hears (b : Hr) : (eqD m (.str b.s) (.str "no") = some (.bl (b matches .no))) ∧ (eqD m (.str b.s) (.str "out") = some (.bl (b matches .out))) := by
  cases b <;> exact ⟨eqB (by kernel_rfl), eqB (by kernel_rfl)⟩
theorem eq_int {i j : Int} : eqD m (.int i) (.int j) = some (.bl (i == j)) := by
  have hi : ∀ i : Int, pdM m (.int i) = some (.int i) := fun i => by
    have h1 : SeqAt.shaped (PyData.int i) = true := rfl
    simp [pdM, frz, pureD, pd, h1]
  simp [eqD, hi, PyData.eqv]
theorem callP_pure {F : List D → Option D} {ds : List D} (h : pureL ds = true) : callP F m ds = F ds := by unfold callP; rw [if_pos h]
end
def Ru.time (r : Ru) (j : Int) : Int := if r.most < r.base + r.more * (j - 1) then r.most else r.base + r.more * (j - 1)
theorem runP_rt {a n : Nat} {b : SF} {ds : List D} {d : D} {m : M} (e : b (startD n ds) [] = some (.rt d, m)) (hl : ds.length = a) (hp : pureD d = true) : runP a n b ds = some d := by
  unfold runP
  rw [if_pos hl, e]
  show frz m d = some d
  unfold frz
  rw [if_pos hp]
theorem time_ok {r : Ru} (h : r.Ok) (j : Int) : F_Rule_time [r.d, .int j] = some (.int (r.time j)) := by
  have hm : (-(2 ^ 64) < r.more ∧ r.more < 2 ^ 64) ∨ (-(2 ^ 64) < j - 1 ∧ j - 1 < 2 ^ 64) := .inl (by have := h.m1; have := h.m2; omega)
  have e : f_Rule_time [some r.d, some (.int j)] [] = some (.rt (.int (r.time j)), []) := by
    simp only [f_Rule_time, sRet, eCall, aCons, aNil, eOp, eFld, eVar, eC, List.getD_cons_zero, List.getD_cons_succ, pu_go, bd_go, ru_ins, ru_c1, if_true, ru_base, ru_more, ru_most, subD, mulD, if_pos hm, addD, intD, min2D]
    rfl
  exact runP_rt (b := f_Rule_time) e rfl rfl
def Ru.leftOut (r : Ru) (t : Int) : Sd := .out (r.time (if r.cap < t + 1 then r.cap else t + 1)) (if r.cap < t + 1 then r.cap else t + 1)
section
variable {r : Ru} {m : M}
theorem szl {n : Nat} (h : n ≤ 1000) : n ≤ sizeLine := by rw [sizeLine_eq]; omega
theorem left_ok (h : r.Ok) (t : Int) : F_left_out [r.d, .int t] = some (r.leftOut t).d := by
  have hp : ∀ j, pureL [r.d, .int j] = true := fun j => rfl
  have e : f_left_out [some r.d, some (.int t), none] [] = some (.rt (r.leftOut t).d, []) := by
    simp only [f_left_out, f_left_out_1, sSeq, sAsg, gNm, List.set_cons_succ, List.set_cons_zero, sRet, eTup, eMth, eCall, aCons, aNil, eOp, eFld, eVar, eC, List.getD_cons_zero, List.getD_cons_succ, pu_go, bd_go, ru_ins, ru_c1, if_true, ru_cap, addD, min2D, ru_ntime, and_self, callP_pure (hp _), time_ok h, List.length_cons, List.length_nil, sz3, Nat.zero_add, szl (show 3 ≤ 1000 by decide), Nat.reduceAdd]
    rfl
  exact runP_rt (b := f_left_out) e rfl rfl
def Ru.faults (r : Ru) : Int := if r.back matches .half then r.need - (r.need + 1) / 2 else 0
def Ru.comeBack (r : Ru) (t : Int) : Sd := if r.back matches .trial then .trial t else .inn (List.replicate r.faults.toNat true) t 0
theorem rep_flat (n : Nat) : (List.replicate n [D.bl true]).flatten = (List.replicate n true).map D.bl := by
  induction n with
  | zero => rfl
  | succ n ih => rw [List.replicate_succ, List.flatten_cons, ih, List.replicate_succ]; rfl
theorem pure_bls (w : List Bool) : pureL (w.map D.bl) = true := by
  induction w with
  | nil => rfl
  | cons b w ih => simp [pureL, pureD, ih]
theorem sd_pure (s : Sd) : pureD s.d = true := by
  cases s <;> simp [Sd.d, pureD, pureL, pure_bls]
theorem faults_ok (h : r.Ok) : 0 ≤ r.faults ∧ r.faults ≤ 100 := by
  have := h.n1; have := h.n2; have := h.n3
  unfold Ru.faults
  split <;> omega
theorem back_ok (h : r.Ok) (t : Int) : F_come_back [r.d, .int t] = some (r.comeBack t).d := by
  have hf := faults_ok h
  have h2 : (0 : Int) < 2 ∧ (2 : Int) < 1073741824 := by decide
  by_cases hb : (r.back matches .trial) = true
  · have e : f_come_back [some r.d, some (.int t), none] [] = some (.rt (r.comeBack t).d, []) := by
      simp only [f_come_back, sSeq, sIf, tVal, sRet, eTup, aCons, aNil, eOp, eFld, eVar, eC, List.getD_cons_zero, List.getD_cons_succ, pu_go, bd_go, ru_ins, ru_c1, if_true, ru_back, (eq_back _).1, hb, List.length_cons, List.length_nil, Nat.zero_add, szl (show 2 ≤ 1000 by decide), Nat.reduceAdd]
      unfold Ru.comeBack
      rw [if_pos hb]
      rfl
    exact runP_rt (b := f_come_back) e rfl (sd_pure _)
  · have hb' : (r.back matches .trial) = false := by simpa using hb
    have hm : [D.bl true] ≠ [] ∧ 1 ≤ 1000 ∧ 0 ≤ r.faults ∧ r.faults ≤ 1000 := ⟨by simp, by decide, hf.1, by omega⟩
    have e1 : f_come_back [some r.d, some (.int t), none] [] = f_come_back_1 [some r.d, some (.int t), some (.int r.faults)] [] := by
      simp only [f_come_back, f_come_back_2, sSeq, sIf, tVal, sNop, sAsg, gNm, List.set_cons_succ, List.set_cons_zero, eIf, eOp, eFld, eVar, eC, List.getD_cons_zero, List.getD_cons_succ, pu_go, bd_go, ru_ins, ru_c1, if_true, ru_back, ru_need, (eq_back _).1, (eq_back _).2, hb', Bool.false_eq_true, if_false, addD, fdivD, subD, if_pos h2]
      cases hh : (r.back matches .half)
      · simp only [Ru.faults, hh, Bool.false_eq_true, if_false, bd_go]
      · simp only [Ru.faults, hh, if_true, bd_go]
    have e2 : f_come_back_1 [some r.d, some (.int t), some (.int r.faults)] [] = some (.rt (r.comeBack t).d, []) := by
      simp only [f_come_back_1, sRet, eTup, aCons, aNil, eOp, eVar, eC, List.getD_cons_zero, List.getD_cons_succ, pu_go, bd_go, List.length_cons, List.length_nil, Nat.zero_add, Nat.reduceAdd, szl (show 1 ≤ 1000 by decide), szl (show 4 ≤ 1000 by decide), if_true, mulD, if_pos hm, rep_flat]
      unfold Ru.comeBack
      rw [if_neg hb]
      rfl
    exact runP_rt (b := f_come_back) (e1.trans e2) rfl (sd_pure _)
def Ru.atTry (r : Ru) (s : Sd) (t : Int) (room : Bool) : Sd × Bool := if room then (r.leftOut t, false) else (s, true)
theorem try_ok (h : r.Ok) (w : List Bool) (t c : Int) (room : Bool) : F_at_try [r.d, (Sd.inn w t c).d, .bl room] = some (.tup [(r.atTry (.inn w t c) t room).1.d, .bl (r.atTry (.inn w t c) t room).2]) := by
  have hp : pureL [r.d, .int t] = true := rfl
  have hx : ixA [] (Sd.inn w t c).d (.int 2) = some (.int t) := rfl
  have e : f_at_try [some r.d, some (Sd.inn w t c).d, some (.bl room)] [] = some (.rt (.tup [(r.atTry (.inn w t c) t room).1.d, .bl (r.atTry (.inn w t c) t room).2]), []) := by
    cases room
    · simp only [f_at_try, sRet, eIf, tVal, eTup, aCons, aNil, eVar, eC, List.getD_cons_zero, List.getD_cons_succ, pu_go, bd_go, Bool.false_eq_true, if_false, List.length_cons, List.length_nil, Nat.zero_add, Nat.reduceAdd, szl (show 2 ≤ 1000 by decide), if_true]
      rfl
    · simp only [f_at_try, sRet, eIf, tVal, eTup, eCall, eOp, hx, aCons, aNil, eVar, eC, List.getD_cons_zero, List.getD_cons_succ, pu_go, bd_go, if_true, List.length_cons, List.length_nil, Nat.zero_add, Nat.reduceAdd, szl (show 2 ≤ 1000 by decide), callP_pure hp, left_ok h]
      rfl
  exact runP_rt (b := f_at_try) e rfl (by simp [pureD, pureL, sd_pure])
/-- the last answers -/
def Ru.cut (r : Ru) (w : List Bool) (b : Bool) : List Bool := cutD (w ++ [b]) (some (-r.of)) none
theorem cutD_map {α β : Type} (f : α → β) (xs : List α) (lo hi : Option Int) : cutD (xs.map f) lo hi = (cutD xs lo hi).map f := by
  unfold cutD
  rw [List.length_map, ← List.map_drop, ← List.map_take]
theorem cut_bls (r : Ru) (w : List Bool) (b : Bool) : cutD (w.map D.bl ++ [D.bl b]) (some (-r.of)) none = (r.cut w b).map D.bl := by
  unfold Ru.cut
  rw [← cutD_map, List.map_append]
  rfl
theorem sl_tup {ds : List D} {lo hi : Option Int} : slD m (.tup ds) lo hi = some (.tup (cutD ds lo hi)) := rfl
theorem seq_tup {ds : List D} : seqD m (.tup ds) = some ds := rfl
theorem ix0 {m : M} {w : List Bool} {t c : Int} : ixA m (Sd.inn w t c).d (.int 0) = some (.str "in") := rfl
theorem ix1 {m : M} {w : List Bool} {t c : Int} : ixA m (Sd.inn w t c).d (.int 1) = some (.tup (w.map .bl)) := rfl
theorem ix2 {m : M} {w : List Bool} {t c : Int} : ixA m (Sd.inn w t c).d (.int 2) = some (.int t) := rfl
def Ru.afterOk (r : Ru) (w : List Bool) (t c : Int) : Sd := if (t == 0 || r.calm == 0) = true then .inn (r.cut w false) t 0 else if r.calm ≤ c + 1 then .inn (r.cut w false) 0 0 else .inn (r.cut w false) t (c + 1)
theorem ok_ok (h : r.Ok) (w : List Bool) (t c : Int) (hw : w.length ≤ 200) : F_after_ok [r.d, (Sd.inn w t c).d] = some (r.afterOk w t c).d := by
  have hz : (w.map D.bl ++ [D.bl false]).length ≤ sizeLine := szl (by simp; omega)
  have e1 : f_after_ok [some r.d, some (Sd.inn w t c).d, none, none, none] [] = f_after_ok_2 [some r.d, some (Sd.inn w t c).d, some (.tup ((r.cut w false).map .bl)), some (.int t), some (.int c)] [] := by
    have hs : slD [] (Sd.inn w t c).d (some 1) none = some (.tup [.tup (w.map .bl), .int t, .int c]) := rfl
    simp only [f_after_ok, f_after_ok_3, sSeq, sAsg, gNm, gTgt, Tgt.un, unpk, Tgt.is, setMany, List.length_cons, List.length_nil, eSl, oYes, oNo, eTup, aStar, aCons, aNil, eUn, negD, eFld, eVar, eC, List.getD_cons_zero, List.getD_cons_succ, List.set_cons_succ, List.set_cons_zero, pu_go, bd_go, ru_ins, ru_c1, if_true, ru_of, hs, seq_tup, hz, sl_tup, cut_bls]
  have e2 : f_after_ok_2 [some r.d, some (Sd.inn w t c).d, some (.tup ((r.cut w false).map .bl)), some (.int t), some (.int c)] [] = some (.rt (r.afterOk w t c).d, []) := by
    have z4 : 4 ≤ sizeLine := szl (by decide)
    unfold Ru.afterOk
    by_cases h0 : (t == 0 || r.calm == 0) = true
    · rw [if_pos h0]
      cases h1 : (t == 0)
      · have h2 : (r.calm == 0) = true := by rw [h1] at h0; exact h0
        simp only [f_after_ok_2, f_after_ok_1, sSeq, sIf, tOr, tVal, sNop, sRet, eIf, eTup, aCons, aNil, eOp, eFld, eVar, eC, List.getD_cons_zero, List.getD_cons_succ, pu_go, bd_go, ru_ins, ru_c1, if_true, ru_calm, eq_int, addD, geD, List.length_cons, List.length_nil, Nat.zero_add, Nat.reduceAdd, z4, Bool.false_eq_true, if_false, h1, h2]
        rfl
      · simp only [f_after_ok_2, f_after_ok_1, sSeq, sIf, tOr, tVal, sNop, sRet, eIf, eTup, aCons, aNil, eOp, eFld, eVar, eC, List.getD_cons_zero, List.getD_cons_succ, pu_go, bd_go, ru_ins, ru_c1, if_true, ru_calm, eq_int, addD, geD, List.length_cons, List.length_nil, Nat.zero_add, Nat.reduceAdd, z4, Bool.false_eq_true, if_false, h1]
        rfl
    · rw [if_neg h0]
      have h1 : (t == 0) = false := by cases h1 : (t == 0) <;> simp [h1] at h0 ⊢
      have h2 : (r.calm == 0) = false := by cases h2 : (r.calm == 0) <;> simp [h2] at h0 ⊢
      by_cases h3 : r.calm ≤ c + 1
      · rw [if_pos h3]
        simp only [f_after_ok_2, f_after_ok_1, sSeq, sIf, tOr, tVal, sNop, sRet, eIf, eTup, aCons, aNil, eOp, eFld, eVar, eC, List.getD_cons_zero, List.getD_cons_succ, pu_go, bd_go, ru_ins, ru_c1, if_true, ru_calm, eq_int, addD, geD, List.length_cons, List.length_nil, Nat.zero_add, Nat.reduceAdd, z4, Bool.false_eq_true, if_false, h1, h2, h3, decide_true]
        rfl
      · rw [if_neg h3]
        simp only [f_after_ok_2, f_after_ok_1, sSeq, sIf, tOr, tVal, sNop, sRet, eIf, eTup, aCons, aNil, eOp, eFld, eVar, eC, List.getD_cons_zero, List.getD_cons_succ, pu_go, bd_go, ru_ins, ru_c1, if_true, ru_calm, eq_int, addD, geD, List.length_cons, List.length_nil, Nat.zero_add, Nat.reduceAdd, z4, Bool.false_eq_true, if_false, h1, h2, h3, decide_false]
        rfl
  exact runP_rt (b := f_after_ok) (e1.trans e2) rfl (sd_pure _)
theorem comp_bls {ρ : Ss} (hl : 5 < ρ.length) : ∀ w : List Bool, compGo (.one 5) (tVal (eVar 5)) (eVar 5) ρ (w.map D.bl) m = some ((w.filter id).map D.bl, m)
  | [] => rfl
  | b :: w => by
    have ih := comp_bls hl w
    have hg : (setMany ρ [5] [D.bl b]).getD 5 none = some (.bl b) := by
      simp only [setMany, List.getD_eq_getElem?_getD, List.getElem?_set_self hl, Option.getD_some]
    rw [List.map_cons]
    unfold compGo
    simp only [Tgt.un, Tgt.is, tVal, eVar, hg, pu_go, bd_go]
    cases b
    · simp only [Bool.false_eq_true, if_false, ih]
      rfl
    · simp only [if_true, bd_go, ih]
      rfl
def nTrue (w : List Bool) : Int := ((w.filter id).length : Nat)
def Ru.afterFault (r : Ru) (w : List Bool) (t : Int) (room : Bool) : Sd × Bool := if nTrue (r.cut w true) < r.need then (.inn (r.cut w true) t 0, false) else r.atTry (.inn (r.cut w true) t 0) t room
theorem cut_len (r : Ru) (w : List Bool) (b : Bool) : (r.cut w b).length ≤ w.length + 1 := by
  unfold Ru.cut cutD
  simp
  omega
theorem fault_ok (h : r.Ok) (w : List Bool) (t c : Int) (room : Bool) (hw : w.length ≤ 200) : F_after_fault [r.d, (Sd.inn w t c).d, .bl room] = some (.tup [(r.afterFault w t room).1.d, .bl (r.afterFault w t room).2]) := by
  have hz : (w.map D.bl ++ [D.bl true]).length ≤ sizeLine := szl (by simp; omega)
  have z4 : 4 ≤ sizeLine := szl (by decide)
  have z2 : 2 ≤ sizeLine := szl (by decide)
  have e1 : f_after_fault [some r.d, some (Sd.inn w t c).d, some (.bl room), none, none, none] [] = f_after_fault_2 [some r.d, some (Sd.inn w t c).d, some (.bl room), some (.tup ((r.cut w true).map .bl)), some (Sd.inn (r.cut w true) t 0).d, none] [] := by
    simp only [f_after_fault, f_after_fault_3, eSl, oYes, oNo, aStar, eUn, negD, ix1, ix2, seq_tup, hz, sl_tup, cut_bls, ru_of, z4, sSeq, sAsg, gNm, sIf, tVal, tNot, sNop, sRet, eIf, eTup, aCons, aNil, eOp, eFld, eVar, eC, List.getD_cons_zero, List.getD_cons_succ, List.set_cons_succ, List.set_cons_zero, pu_go, bd_go, ru_ins, ru_c1, if_true, List.length_cons, List.length_nil, Nat.zero_add, Nat.reduceAdd, Bool.false_eq_true, if_false]
    rfl
  have hc : (r.cut w true).length ≤ 1000000 := by have := cut_len r w true; omega
  have e2 : f_after_fault_2 [some r.d, some (Sd.inn w t c).d, some (.bl room), some (.tup ((r.cut w true).map .bl)), some (Sd.inn (r.cut w true) t 0).d, none] [] = some (.rt (.tup [(r.afterFault w t room).1.d, .bl (r.afterFault w t room).2]), []) := by
    have hk : eLcK false (iIt (eVar 3)) (.one 5) (tVal (eVar 5)) (eVar 5) [some r.d, some (Sd.inn w t c).d, some (.bl room), some (.tup ((r.cut w true).map .bl)), some (Sd.inn (r.cut w true) t 0).d, none] [] = some (.lst (((r.cut w true).filter id).map .bl), []) := by
      unfold eLcK iIt
      simp only [eVar, List.getD_cons_zero, List.getD_cons_succ, pu_go, bd_go, items, List.length_map, if_pos hc]
      have := comp_bls (m := []) (ρ := [some r.d, some (Sd.inn w t c).d, some (.bl room), some (.tup ((r.cut w true).map .bl)), some (Sd.inn (r.cut w true) t 0).d, none]) (Nat.lt_succ_self 5) (r.cut w true)
      rw [this]
      rfl
    have hn : eCall lenD (aCons (eLcK false (iIt (eVar 3)) (.one 5) (tVal (eVar 5)) (eVar 5)) aNil) [some r.d, some (Sd.inn w t c).d, some (.bl room), some (.tup ((r.cut w true).map .bl)), some (Sd.inn (r.cut w true) t 0).d, none] [] = some (.int (nTrue (r.cut w true)), []) := by
      simp only [eCall, aCons, aNil, hk, bd_go, lenD_lst, pu_go, List.length_map, nTrue]
    have hp : pureL [r.d, (Sd.inn (r.cut w true) t 0).d, .bl room] = true := by simp [pureL, pureD, sd_pure, ru_pure]
    unfold Ru.afterFault
    by_cases h1 : nTrue (r.cut w true) < r.need
    · rw [if_pos h1]
      simp only [f_after_fault_2, sSeq, sIf, tVal, eOp, hn, bd_go, eFld, eVar, List.getD_cons_zero, List.getD_cons_succ, pu_go, ru_ins, ru_c1, if_true, ru_need, ltD, cmpI, h1, decide_true, sRet, eTup, aCons, aNil, eC, List.length_cons, List.length_nil, Nat.zero_add, Nat.reduceAdd, z2]
    · rw [if_neg h1]
      have e3 : f_after_fault_1 [some r.d, some (Sd.inn w t c).d, some (.bl room), some (.tup ((r.cut w true).map .bl)), some (Sd.inn (r.cut w true) t 0).d, none] [] = some (.rt (.tup [(r.atTry (.inn (r.cut w true) t 0) t room).1.d, .bl (r.atTry (.inn (r.cut w true) t 0) t room).2]), []) := by
        simp only [f_after_fault_1, eVar, List.getD_cons_zero, List.getD_cons_succ, pu_go, bd_go, sRet, eCall, aCons, aNil, callP_pure hp, try_ok h]
      simp only [f_after_fault_2, e3, sSeq, sIf, tVal, eOp, hn, bd_go, eFld, eVar, List.getD_cons_zero, List.getD_cons_succ, pu_go, ru_ins, ru_c1, if_true, ru_need, ltD, cmpI, h1, decide_false, sNop, Bool.false_eq_true, if_false]
  exact runP_rt (b := f_after_fault) (e1.trans e2) rfl (by simp [pureD, pureL, sd_pure])
theorem ixo0 {m : M} {l t : Int} : ixA m (Sd.out l t).d (.int 0) = some (.str "out") := rfl
theorem ixt0 {m : M} {t : Int} : ixA m (Sd.trial t).d (.int 0) = some (.str "trial") := rfl
theorem ixt1 {m : M} {t : Int} : ixA m (Sd.trial t).d (.int 1) = some (.int t) := rfl
theorem eq_in_out : eqD m (.str "in") (.str "out") = some (.bl false) := eqB (by kernel_rfl)
theorem eq_in_trial : eqD m (.str "in") (.str "trial") = some (.bl false) := eqB (by kernel_rfl)
theorem eq_out_out : eqD m (.str "out") (.str "out") = some (.bl true) := eqB (by kernel_rfl)
theorem eq_trial_out : eqD m (.str "trial") (.str "out") = some (.bl false) := eqB (by kernel_rfl)
theorem eq_trial_trial : eqD m (.str "trial") (.str "trial") = some (.bl true) := eqB (by kernel_rfl)
theorem ne_in_in : neD m (.str "in") (.str "in") = some (.bl false) := eqB (by kernel_rfl)
theorem ne_out_in : neD m (.str "out") (.str "in") = some (.bl true) := eqB (by kernel_rfl)
theorem ne_trial_in : neD m (.str "trial") (.str "in") = some (.bl true) := eqB (by kernel_rfl)
/-- how many answers a standing keeps -/
def Sd.wl : Sd → Nat
  | .inn w _ _ => w.length
  | _ => 0
def Ru.afterTurn (r : Ru) (s : Sd) (fault room : Bool) : Sd × Wh × Bool := match s with
  | .out l t => (if l == 1 then r.comeBack t else .out (l - 1) t, if fault then .skip else .missed, false)
  | .trial t => if fault then (r.leftOut t, .felt, false) else (.inn [] t 0, .ok, false)
  | .inn w t c => if fault then ((r.afterFault w t room).1, .felt, (r.afterFault w t room).2) else (r.afterOk w t c, .ok, false)
def tw (x : Sd × Wh × Bool) : D := .tup [x.1.d, .str x.2.1.s, .bl x.2.2]
theorem turn_ok (h : r.Ok) (s : Sd) (fault room : Bool) (hw : s.wl ≤ 200) : F_after_turn [r.d, s.d, .bl fault, .bl room] = some (tw (r.afterTurn s fault room)) := by
  have z4 : 4 ≤ sizeLine := szl (by decide)
  have z3 : 3 ≤ sizeLine := szl (by decide)
  have z2 : 2 ≤ sizeLine := szl (by decide)
  have z0 : 0 ≤ sizeLine := Nat.zero_le _
  have hpt : ∀ t : Int, pureL [r.d, .int t] = true := fun t => rfl
  have hps : pureL [r.d, s.d] = true := by simp [pureL, sd_pure, ru_pure]
  have hps2 : pureL [r.d, s.d, .bl room] = true := by simp [pureL, pureD, sd_pure, ru_pure]
  have hpr : pureD (tw (r.afterTurn s fault room)) = true := by simp [tw, pureL, pureD, sd_pure]
  cases s with
  | out l t =>
    have hs : slD [] (Sd.out l t).d (some 1) none = some (.tup [.int l, .int t]) := rfl
    have e1 : (sSeq (sAsg (eSl (eVar 1) (oYes (eC (.int 1))) (oNo)) (gTgt (.many [4, 5]))) (f_after_turn_2)) [some r.d, some (Sd.out l t).d, some (.bl fault), some (.bl room), none, none, none, none] [] = f_after_turn_2 [some r.d, some (Sd.out l t).d, some (.bl fault), some (.bl room), some (.int l), some (.int t), none, none] [] := by
      simp only [gTgt, Tgt.un, unpk, Tgt.is, setMany, eSl, oYes, oNo, hs, sSeq, sAsg, gNm, sIf, tVal, tNot, sNop, sRet, eIf, eTup, aCons, aNil, eOp, eFld, eVar, eC, List.getD_cons_zero, List.getD_cons_succ, List.set_cons_succ, List.set_cons_zero, pu_go, bd_go, ru_ins, ru_c1, if_true, List.length_cons, List.length_nil, Nat.zero_add, Nat.reduceAdd, Bool.false_eq_true, if_false]
    have e2 : f_after_turn_2 [some r.d, some (Sd.out l t).d, some (.bl fault), some (.bl room), some (.int l), some (.int t), none, none] [] = some (.rt (tw (r.afterTurn (.out l t) fault room)), []) := by
      unfold tw Ru.afterTurn
      cases h1 : (l == 1) <;> cases fault <;> (simp only [f_after_turn_2, f_after_turn_1, eq_int, h1, eCall, callP_pure (hpt _), back_ok h, subD, z3, sSeq, sAsg, gNm, sIf, tVal, tNot, sNop, sRet, eIf, eTup, aCons, aNil, eOp, eFld, eVar, eC, List.getD_cons_zero, List.getD_cons_succ, List.set_cons_succ, List.set_cons_zero, pu_go, bd_go, ru_ins, ru_c1, if_true, List.length_cons, List.length_nil, Nat.zero_add, Nat.reduceAdd, Bool.false_eq_true, if_false]; rfl)
    have e3 : f_after_turn [some r.d, some (Sd.out l t).d, some (.bl fault), some (.bl room), none, none, none, none] [] = some (.rt (tw (r.afterTurn (.out l t) fault room)), []) := by
      unfold f_after_turn
      rw [sSeq]
      simp only [sIf, tVal, eOp, eVar, eC, List.getD_cons_zero, List.getD_cons_succ, pu_go, bd_go, ixo0, eq_out_out, if_true]
      rw [e1, e2]
      rfl
    exact runP_rt (b := f_after_turn) e3 rfl hpr
  | trial t =>
    have e3 : f_after_turn [some r.d, some (Sd.trial t).d, some (.bl fault), some (.bl room), none, none, none, none] [] = f_after_turn_6 [some r.d, some (Sd.trial t).d, some (.bl fault), some (.bl room), none, none, none, none] [] := by
      simp only [f_after_turn, ixt0, eq_trial_out, sSeq, sAsg, gNm, sIf, tVal, tNot, sNop, sRet, eIf, eTup, aCons, aNil, eOp, eFld, eVar, eC, List.getD_cons_zero, List.getD_cons_succ, List.set_cons_succ, List.set_cons_zero, pu_go, bd_go, ru_ins, ru_c1, if_true, List.length_cons, List.length_nil, Nat.zero_add, Nat.reduceAdd, Bool.false_eq_true, if_false]
    have e4 : f_after_turn_6 [some r.d, some (Sd.trial t).d, some (.bl fault), some (.bl room), none, none, none, none] [] = some (.rt (tw (r.afterTurn (.trial t) fault room)), []) := by
      unfold tw Ru.afterTurn
      cases fault <;> (simp only [f_after_turn_6, ixt0, ixt1, eq_trial_trial, eCall, callP_pure (hpt _), left_ok h, z4, z3, z0, sSeq, sAsg, gNm, sIf, tVal, tNot, sNop, sRet, eIf, eTup, aCons, aNil, eOp, eFld, eVar, eC, List.getD_cons_zero, List.getD_cons_succ, List.set_cons_succ, List.set_cons_zero, pu_go, bd_go, ru_ins, ru_c1, if_true, List.length_cons, List.length_nil, Nat.zero_add, Nat.reduceAdd, Bool.false_eq_true, if_false]; rfl)
    exact runP_rt (b := f_after_turn) (e3.trans e4) rfl hpr
  | inn w t c =>
    have hw' : w.length ≤ 200 := hw
    have e3 : f_after_turn [some r.d, some (Sd.inn w t c).d, some (.bl fault), some (.bl room), none, none, none, none] [] = f_after_turn_5 [some r.d, some (Sd.inn w t c).d, some (.bl fault), some (.bl room), none, none, none, none] [] := by
      simp only [f_after_turn, f_after_turn_6, ix0, eq_in_out, eq_in_trial, sSeq, sAsg, gNm, sIf, tVal, tNot, sNop, sRet, eIf, eTup, aCons, aNil, eOp, eFld, eVar, eC, List.getD_cons_zero, List.getD_cons_succ, List.set_cons_succ, List.set_cons_zero, pu_go, bd_go, ru_ins, ru_c1, if_true, List.length_cons, List.length_nil, Nat.zero_add, Nat.reduceAdd, Bool.false_eq_true, if_false]
    have e4 : f_after_turn_5 [some r.d, some (Sd.inn w t c).d, some (.bl fault), some (.bl room), none, none, none, none] [] = some (.rt (tw (r.afterTurn (.inn w t c) fault room)), []) := by
      unfold tw Ru.afterTurn
      cases fault
      · simp only [f_after_turn_5, eCall, callP_pure hps, ok_ok h w t c hw', z3, Bool.not_false, sSeq, sAsg, gNm, sIf, tVal, tNot, sNop, sRet, eIf, eTup, aCons, aNil, eOp, eFld, eVar, eC, List.getD_cons_zero, List.getD_cons_succ, List.set_cons_succ, List.set_cons_zero, pu_go, bd_go, ru_ins, ru_c1, if_true, List.length_cons, List.length_nil, Nat.zero_add, Nat.reduceAdd, Bool.false_eq_true, if_false]
        rfl
      · simp only [f_after_turn_5, f_after_turn_4, f_after_turn_3, gTgt, Tgt.un, unpk, Tgt.is, setMany, eCall, callP_pure hps2, fault_ok h w t c room hw', z3, Bool.not_true, sSeq, sAsg, gNm, sIf, tVal, tNot, sNop, sRet, eIf, eTup, aCons, aNil, eOp, eFld, eVar, eC, List.getD_cons_zero, List.getD_cons_succ, List.set_cons_succ, List.set_cons_zero, pu_go, bd_go, ru_ins, ru_c1, if_true, List.length_cons, List.length_nil, Nat.zero_add, Nat.reduceAdd, Bool.false_eq_true, if_false]
        rfl
    exact runP_rt (b := f_after_turn) (e3.trans e4) rfl hpr
def Ru.afterWord (r : Ru) (s : Sd) (room : Bool) : Sd × Bool := match s with
  | .inn w t c => if r.hears matches .no then (.inn w t c, false) else if r.hears matches .out then r.atTry (.inn w t c) t room else r.afterFault w t room
  | s => (s, false)
theorem word_ok (h : r.Ok) (s : Sd) (room : Bool) (hw : s.wl ≤ 200) : F_after_word [r.d, s.d, .bl room] = some (.tup [(r.afterWord s room).1.d, .bl (r.afterWord s room).2]) := by
  have z2 : 2 ≤ sizeLine := szl (by decide)
  have hps : pureL [r.d, s.d, .bl room] = true := by simp [pureL, pureD, sd_pure, ru_pure]
  have hpr : pureD (.tup [(r.afterWord s room).1.d, .bl (r.afterWord s room).2]) = true := by simp [pureL, pureD, sd_pure]
  refine runP_rt (b := f_after_word) (m := []) ?_ rfl hpr
  show f_after_word [some r.d, some s.d, some (.bl room)] [] = _
  cases s with
  | out l t => simp only [f_after_word, tOr, ixo0, ne_out_in, z2, sSeq, sAsg, gNm, sIf, tVal, tNot, sNop, sRet, eIf, eTup, aCons, aNil, eOp, eFld, eVar, eC, List.getD_cons_zero, List.getD_cons_succ, List.set_cons_succ, List.set_cons_zero, pu_go, bd_go, ru_ins, ru_c1, if_true, List.length_cons, List.length_nil, Nat.zero_add, Nat.reduceAdd, Bool.false_eq_true, if_false]; rfl
  | trial t => simp only [f_after_word, tOr, ixt0, ne_trial_in, z2, sSeq, sAsg, gNm, sIf, tVal, tNot, sNop, sRet, eIf, eTup, aCons, aNil, eOp, eFld, eVar, eC, List.getD_cons_zero, List.getD_cons_succ, List.set_cons_succ, List.set_cons_zero, pu_go, bd_go, ru_ins, ru_c1, if_true, List.length_cons, List.length_nil, Nat.zero_add, Nat.reduceAdd, Bool.false_eq_true, if_false]; rfl
  | inn w t c =>
    have hw' : w.length ≤ 200 := hw
    unfold Ru.afterWord
    cases h1 : (r.hears matches .no)
    · cases h2 : (r.hears matches .out)
      · simp only [f_after_word, f_after_word_1, tOr, ix0, ne_in_in, (eq_hears _).1, (eq_hears _).2, h1, h2, ru_hears, eCall, callP_pure hps, fault_ok h w t c room hw', sSeq, sAsg, gNm, sIf, tVal, tNot, sNop, sRet, eIf, eTup, aCons, aNil, eOp, eFld, eVar, eC, List.getD_cons_zero, List.getD_cons_succ, List.set_cons_succ, List.set_cons_zero, pu_go, bd_go, ru_ins, ru_c1, if_true, List.length_cons, List.length_nil, Nat.zero_add, Nat.reduceAdd, Bool.false_eq_true, if_false]
      · simp only [f_after_word, f_after_word_1, tOr, ix0, ne_in_in, (eq_hears _).1, (eq_hears _).2, h1, h2, ru_hears, eCall, callP_pure hps, try_ok h w t c room, sSeq, sAsg, gNm, sIf, tVal, tNot, sNop, sRet, eIf, eTup, aCons, aNil, eOp, eFld, eVar, eC, List.getD_cons_zero, List.getD_cons_succ, List.set_cons_succ, List.set_cons_zero, pu_go, bd_go, ru_ins, ru_c1, if_true, List.length_cons, List.length_nil, Nat.zero_add, Nat.reduceAdd, Bool.false_eq_true, if_false]
    · simp only [f_after_word, tOr, ix0, ne_in_in, (eq_hears _).1, h1, ru_hears, z2, sSeq, sAsg, gNm, sIf, tVal, tNot, sNop, sRet, eIf, eTup, aCons, aNil, eOp, eFld, eVar, eC, List.getD_cons_zero, List.getD_cons_succ, List.set_cons_succ, List.set_cons_zero, pu_go, bd_go, ru_ins, ru_c1, if_true, List.length_cons, List.length_nil, Nat.zero_add, Nat.reduceAdd, Bool.false_eq_true, if_false]
def Ru.room (r : Ru) (full : Bool) : Bool := decide (0 < r.top) && (!full || r.top == r.under)
def Lt.full : Lt → Bool
  | .faultFull => true
  | .toldFull => true
  | _ => false
def Lt.isTold : Lt → Bool
  | .told => true
  | .toldFull => true
  | _ => false
def Lt.isFault : Lt → Bool
  | .fault => true
  | .faultFull => true
  | _ => false
def Ru.step (r : Ru) (s : Sd) (l : Lt) : Sd × Wh := if l.isTold then ((r.afterWord s (r.room l.full)).1, .told) else ((r.afterTurn s l.isFault (r.room l.full)).1, (r.afterTurn s l.isFault (r.room l.full)).2.1)
end
end L4
namespace L4
open PySem
def Sd.In (r : Ru) : Sd → Prop
  | .inn w t c => (w.length : Int) ≤ r.of ∧ 0 ≤ t ∧ t ≤ r.cap ∧ 0 ≤ c ∧ c ≤ r.calm
  | .out l t => 1 ≤ l ∧ l ≤ r.most ∧ 1 ≤ t ∧ t ≤ r.cap
  | .trial t => 1 ≤ t ∧ t ≤ r.cap
def begun : Sd := .inn [] 0 0
section
variable {r : Ru}
theorem Sd.In.wl {s : Sd} (h : r.Ok) (q : s.In r) : s.wl ≤ 200 := by
  have := h.n3
  cases s with
  | inn w t c => have := q.1; show w.length ≤ 200; omega
  | out l t => exact Nat.zero_le _
  | trial t => exact Nat.zero_le _
theorem cut_of (h : r.Ok) (w : List Bool) (b : Bool) : ((r.cut w b).length : Int) ≤ r.of := by
  have h1 := h.n1
  have h2 := h.n2
  unfold Ru.cut cutD
  rw [List.length_take, List.length_drop]
  unfold HT.sIx
  simp only [List.length_append, List.length_singleton]
  repeat' split
  all_goals omega
theorem time_in (h : r.Ok) {j : Int} (hj : 1 ≤ j) : 1 ≤ r.time j ∧ r.time j ≤ r.most := by
  have h1 := h.b1
  have h2 := h.b2
  have h3 : 0 ≤ r.more * (j - 1) := Int.mul_nonneg h.m1 (by omega)
  unfold Ru.time
  split <;> omega
theorem left_in (h : r.Ok) {t : Int} (ht : 0 ≤ t) : (r.leftOut t).In r := by
  have hk := h.k1
  unfold Ru.leftOut
  split
  · exact ⟨(time_in h hk).1, (time_in h hk).2, hk, Int.le_refl _⟩
  · next hc => exact ⟨(time_in h (by omega)).1, (time_in h (by omega)).2, by omega, by omega⟩
theorem begun_in (h : r.Ok) : begun.In r := by
  have := h.k1; have := h.c0; have := h.n1; have := h.n2
  refine ⟨?_, by omega, by omega, by omega, by omega⟩
  show (0 : Int) ≤ r.of
  omega
theorem back_in (h : r.Ok) {t : Int} (h1 : 1 ≤ t) (h2 : t ≤ r.cap) : (r.comeBack t).In r := by
  have hf := faults_ok h
  have := h.n1; have := h.n2; have := h.c0
  unfold Ru.comeBack
  split
  · exact ⟨h1, h2⟩
  · refine ⟨?_, by omega, h2, by omega, by omega⟩
    rw [List.length_replicate]
    have : r.faults ≤ r.of := by
      unfold Ru.faults
      split <;> omega
    omega
theorem try_in (h : r.Ok) {w : List Bool} {t c : Int} {room : Bool} (q : (Sd.inn w t c).In r) : (r.atTry (.inn w t c) t room).1.In r := by
  unfold Ru.atTry
  split
  · exact left_in h q.2.1
  · exact q
theorem fault_in (h : r.Ok) {w : List Bool} {t c : Int} {room : Bool} (q : (Sd.inn w t c).In r) : (r.afterFault w t room).1.In r := by
  have h0 : (Sd.inn (r.cut w true) t 0).In r := ⟨cut_of h w true, q.2.1, q.2.2.1, by omega, h.c0⟩
  unfold Ru.afterFault
  split
  · exact h0
  · exact try_in h h0
theorem okk_in (h : r.Ok) {w : List Bool} {t c : Int} (q : (Sd.inn w t c).In r) : (r.afterOk w t c).In r := by
  obtain ⟨_, q1, q2, q3, q4⟩ := q
  have := h.c0; have := h.k1
  have hc := cut_of h w false
  unfold Ru.afterOk
  split
  · exact ⟨hc, q1, q2, by omega, by omega⟩
  · split
    · exact ⟨hc, by omega, by omega, by omega, by omega⟩
    · exact ⟨hc, q1, q2, by omega, by omega⟩
end
end L4
namespace L4
namespace Bf
variable {α β : Type} [DecidableEq α]
structure Gr (α β : Type) where
  ls : List β
  nx : α → β → α
  hit : α → β → Bool
  b0 : α
variable (g : Gr α β)
def run (x : α) : List β → α
  | [] => x
  | l :: w => run (g.nx x l) w
abbrev Vs (α β : Type) := List (Option (α × β))
/-- what is known: ws found so far (in turn), by vs, at depths ds -/
structure Known (ws : List α) (vs : Vs α β) (ds : List Nat) : Prop where
  lv : vs.length = ws.length
  ld : ds.length = ws.length
  nd : ws.Nodup
  h0 : ws[0]? = some g.b0 ∧ vs[0]? = some none ∧ ds[0]? = some 0
  by_ : ∀ (i : Nat) x, 0 < i → ws[i]? = some x → ∃ j y l d, j < i ∧ ws[j]? = some y ∧ vs[i]? = some (some (y, l)) ∧ x = g.nx y l ∧ l ∈ g.ls ∧ ds[j]? = some d ∧ ds[i]? = some (d + 1)
  up : ∀ (i j a b : Nat), i ≤ j → ds[i]? = some a → ds[j]? = some b → a ≤ b
/-- the letters of one place are dealt with -/
def Done (ws : List α) (ds : List Nat) (i : Nat) (ls : List β) : Prop := ∀ x d, ws[i]? = some x → ds[i]? = some d → ∀ l ∈ ls, g.hit x l = false ∧ ∃ (k : Nat) (e : Nat), ws[k]? = some (g.nx x l) ∧ ds[k]? = some e ∧ e ≤ d + 1
structure Inv (at_ : Nat) (pre : List β) (ws : List α) (vs : Vs α β) (ds : List Nat) : Prop extends Known g ws vs ds where
  low : ∀ i, i < at_ → Done g ws ds i g.ls
  cur : Done g ws ds at_ pre
  near : ∀ (j : Nat) a b, ds[at_]? = some a → ds[j]? = some b → b ≤ a + 1
variable {g}
theorem getq {γ : Type} {l : List γ} {x : γ} (k : Nat) : (l ++ [x])[k]? = if k < l.length then l[k]? else if k = l.length then some x else none := by
  by_cases h : k < l.length
  · rw [if_pos h, List.getElem?_append_left h]
  · rw [if_neg h, List.getElem?_append_right (by omega)]
    by_cases h2 : k = l.length
    · rw [if_pos h2, h2]; simp
    · rw [if_neg h2]
      rw [List.getElem?_eq_none (by simp; omega)]
theorem old {γ : Type} {l : List γ} {x y : γ} {k : Nat} (h : l[k]? = some y) : (l ++ [x])[k]? = some y := by
  rw [getq, if_pos (List.getElem?_eq_some_iff.mp h).1]; exact h
theorem new {γ : Type} {l : List γ} {x : γ} : (l ++ [x])[l.length]? = some x := by rw [getq, if_neg (Nat.lt_irrefl _), if_pos rfl]
theorem was {γ : Type} {l : List γ} {x y : γ} {k : Nat} (h : (l ++ [x])[k]? = some y) : l[k]? = some y ∨ (k = l.length ∧ y = x) := by
  rw [getq] at h
  split at h
  · exact .inl h
  · split at h
    · next e => cases h; exact .inr ⟨e, rfl⟩
    · cases h
theorem Done.more {ws : List α} {ds : List Nat} {i : Nat} {ls : List β} (h : Done g ws ds i ls) (hl : ds.length = ws.length) (hi : i < ws.length) (y : α) (e : Nat) : Done g (ws ++ [y]) (ds ++ [e]) i ls := by
  intro x d hx hd l hl2
  rw [List.getElem?_append_left hi] at hx
  rw [List.getElem?_append_left (by omega)] at hd
  obtain ⟨h1, k, f, h2, h3, h4⟩ := h x d hx hd l hl2
  exact ⟨h1, k, f, old h2, old h3, h4⟩
/-- one letter that hits nothing -/
theorem Inv.step {at_ : Nat} {pre : List β} {ws : List α} {vs : Vs α β} {ds : List Nat} {x : α} {l : β} {d : Nat} (I : Inv g at_ pre ws vs ds) (hx : ws[at_]? = some x) (hd : ds[at_]? = some d) (hl : l ∈ g.ls) (hh : g.hit x l = false) :
    (g.nx x l ∈ ws → Inv g at_ (pre ++ [l]) ws vs ds) ∧ (g.nx x l ∉ ws → Inv g at_ (pre ++ [l]) (ws ++ [g.nx x l]) (vs ++ [some (x, l)]) (ds ++ [d + 1])) := by
  have ha : at_ < ws.length := (List.getElem?_eq_some_iff.mp hx).1
  refine ⟨fun hm => ?_, fun hm => ?_⟩
  · refine ⟨I.toKnown, I.low, ?_, I.near⟩
    intro y e hy he l2 hl2
    rcases List.mem_append.mp hl2 with h | h
    · exact I.cur y e hy he l2 h
    · rw [List.mem_singleton.mp h]
      rw [hx] at hy; cases hy
      rw [hd] at he; cases he
      obtain ⟨k, hk, ek⟩ := List.getElem_of_mem hm
      have hk2 : k < ds.length := by rw [I.ld]; exact hk
      exact ⟨hh, k, ds[k], by rw [List.getElem?_eq_getElem hk, ek], List.getElem?_eq_getElem hk2, I.near k _ _ hd (List.getElem?_eq_getElem hk2)⟩
  · have lv := I.lv
    have ld := I.ld
    refine ⟨⟨by simp [lv], by simp [ld], ?_, ⟨old I.h0.1, old I.h0.2.1, old I.h0.2.2⟩, ?_, ?_⟩, fun i hi => (I.low i hi).more ld (by omega) _ _, ?_, ?_⟩
    · exact List.nodup_append.mpr ⟨I.nd, by simp, fun a ha b hb => by rw [List.mem_singleton.mp hb]; rintro rfl; exact hm ha⟩
    · intro i y hi hy
      rcases was hy with h | ⟨h, rfl⟩
      · obtain ⟨j, z, l2, e, q1, q2, q3, q4, q5, q6, q7⟩ := I.by_ i y hi h
        exact ⟨j, z, l2, e, q1, old q2, old q3, q4, q5, old q6, old q7⟩
      · refine ⟨at_, x, l, d, by omega, old hx, ?_, rfl, hl, old hd, ?_⟩
        · rw [h, ← lv]; exact new
        · rw [h, ← ld]; exact new
    · intro i j a b hij h1 h2
      rcases was h1 with h1 | ⟨e1, rfl⟩ <;> rcases was h2 with h2 | ⟨e2, rfl⟩
      · exact I.up i j a b hij h1 h2
      · exact I.near i _ _ hd h1
      · have := (List.getElem?_eq_some_iff.mp h2).1
        omega
      · exact Nat.le_refl _
    · intro y e hy he l2 hl2
      rw [List.getElem?_append_left ha] at hy
      rw [List.getElem?_append_left (by omega)] at he
      rcases List.mem_append.mp hl2 with h | h
      · obtain ⟨h1, k, f, h2, h3, h4⟩ := I.cur y e hy he l2 h
        exact ⟨h1, k, f, old h2, old h3, h4⟩
      · rw [List.mem_singleton.mp h]
        rw [hx] at hy; cases hy
        rw [hd] at he; cases he
        refine ⟨hh, ws.length, d + 1, new, ?_, Nat.le_refl _⟩
        rw [← ld]; exact new
    · intro j a b h1 h2
      rw [List.getElem?_append_left (by omega), hd] at h1
      cases h1
      rcases was h2 with h2 | ⟨_, rfl⟩
      · exact I.near j _ _ hd h2
      · exact Nat.le_refl _
/-- on to the next place -/
theorem Inv.next {at_ : Nat} {ws : List α} {vs : Vs α β} {ds : List Nat} (I : Inv g at_ g.ls ws vs ds) : Inv g (at_ + 1) [] ws vs ds := by
  refine ⟨I.toKnown, fun i hi => ?_, fun x d _ _ l hl => (nomatch hl), fun j a b h1 h2 => ?_⟩
  · rcases Nat.lt_or_ge i at_ with h | h
    · exact I.low i h
    · have : i = at_ := by omega
      subst this
      exact I.cur
  · have hl : at_ < ds.length := by have := (List.getElem?_eq_some_iff.mp h1).1; omega
    have h3 := I.up at_ (at_ + 1) _ _ (by omega) (List.getElem?_eq_getElem hl) h1
    have h4 := I.near j _ _ (List.getElem?_eq_getElem hl) h2
    omega
end Bf
end L4
namespace L4
open PySem
section
variable {m : M}
abbrev PP := Sd × Sd
def pdd (x : PP) : D := .tup [x.1.d, x.2.d]
def vdd : Option (PP × Lt) → D
  | none => .non
  | some (x, l) => .tup [pdd x, .str l.s]
theorem pureL_map {α : Type} {f : α → D} (h : ∀ a, pureD (f a) = true) : ∀ l : List α, pureL (l.map f) = true
  | [] => rfl
  | a :: l => by simp [pureL, h a, pureL_map h l]
theorem mapO_self {f : D → Option D} : ∀ {ds : List D}, (∀ d ∈ ds, f d = some d) → mapO f ds = some ds
  | [], _ => rfl
  | d :: ds, h => by
    unfold mapO
    rw [h d (List.mem_cons_self ..), mapO_self fun e he => h e (List.mem_cons_of_mem _ he)]
def hm (ws : List PP) (vs : Bf.Vs PP Lt) : M := [.dic (ws.map pdd) (vs.map vdd), .lst (ws.map pdd)]
end
end L4
namespace L4
open PySem
def capOf (base more most : Int) : Int := if more == 0 then 1 else 1 + (most - base + more - 1) / more
/-- arguments that make a rule -/
structure Ru.Va (r : Ru) : Prop where
  a1 : 1 ≤ r.need
  a2 : r.need ≤ r.of
  a3 : 1 ≤ r.base
  a4 : 0 ≤ r.more
  a5 : r.base ≤ r.most
  a6 : 0 ≤ r.calm
  a7 : 0 ≤ r.top
  a8 : 1 ≤ r.under
  a9 : r.top ≤ r.under
  b1 : r.more < 1073741824
  b2 : r.cap = capOf r.base r.more r.most
/-- the arguments as a tuple -/
def Ru.args (r : Ru) : List D := [.int r.need, .int r.of, .int r.base, .int r.more, .int r.most, .int r.calm, .str r.back.s, .int r.top, .int r.under, .bl r.up, .str r.hears.s]
section
variable {r : Ru} {m : M}
theorem isi_int (i : Int) : isiD m [.int i, .ty "int"] = some (.bl true) := by kernel_rfl
theorem isi_intb (i : Int) : isiD m [.int i, .ty "bool"] = some (.bl false) := by kernel_rfl
theorem isi_bl (b : Bool) : isiD m [.bl b, .ty "bool"] = some (.bl true) := by kernel_rfl
theorem isint_ok (i : Int) : F_is_integer [.int i] = some (.bl true) := by
  refine runP_rt (b := f_is_integer) (m := []) ?_ rfl rfl
  show f_is_integer [some (.int i)] [] = _
  simp only [f_is_integer, sRet, eAnd, eNot, eCall, aCons, aNil, eVar, eC, List.getD_cons_zero, pu_go, bd_go, isi_int, isi_intb, Bool.not_false]
theorem isfrom_ok (i j : Int) : F_is_from [.int i, .int j] = some (.bl (decide (j ≤ i))) := by
  have hp : ∀ i : Int, pureL [.int i] = true := fun i => rfl
  refine runP_rt (b := f_is_from) (m := []) ?_ rfl rfl
  show f_is_from [some (.int i), some (.int j)] [] = _
  simp only [f_is_from, sRet, eAnd, eCall, eOp, aCons, aNil, eVar, eC, List.getD_cons_zero, List.getD_cons_succ, pu_go, bd_go, callP_pure (hp _), isint_ok, geD]
theorem isnum_ok (i : Int) : F_is_number [.int i] = some (.bl (decide (0 ≤ i))) := by
  have hp : ∀ i : Int, pureL [.int i] = true := fun i => rfl
  refine runP_rt (b := f_is_number) (m := []) ?_ rfl rfl
  show f_is_number [some (.int i)] [] = _
  simp only [f_is_number, sRet, eAnd, eCall, eOp, aCons, aNil, eVar, eC, List.getD_cons_zero, List.getD_cons_succ, pu_go, bd_go, callP_pure (hp _), isint_ok, geD]
theorem isback_ok (b : Bk) : F_is_word [.str b.s, .tup [.str "half", .str "open", .str "trial"]] = some (.bl true) := by cases b <;> exact eqB (by kernel_rfl)
theorem ishears_ok (b : Hr) : F_is_word [.str b.s, .tup [.str "fault", .str "no", .str "out"]] = some (.bl true) := by cases b <;> exact eqB (by kernel_rfl)
theorem wnum_ok (h : r.Va) : F_wrong_number [.int r.need, .int r.of, .int r.base, .int r.more, .int r.most, .int r.calm] = some .non := by
  have hp : ∀ i : Int, pureL [.int i] = true := fun i => rfl
  have hp2 : ∀ i j : Int, pureL [.int i, .int j] = true := fun i j => rfl
  refine runP_rt (b := f_wrong_number) (m := []) ?_ rfl rfl
  show f_wrong_number [some (.int r.need), some (.int r.of), some (.int r.base), some (.int r.more), some (.int r.most), some (.int r.calm)] [] = _
  simp only [f_wrong_number, f_wrong_number_5, f_wrong_number_4, f_wrong_number_3, f_wrong_number_2, f_wrong_number_1, sSeq, sIf, tNot, tVal, sNop, sRet, eIf, eCall, aCons, aNil, eVar, eC, List.getD_cons_zero, List.getD_cons_succ, pu_go, bd_go, callP_pure (hp _), callP_pure (hp2 _ _), isfrom_ok, isnum_ok, h.a1, h.a2, h.a3, h.a4, h.a5, h.a6, decide_true, Bool.not_true, Bool.false_eq_true, if_false, if_true]
theorem wword_ok (h : r.Va) : F_wrong_word [.str r.back.s, .int r.top, .int r.under, .bl r.up, .str r.hears.s] = some .non := by
  have hp : ∀ i : Int, pureL [.int i] = true := fun i => rfl
  have hp2 : ∀ x : Str, ∀ a b c : Str, pureL [.str x, .tup [.str a, .str b, .str c]] = true := fun x a b c => rfl
  have h1 : ¬ r.under < 1 := by have := h.a8; omega
  have h2 : ¬ r.under < r.top := by have := h.a9; omega
  refine runP_rt (b := f_wrong_word) (m := []) ?_ rfl rfl
  show f_wrong_word [some (.str r.back.s), some (.int r.top), some (.int r.under), some (.bl r.up), some (.str r.hears.s)] [] = _
  simp only [f_wrong_word, f_wrong_word_4, f_wrong_word_3, f_wrong_word_2, f_wrong_word_1, sSeq, sIf, tNot, tOr, tVal, sNop, sRet, eIf, eCall, eOp, aCons, aNil, eVar, eC, List.getD_cons_zero, List.getD_cons_succ, pu_go, bd_go, callP_pure (hp _), callP_pure (hp2 _ _ _ _), isback_ok, ishears_ok, isnum_ok, isint_ok, isi_bl, ltD, cmpI, h1, h2, h.a7, decide_true, decide_false, Bool.not_true, Bool.false_eq_true, if_false, if_true]
theorem runM_nx {a n : Nat} {b : SF} {ds : List D} {ρ : Ss} {m m' : M} (e : b (startD n ds) m = some (.nx ρ, m')) (hl : ds.length = a) : runM a n b ds m = some (.non, m') := by
  unfold runM
  rw [if_pos hl, e]
  rfl
theorem init_put : f_Rule___init___12 [some (.ref 0), some (.int r.need), some (.int r.of), some (.int r.base), some (.int r.more), some (.int r.most), some (.int r.calm), some (.str r.back.s), some (.int r.top), some (.int r.under), some (.bl r.up), some (.str r.hears.s), some .non] [.ins "Rule" [] []] =
    f_Rule___init___1 [some (.ref 0), some (.int r.need), some (.int r.of), some (.int r.base), some (.int r.more), some (.int r.most), some (.int r.calm), some (.str r.back.s), some (.int r.top), some (.int r.under), some (.bl r.up), some (.str r.hears.s), some .non] [.ins "Rule" ["need", "of", "base", "more", "most", "calm", "back", "top", "under", "up", "hears"] r.args] := by kernel_rfl
theorem init_cap (z : D) : putD "cap" z (["need", "of", "base", "more", "most", "calm", "back", "top", "under", "up", "hears"] : List Str) r.args = (ruNames, r.args ++ [z]) := by kernel_rfl
theorem init_gen {f : SF} {Wn Ww : List D → Option D} {m : M} (hn : Wn [.int r.need, .int r.of, .int r.base, .int r.more, .int r.most, .int r.calm] = some .non) (hw : Ww [.str r.back.s, .int r.top, .int r.under, .bl r.up, .str r.hears.s] = some .non) :
    sSeq (sAsg (eCall (callP Wn) (aCons (eVar 1) (aCons (eVar 2) (aCons (eVar 3) (aCons (eVar 4) (aCons (eVar 5) (aCons (eVar 6) (aNil)))))))) (gNm 12)) (sSeq (sIf (tVal (eIsN (eVar 12))) (sAsg (eCall (callP Ww) (aCons (eVar 7) (aCons (eVar 8) (aCons (eVar 9) (aCons (eVar 10) (aCons (eVar 11) (aNil))))))) (gNm 12)) (sNop)) (sSeq (sIf (tVal (eNotN (eVar 12))) (sNo) (sNop)) f)) [some (.ref 0), some (.int r.need), some (.int r.of), some (.int r.base), some (.int r.more), some (.int r.most), some (.int r.calm), some (.str r.back.s), some (.int r.top), some (.int r.under), some (.bl r.up), some (.str r.hears.s), none] m = f [some (.ref 0), some (.int r.need), some (.int r.of), some (.int r.base), some (.int r.more), some (.int r.most), some (.int r.calm), some (.str r.back.s), some (.int r.top), some (.int r.under), some (.bl r.up), some (.str r.hears.s), some .non] m := by
  have hpn : pureL [.int r.need, .int r.of, .int r.base, .int r.more, .int r.most, .int r.calm] = true := rfl
  have hpw : pureL [.str r.back.s, .int r.top, .int r.under, .bl r.up, .str r.hears.s] = true := rfl
  simp only [sSeq, sAsg, sIf, tVal, eIsN, eNotN, isNon, sNop, eCall, aCons, aNil, eVar, gNm, List.getD_cons_zero, List.getD_cons_succ, List.set_cons_succ, List.set_cons_zero, pu_go, bd_go, callP_pure hpn, callP_pure hpw, hn, hw, if_true, Bool.not_true, Bool.false_eq_true, if_false]
theorem init_e1 (h : r.Va) : f_Rule___init__ [some (.ref 0), some (.int r.need), some (.int r.of), some (.int r.base), some (.int r.more), some (.int r.most), some (.int r.calm), some (.str r.back.s), some (.int r.top), some (.int r.under), some (.bl r.up), some (.str r.hears.s), none] [.ins "Rule" [] []] =
      f_Rule___init___12 [some (.ref 0), some (.int r.need), some (.int r.of), some (.int r.base), some (.int r.more), some (.int r.most), some (.int r.calm), some (.str r.back.s), some (.int r.top), some (.int r.under), some (.bl r.up), some (.str r.hears.s), some .non] [.ins "Rule" [] []] :=
  init_gen (f := f_Rule___init___12) (Wn := F_wrong_number) (Ww := F_wrong_word) (wnum_ok h) (wword_ok h)
theorem init_e2 (h : r.Va) : f_Rule___init___1 [some (.ref 0), some (.int r.need), some (.int r.of), some (.int r.base), some (.int r.more), some (.int r.most), some (.int r.calm), some (.str r.back.s), some (.int r.top), some (.int r.under), some (.bl r.up), some (.str r.hears.s), some .non] [.ins "Rule" ["need", "of", "base", "more", "most", "calm", "back", "top", "under", "up", "hears"] r.args] =
      some (.nx [some (.ref 0), some (.int r.need), some (.int r.of), some (.int r.base), some (.int r.more), some (.int r.most), some (.int r.calm), some (.str r.back.s), some (.int r.top), some (.int r.under), some (.bl r.up), some (.str r.hears.s), some .non], [.ins "Rule" ruNames r.vals]) := by
  have hl : r.args.length < 1000 := by show 11 < 1000; decide
  have hv : r.args ++ [.int r.cap] = r.vals := rfl
  by_cases h0 : (r.more == 0) = true
  · have hc : r.cap = 1 := by rw [h.b2]; unfold capOf; rw [if_pos h0]
    simp only [f_Rule___init___1, sFldM, eIf, tVal, eOp, eVar, eC, List.getD_cons_zero, List.getD_cons_succ, pu_go, bd_go, eq_int, h0, if_true, List.getElem?_cons_zero, ru_c1, hl, and_self, init_cap, List.set_cons_zero, ← hc, hv]
  · have h0' : (r.more == 0) = false := by simpa using h0
    have h2 : r.more ≠ 0 := by simpa using h0
    have h3 := h.a4
    have h1 : 0 < r.more ∧ r.more < 1073741824 := ⟨by omega, h.b1⟩
    have hc : r.cap = 1 + (r.most - r.base + r.more - 1) / r.more := by rw [h.b2]; unfold capOf; rw [if_neg h0]
    simp only [f_Rule___init___1, sFldM, eIf, tVal, eOp, eVar, eC, List.getD_cons_zero, List.getD_cons_succ, pu_go, bd_go, eq_int, h0', Bool.false_eq_true, if_false, subD, addD, fdivD, if_pos h1, List.getElem?_cons_zero, ru_c1, hl, and_self, if_true, init_cap, List.set_cons_zero, ← hc, hv]
theorem init_ok (h : r.Va) : F_Rule___init__ (.ref 0 :: r.args) [.ins "Rule" [] []] = some (.non, [.ins "Rule" ruNames r.vals]) :=
  runM_nx (b := f_Rule___init__) (n := 13) (ds := .ref 0 :: r.args) (((init_e1 h).trans init_put).trans (init_e2 h)) rfl
theorem new_ok (h : r.Va) : pureC (newP "Rule" F_Rule___init__) m r.args = some r.d := by
  have hp : pureL r.args = true := rfl
  unfold pureC
  rw [if_pos hp]
  unfold newP
  rw [init_ok h]
  rfl
end
end L4
namespace L4
open PySem
def nS (i : Int) : Str := toString i
theorem w_str_i {m : M} {i : Int} (h0 : 0 ≤ i) (h1 : i < 100) : strT m [.int i] = some (.str (nS i)) := by
  have hz : i.natAbs.log2 < 1920 := by
    have : i.natAbs.log2 ≤ i.natAbs := Nat.log2_le_self _
    omega
  show (if i.natAbs.log2 < 1920 then some (D.str (toString i)) else none) = _
  rw [if_pos hz]
  rfl
def okN (o : Option D) (n : Nat) : Bool := match o with
  | some (.int i) => i == (n : Int)
  | _ => false
theorem okN_eq {o : Option D} {n : Nat} (h : okN o n = true) : o = some (.int n) := by
  unfold okN at h
  split at h
  · rw [eq_of_beq h]
  · cases h
theorem nin_tbl : ((List.range 100).all fun n => okN (F_number_in [.str (nS (n : Nat)), .int 2]) n) = true := by decide +kernel
theorem nsg_tbl : ((List.range 100).all fun n => !(nS (n : Nat)).cps.toList.contains 32 && !(nS (n : Nat)).cps.toList.contains 47 && decide ((nS (n : Nat)).cps.toList.length ≤ 2) && PyData.strOk (nS (n : Nat))) = true := by decide +kernel
theorem nin_ok {i : Int} (h0 : 0 ≤ i) (h1 : i < 100) : F_number_in [.str (nS i), .int 2] = some (.int i) := by
  obtain ⟨n, rfl⟩ := Int.eq_ofNat_of_zero_le h0
  have hn : n < 100 := by omega
  exact okN_eq (List.all_eq_true.mp nin_tbl n (List.mem_range.mpr hn))
structure NSg (i : Int) : Prop where
  b : 32 ∉ (nS i).cps.toList
  s : 47 ∉ (nS i).cps.toList
  l : (nS i).cps.toList.length ≤ 2
  ok : PyData.strOk (nS i) = true
theorem nsg_ok {i : Int} (h0 : 0 ≤ i) (h1 : i < 100) : NSg i := by
  obtain ⟨n, rfl⟩ := Int.eq_ofNat_of_zero_le h0
  have hn : n < 100 := by omega
  have h := List.all_eq_true.mp nsg_tbl n (List.mem_range.mpr hn)
  simp only [Bool.and_eq_true, Bool.not_eq_true', decide_eq_true_eq, List.contains_eq_mem, decide_eq_false_iff_not] at h
  obtain ⟨⟨⟨a, b⟩, c⟩, d⟩ := h
  exact ⟨a, b, c, d⟩
/-- small numbers for texts -/
structure Ru.Tn (r : Ru) : Prop where
  need : 0 ≤ r.need ∧ r.need < 100
  of : 0 ≤ r.of ∧ r.of < 100
  base : 0 ≤ r.base ∧ r.base < 100
  more : 0 ≤ r.more ∧ r.more < 100
  most : 0 ≤ r.most ∧ r.most < 100
  calm : 0 ≤ r.calm ∧ r.calm < 100
  top : 0 ≤ r.top ∧ r.top < 100
  under : 0 ≤ r.under ∧ r.under < 100
def upS (b : Bool) : Str := if b then "up" else "down"
def Ru.share (r : Ru) : Str := catS (catS (nS r.top) "/") (nS r.under)
def Ru.words (r : Ru) : List Str := ["leave", nS r.need, "of", nS r.of, "out", nS r.base, "more", nS r.more, "most", nS r.most, "calm", nS r.calm, "back", r.back.s, "share", r.share, upS r.up, "hears", r.hears.s]
def Ru.txt (r : Ru) : Str := joinT " " r.words
theorem one_blank : (" " : Str).cps.toList = [32] := by kernel_rfl
theorem one_slash : ("/" : Str).cps.toList = [47] := by kernel_rfl
section
variable {r : Ru} {m : M}
theorem nob_lit : 32 ∉ ("leave" : Str).cps.toList ∧ 32 ∉ ("of" : Str).cps.toList ∧ 32 ∉ ("out" : Str).cps.toList ∧ 32 ∉ ("more" : Str).cps.toList ∧ 32 ∉ ("most" : Str).cps.toList ∧ 32 ∉ ("calm" : Str).cps.toList ∧ 32 ∉ ("back" : Str).cps.toList ∧ 32 ∉ ("share" : Str).cps.toList ∧ 32 ∉ ("hears" : Str).cps.toList := by decide +kernel
theorem nob_back (b : Bk) : 32 ∉ b.s.cps.toList := by cases b <;> decide +kernel
theorem nob_hears (b : Hr) : 32 ∉ b.s.cps.toList := by cases b <;> decide +kernel
theorem nob_up (b : Bool) : 32 ∉ (upS b).cps.toList := by cases b <;> decide +kernel
theorem nob_share (h : r.Tn) : 32 ∉ r.share.cps.toList := by
  have h1 := (nsg_ok h.top.1 h.top.2).b
  have h2 := (nsg_ok h.under.1 h.under.2).b
  unfold Ru.share
  rw [catS_l, catS_l, one_slash]
  simp [h1, h2]
theorem words_nob (h : r.Tn) : ∀ w ∈ r.words, 32 ∉ w.cps.toList := by
  obtain ⟨n1, n2, n3, n4, n5, n6, n7, n8, n9⟩ := nob_lit
  intro w hw
  simp only [Ru.words, List.mem_cons, List.not_mem_nil, or_false] at hw
  rcases hw with rfl | rfl | rfl | rfl | rfl | rfl | rfl | rfl | rfl | rfl | rfl | rfl | rfl | rfl | rfl | rfl | rfl | rfl | rfl
  · exact n1
  · exact (nsg_ok h.need.1 h.need.2).b
  · exact n2
  · exact (nsg_ok h.of.1 h.of.2).b
  · exact n3
  · exact (nsg_ok h.base.1 h.base.2).b
  · exact n4
  · exact (nsg_ok h.more.1 h.more.2).b
  · exact n5
  · exact (nsg_ok h.most.1 h.most.2).b
  · exact n6
  · exact (nsg_ok h.calm.1 h.calm.2).b
  · exact n7
  · exact nob_back _
  · exact n8
  · exact nob_share h
  · exact nob_up _
  · exact n9
  · exact nob_hears _
theorem split_words (h : r.Tn) : splitS r.txt 32 = r.words := split_join one_blank (by simp [Ru.words]) (words_nob h)
theorem split_share (h : r.Tn) : splitS r.share 47 = [nS r.top, nS r.under] := by
  have e : r.share = joinT "/" [nS r.top, nS r.under] := str_ext (by
    unfold Ru.share
    rw [catS_l, catS_l, joinT_l]
    simp [TL.joinL])
  rw [e]
  refine split_join one_slash (by simp) fun w hw => ?_
  simp only [List.mem_cons, List.not_mem_nil, or_false] at hw
  rcases hw with rfl | rfl
  · exact (nsg_ok h.top.1 h.top.2).s
  · exact (nsg_ok h.under.1 h.under.2).s
theorem len_back (b : Bk) : b.s.length ≤ 5 := by cases b <;> decide +kernel
theorem len_hears (b : Hr) : b.s.length ≤ 5 := by cases b <;> decide +kernel
theorem len_up (b : Bool) : (upS b).length ≤ 4 := by cases b <;> decide +kernel
theorem len_lit : ("leave" : Str).length = 5 ∧ ("of" : Str).length = 2 ∧ ("out" : Str).length = 3 ∧ ("more" : Str).length = 4 ∧ ("most" : Str).length = 4 ∧ ("calm" : Str).length = 4 ∧ ("back" : Str).length = 4 ∧ ("share" : Str).length = 5 ∧ ("hears" : Str).length = 5 ∧ (" " : Str).length = 1 ∧ ("/" : Str).length = 1 := by decide +kernel
theorem len_nS {i : Int} (h : 0 ≤ i ∧ i < 100) : (nS i).length ≤ 2 := by rw [slen]; exact (nsg_ok h.1 h.2).l
theorem len_share (h : r.Tn) : r.share.length ≤ 5 := by
  have h1 := (nsg_ok h.top.1 h.top.2).l
  have h2 := (nsg_ok h.under.1 h.under.2).l
  rw [slen]
  unfold Ru.share
  rw [catS_l, catS_l, one_slash]
  simp only [List.length_append, List.length_singleton]
  generalize (nS r.top).cps.toList.length = x at *
  generalize (nS r.under).cps.toList.length = y at *
  omega
theorem sum19 {x1 x2 x3 x4 x5 x6 x7 x8 x9 x10 : Nat} (a1 : x1 ≤ 2) (a2 : x2 ≤ 2) (a3 : x3 ≤ 2) (a4 : x4 ≤ 2) (a5 : x5 ≤ 2) (a6 : x6 ≤ 2) (a7 : x7 ≤ 5) (a8 : x8 ≤ 5) (a9 : x9 ≤ 4) (b1 : x10 ≤ 5) : 5 + (x1 + (2 + (x2 + (3 + (x3 + (4 + (x4 + (4 + (x5 + (4 + (x6 + (4 + (x7 + (5 + (x8 + (x9 + (5 + (x10 + 0)))))))))))))))))) ≤ 90 := Nat.le_trans (Nat.add_le_add_left (Nat.add_le_add a1 (Nat.add_le_add_left (Nat.add_le_add a2 (Nat.add_le_add_left (Nat.add_le_add a3 (Nat.add_le_add_left (Nat.add_le_add a4 (Nat.add_le_add_left (Nat.add_le_add a5 (Nat.add_le_add_left (Nat.add_le_add a6 (Nat.add_le_add_left (Nat.add_le_add a7 (Nat.add_le_add_left (Nat.add_le_add a8 (Nat.add_le_add a9 (Nat.add_le_add_left (Nat.add_le_add b1 (Nat.le_refl 0)) _))) _)) _)) _)) _)) _)) _)) _)) _) (by decide)
theorem words_sum (h : r.Tn) : (r.words.map (·.length)).sum ≤ 90 := by
  obtain ⟨n1, n2, n3, n4, n5, n6, n7, n8, n9, n10, n11⟩ := len_lit
  simp only [Ru.words, List.map_cons, List.map_nil, List.sum_cons, List.sum_nil, n1, n2, n3, n4, n5, n6, n7, n8, n9]
  exact sum19 (len_nS h.need) (len_nS h.of) (len_nS h.base) (len_nS h.more) (len_nS h.most) (len_nS h.calm) (len_back r.back) (len_share h) (len_up r.up) (len_hears r.hears)
theorem txt_len (h : r.Tn) : r.txt.length ≤ 200 := by
  have h1 := joinL_len 32 (r.words.map fun y => y.cps.toList)
  have h2 := words_sum h
  rw [slen]
  unfold Ru.txt
  rw [joinT_l, one_blank]
  refine Nat.le_trans h1 ?_
  have e : ((r.words.map fun y => y.cps.toList).map fun w => w.length + 1) = r.words.map fun y => y.length + 1 := by
    rw [List.map_map]
    exact List.map_congr_left fun y _ => by simp [slen]
  rw [e]
  have e2 : ∀ l : List Str, (l.map fun y => y.length + 1).sum = (l.map (·.length)).sum + l.length := fun l => by
    induction l with
    | nil => rfl
    | cons a l ih => simp only [List.map_cons, List.sum_cons, ih, List.length_cons]; omega
  rw [e2]
  have e3 : r.words.length = 19 := rfl
  rw [e3]
  clear h1 e e2 e3
  generalize (r.words.map (·.length)).sum = x at *
  omega
theorem strOk_l (x : Str) : PyData.strOk x = x.cps.toList.all (· < 0x110000) := by
  cases x
  simp [PyData.strOk]
theorem strOk_cat {a b : Str} (ha : PyData.strOk a = true) (hb : PyData.strOk b = true) : PyData.strOk (catS a b) = true := by
  rw [strOk_l] at ha hb ⊢
  rw [catS_l, List.all_append, ha, hb]
  rfl
theorem ok_back (b : Bk) : PyData.strOk b.s = true := by cases b <;> decide +kernel
theorem ok_hears (b : Hr) : PyData.strOk b.s = true := by cases b <;> decide +kernel
theorem ok_up (b : Bool) : PyData.strOk (upS b) = true := by cases b <;> decide +kernel
theorem ok_lit : PyData.strOk "leave" = true ∧ PyData.strOk "of" = true ∧ PyData.strOk "out" = true ∧ PyData.strOk "more" = true ∧ PyData.strOk "most" = true ∧ PyData.strOk "calm" = true ∧ PyData.strOk "back" = true ∧ PyData.strOk "share" = true ∧ PyData.strOk "hears" = true ∧ PyData.strOk "/" = true := by decide +kernel
theorem words_strOk (h : r.Tn) : ∀ w ∈ r.words, PyData.strOk w = true := by
  obtain ⟨n1, n2, n3, n4, n5, n6, n7, n8, n9, n10⟩ := ok_lit
  intro w hw
  simp only [Ru.words, List.mem_cons, List.not_mem_nil, or_false] at hw
  rcases hw with rfl | rfl | rfl | rfl | rfl | rfl | rfl | rfl | rfl | rfl | rfl | rfl | rfl | rfl | rfl | rfl | rfl | rfl | rfl
  · exact n1
  · exact (nsg_ok h.need.1 h.need.2).ok
  · exact n2
  · exact (nsg_ok h.of.1 h.of.2).ok
  · exact n3
  · exact (nsg_ok h.base.1 h.base.2).ok
  · exact n4
  · exact (nsg_ok h.more.1 h.more.2).ok
  · exact n5
  · exact (nsg_ok h.most.1 h.most.2).ok
  · exact n6
  · exact (nsg_ok h.calm.1 h.calm.2).ok
  · exact n7
  · exact ok_back _
  · exact n8
  · exact strOk_cat (strOk_cat (nsg_ok h.top.1 h.top.2).ok n10) (nsg_ok h.under.1 h.under.2).ok
  · exact ok_up _
  · exact n9
  · exact ok_hears _
theorem pdL_strs : ∀ ws : List Str, pdL (ws.map D.str) = some (ws.map PyData.str)
  | [] => rfl
  | w :: ws => by rw [List.map_cons, pdL, pd, pdL_strs ws]; rfl
theorem pureL_strs : ∀ ws : List Str, pureL (ws.map D.str) = true
  | [] => rfl
  | w :: ws => by rw [List.map_cons, pureL, pureD, pureL_strs ws]; rfl
theorem lay_strs : ∀ ws : List Str, (∀ w ∈ ws, PyData.strOk w = true) → PyData.canLayAll0 (ws.map PyData.str) = true ∧ PyData.depthAll (ws.map PyData.str) ≤ 1
  | [], _ => ⟨rfl, by simp [PyData.depthAll]⟩
  | w :: ws, h => by
    obtain ⟨h1, h2⟩ := lay_strs ws fun u hu => h u (List.mem_cons_of_mem _ hu)
    have h3 := h w List.mem_cons_self
    refine ⟨by simp [PyData.canLayAll0, PyData.canLay0, h1, h3], ?_⟩
    simp only [List.map_cons, PyData.depthAll, PyData.depth]
    omega
theorem pdM_ls {ws : List Str} (h : ∀ w ∈ ws, PyData.strOk w = true) : pdM m (.lst (ws.map .str)) = some (.list (ws.map .str)) := by
  obtain ⟨h1, h2⟩ := lay_strs ws h
  have hd : (PyData.list (ws.map .str)).depth ≤ 64 := by simp only [PyData.depth]; omega
  exact pdM_pure (pureL_strs ws) (by rw [pd, pdL_strs]; rfl) (by simp [SeqAt.shaped, PyData.canLay0, h1, hd])
end
end L4
namespace L4
open PySem
section
variable {r : Ru} {m : M}
theorem pure1s {x : Str} : pureL [.str x] = true := rfl
theorem pure2si {x : Str} {i : Int} : pureL [.str x, .int i] = true := rfl
theorem pure1l {ws : List Str} : pureL [.lst (ws.map .str)] = true := by
  show (pureL (ws.map .str) && true) = true
  rw [pureL_strs]; rfl
theorem pureD_li {is : List Int} : pureD (.lst (is.map .int)) = true := pureL_ints is
theorem frz_p {x : D} (h : pureD x = true) : frz m x = some x := by unfold frz; rw [if_pos h]
theorem words_between_ok (a1 a2 a3 a4 a5 a6 a7 a8 : Str) (b : Bk) (h : Hr) : F_words_between [.lst ((["leave", a1, "of", a2, "out", a3, "more", a4, "most", a5, "calm", a6, "back", b.s, "share", a7, a8, "hears", h.s] : List Str).map .str)] = some (.lst ((["leave", a1, "of", a2, "out", a3, "more", a4, "most", a5, "calm", a6, "back", b.s, "share", a7, a8, "hears", h.s] : List Str).map .str)) := by
  have key : ∀ (b : Bk) (h : Hr), some (D.lst ((["leave", a1, "of", a2, "out", a3, "more", a4, "most", a5, "calm", a6, "back", b.s, "share", a7, a8, "hears", h.s] : List Str).map .str)) = F_words_between [.lst ((["leave", a1, "of", a2, "out", a3, "more", a4, "most", a5, "calm", a6, "back", b.s, "share", a7, a8, "hears", h.s] : List Str).map .str)] := by
    intro b h
    cases b <;> cases h <;> kernel_rfl
  exact (key b h).symm
theorem rounds_up (b : Bool) : tblGet tb_ROUNDS (.str (upS b)) = some (.bl b) ∧ (tb_ROUNDS.lookup (upS b)).isSome = true := by
  cases b <;> exact ⟨by kernel_rfl, by kernel_rfl⟩
theorem ne_words (h : r.Tn) : neD m (.lst (r.words.map .str)) (.lst (r.words.map .str)) = some (.bl false) := ne_same (pdM_ls (words_strOk h))
local macro_rules | `(tactic| fail) => `(tactic| (first | ((with_reducible refine w_and_t ?_ ?_); exact rfl) | ((with_reducible refine w_and_f ?_ ?_); exact rfl) | ((with_reducible refine w_or_t ?_ ?_); exact rfl) | ((with_reducible refine w_or_f ?_ ?_); exact rfl) | ((with_reducible refine Kn.fdiv ?_ ?_); exact ⟨by decide, by decide⟩) | ((with_reducible refine Kn.mod ?_ ?_); decide) | ((with_reducible refine And.intro (a := (_ && _) = true) ?_ ?_); exact rfl) | ((with_reducible refine And.intro (a := List.length _ = List.length _) ?_ ?_); exact rfl; dsimp only [setMany, List.set_cons_succ, List.set_cons_zero]) | ((with_reducible refine ⟨wsz ?_, ?_⟩); first | decide | (show (_ : Nat) ≤ 1000; simp only [List.length_cons, List.length_nil]; decide)) | with_reducible refine ⟨_, rfl, ?_⟩))
local macro_rules | `(tactic| fail) => `(tactic| (first | ((with_reducible refine WG.nm ?_); dsimp only [setMany, List.set_cons_succ, List.set_cons_zero]) | ((with_reducible refine WG.one ?_); dsimp only [setMany, List.set_cons_succ, List.set_cons_zero]) | ((with_reducible refine WG.tup ?_ ?_); exact rfl; dsimp only [setMany, List.set_cons_succ, List.set_cons_zero]) | ((with_reducible apply WE.var); exact rfl) | ((with_reducible apply WE.upP); exact rfl) | ((with_reducible apply WE.upT); exact rfl) | ((with_reducible apply WE.upL); exact rfl) | ((with_reducible apply WE.upN); exact rfl) | ((with_reducible apply WS.aug); exact rfl) | ((with_reducible apply WE.newPL); exact rfl) | ((with_reducible refine WS.ite_t ?_ ?_); exact rfl) | ((with_reducible refine WS.ite_f ?_ ?_); exact rfl) | ((with_reducible refine WE.ite_t ?_ ?_); exact rfl) | ((with_reducible refine WE.ite_f ?_ ?_); exact rfl)))
local macro_rules | `(tactic| fail) => `(tactic| with_reducible (first | refine Kn.it_l ?_ | refine Kn.it_s ?_ | refine Kn.str_s ?_ | refine Kn.sl_t ?_ | refine Kn.sl_l ?_ | refine Kn.kx_need ?_ | refine Kn.kx_of ?_ | refine Kn.kx_base ?_ | refine Kn.kx_more ?_ | refine Kn.kx_most ?_ | refine Kn.kx_calm ?_ | refine Kn.kx_back ?_ | refine Kn.kx_under ?_ | refine Kn.kx_top ?_ | refine Kn.kx_up ?_ | refine Kn.kx_hears ?_ | refine Fld.need ?_ | refine Fld.of ?_ | refine Fld.base ?_ | refine Fld.more ?_ | refine Fld.most ?_ | refine Fld.calm ?_ | refine Fld.back ?_ | refine Fld.top ?_ | refine Fld.under ?_ | refine Fld.up ?_ | refine Fld.hears ?_ | refine Fld.cap ?_ | refine Mth.time ?_))
local macro_rules | `(tactic| fail) => `(tactic| with_reducible (first | refine WE.tupL ?_ | refine WE.dicP ?_ | refine WP.nil ?_ | refine WP.cons ?_ | refine WE.upd ?_ | refine WA.nil ?_ | refine WA.cons ?_ | refine WA.star ?_ | refine WO.no ?_ | refine WO.yes ?_ | refine WT.val ?_ | refine WT.and ?_ | refine WT.or ?_ | refine WT.not ?_ | refine WT.tt ?_ | refine WI.it ?_ | refine Kn.add_i ?_ | refine Kn.sub ?_ | refine Kn.neg ?_ | refine Kn.eq_i ?_ | refine Kn.ne_i ?_ | refine Kn.lt ?_ | refine Kn.le ?_ | refine Kn.gt ?_ | refine Kn.ge ?_ | refine Kn.int_i ?_ | refine Kn.int_b ?_ | refine Kn.abs ?_ | refine Kn.min2 ?_ | refine Kn.max2 ?_ | refine Kn.len_t ?_ | refine Kn.len_l ?_ | refine Kn.len_s ?_ | refine Kn.tup_t ?_ | refine Kn.tup_l ?_ | refine Kn.lis_t ?_ | refine Kn.lis_l ?_ | refine Kn.seq_t ?_ | refine Kn.seq_l ?_ | refine Kn.it_t ?_))
local macro_rules | `(tactic| fail) => `(tactic| with_reducible (first | refine WS.seq ?_ | refine WS.nx ?_ | refine WS.rt ?_ | refine WS.asg ?_ | refine WS.drop ?_ | refine WS.ret ?_ | refine WS.nop ?_ | refine WS.retN ?_ | refine WS.brk ?_ | refine WS.cont ?_ | refine WS.sif ?_ | refine WS.par ?_ | refine WG.setA ?_ | refine WE.c ?_ | refine WE.op ?_ | refine WE.call ?_ | refine WE.callM ?_ | refine WE.un ?_ | refine WE.tup ?_ | refine WE.lst ?_ | refine WE.newL ?_ | refine WE.eif ?_ | refine WE.sl ?_ | refine WE.isN ?_ | refine WE.notN ?_ | refine WE.not ?_ | refine WE.and ?_ | refine WE.or ?_ | refine WE.app ?_ | refine WE.tupR ?_ | refine WE.lisR ?_ | refine WE.m1 ?_ | refine WE.tbl ?_ | refine WE.tblNin ?_ | refine WE.chain ?_ | refine WE.fldF ?_ | refine WE.mth ?_ | refine WE.disp ?_ | refine WE.dicC ?_ | refine WE.tupA ?_))
local macro_rules | `(tactic| trivial) => `(tactic| (repeat fail))
/-- a list of numbers that are written -/
theorem numbers_ok (is : List Int) (hl : is.length ≤ 100) (h : ∀ i ∈ is, 0 ≤ i ∧ i < 100) : F_numbers_in [.lst ((is.map nS).map .str)] = some (.lst (is.map .int)) := by
  refine WS.runP (n := 3) (b := f_numbers_in) ?_ rfl
  show WS _ [some (.lst ((is.map nS).map .str)), none, none] [] _
  trivial
  refine WE.lcM (fun i : Int => .str (nS i)) (fun i => .int i) (xs := is) ?_ (by omega) (fun i hi => ?_) ?_
  · trivial
    exact ⟨by rw [List.map_map]; rfl, rfl⟩
  · dsimp only [List.set_cons_succ, List.set_cons_zero]
    trivial
    refine Kn.call pure2si (nin_ok (h i hi).1 (h i hi).2) ?_
    exact ⟨rfl, rfl⟩
  · trivial
    refine Kn.mk in_non ?_
    trivial
    exact frz_p pureD_li
theorem share_ok (h : r.Tn) : F_share_in [.str r.share] = some (.lst (([r.top, r.under] : List Int).map .int)) := by
  have hs := len_share h
  refine WS.runP (n := 2) (b := f_share_in) ?_ rfl
  show WS _ [some (.str r.share), none] [] _
  trivial
  refine Kn.split one_slash (by decide) (wsz (by omega)) (split_share h) ?_
  trivial
  refine Kn.call (pure1l (ws := [nS r.top, nS r.under])) (numbers_ok [r.top, r.under] (by show 2 ≤ 100; decide) fun i hi => ?_) ?_
  · simp only [List.mem_cons, List.not_mem_nil, or_false] at hi
    rcases hi with rfl | rfl
    · exact h.top
    · exact h.under
  trivial
  exact frz_p pureD_li
theorem read_ok (h : r.Tn) (hv : r.Va) : F_Rule_read [.glo "Rule", .str r.txt] = some r.d := by
  have hs := txt_len h
  refine WS.runP (n := 9) (b := f_Rule_read) ?_ rfl
  show WS _ [some (.glo "Rule"), some (.str r.txt), none, none, none, none, none, none, none] [] _
  trivial
  refine Kn.split one_blank (by decide) (wsz (by omega)) (split_words h) ?_
  trivial
  refine WE.lcM (fun i : Nat => .int (i : Nat)) (fun i => .str (r.words.getD i "")) (xs := [1, 3, 5, 7, 9, 11]) ?_ (by show 6 ≤ 1000000; decide) (fun i hi => ?_) ?_
  · trivial
    exact ⟨rfl, rfl⟩
  · dsimp only [List.set_cons_succ, List.set_cons_zero]
    trivial
    simp only [List.mem_cons, List.not_mem_nil, or_false] at hi
    rcases hi with rfl | rfl | rfl | rfl | rfl | rfl <;> exact Kn.ix_l rfl ⟨rfl, rfl⟩
  trivial
  refine Kn.call (pure1l (ws := ([1, 3, 5, 7, 9, 11] : List Nat).map fun i => r.words.getD i "")) (numbers_ok [r.need, r.of, r.base, r.more, r.most, r.calm] (by show 6 ≤ 100; decide) fun i hi => ?_) ?_
  · simp only [List.mem_cons, List.not_mem_nil, or_false] at hi
    rcases hi with rfl | rfl | rfl | rfl | rfl | rfl
    · exact h.need
    · exact h.of
    · exact h.base
    · exact h.more
    · exact h.most
    · exact h.calm
  trivial
  refine Kn.ix_l (i := 15) (d := .str r.share) rfl ?_
  trivial
  refine Kn.call pure1s (share_ok h) ?_
  trivial
  refine Kn.ix_l (i := 16) (d := .str (upS r.up)) rfl ?_
  trivial
  rw [(rounds_up r.up).2]
  trivial
  refine Kn.call (pure1l (ws := r.words)) (words_between_ok _ _ _ _ _ _ _ _ r.back r.hears) ?_
  refine Kn.mk (ne_words h) ?_
  trivial
  refine Kn.ix_l (i := 13) (d := .str r.back.s) rfl ?_
  trivial
  refine Kn.ix_l (i := 16) (d := .str (upS r.up)) rfl ?_
  refine Kn.mk (rounds_up r.up).1 ?_
  trivial
  refine Kn.ix_l (i := 18) (d := .str r.hears.s) rfl ?_
  trivial
  refine Kn.mk (new_ok hv) ?_
  trivial
  exact frz_p ru_pure
end
end L4
namespace L4
open PySem
/-- no objects in the heap: asked only of laws without desks -/
abbrev NiB (m : M) : Prop := noIns m = true
structure BX (n : Nat) (m0 m : M) : Prop where
  at_ : ∃ a b c : Int, m[n]? = some (.lst [.int a, .int b, .int c]) ∧ 0 ≤ a
  le : m0.length ≤ m.length
  fr : ∀ i, i < m0.length → i ≠ n → m[i]? = m0[i]?
  ni : NiB m
def okO : O → Bool
  | .ins _ _ _ => false
  | _ => true
theorem noIns_eq (m : M) : noIns m = m.all okO := by
  unfold noIns
  congr 1
  try (funext o; cases o <;> rfl)
theorem noIns_more {m k : M} (h : noIns m = true) (hk : k.all okO = true) : noIns (m ++ k) = true := by
  rw [noIns_eq] at h ⊢
  rw [List.all_append, h, hk]; try rfl
theorem all_set : ∀ {m : M} {i : Nat} {o : O}, m.all okO = true → okO o = true → (m.set i o).all okO = true
  | [], _, _, h, _ => h
  | x :: m, 0, o, h, ho => by
    rw [List.set_cons_zero, List.all_cons, ho]
    rw [List.all_cons] at h
    exact (and2 h).2
  | x :: m, i + 1, o, h, ho => by
    rw [List.all_cons] at h
    rw [List.set_cons_succ, List.all_cons, (and2 h).1, all_set (and2 h).2 ho]
    rfl
theorem noIns_set {m : M} {i : Nat} {o : O} (h : noIns m = true) (ho : okO o = true) : noIns (m.set i o) = true := by
  rw [noIns_eq] at h ⊢
  exact all_set h ho
theorem NiB_more {m k : M} (h : NiB m) (hk : k.all okO = true) : NiB (m ++ k) := noIns_more h hk
theorem NiB_set {m : M} {i : Nat} {o : O} (h : NiB m) (ho : okO o = true) : NiB (m.set i o) := noIns_set h ho
section
variable {m m0 : M} {n : Nat} {Q : D → M → Prop}
theorem BX.lt (h : BX n m0 m) : n < m.length := by obtain ⟨a, b, c, h, _⟩ := h.at_; exact (List.getElem?_eq_some_iff.mp h).1
theorem BX.refl (h : BX n m0 m) : BX n m m := ⟨h.at_, Nat.le_refl _, fun _ _ _ => rfl, h.ni⟩
theorem BX.trans {m1 m2 : M} (h : BX n m0 m1) (k : BX n m1 m2) : BX n m0 m2 := ⟨k.at_, Nat.le_trans h.le k.le, fun i h1 h2 => (k.fr i (Nat.lt_of_lt_of_le h1 h.le) h2).trans (h.fr i h1 h2), k.ni⟩
theorem BX.more (h : BX n m0 m) (k : M) (hk : k.all okO = true) : BX n m0 (m ++ k) := by
  obtain ⟨a, b, c, h1, h2⟩ := h.at_
  exact ⟨⟨a, b, c, by rw [List.getElem?_append_left h.lt]; exact h1, h2⟩, by have := h.le; simp; omega, fun i h3 h4 => by rw [List.getElem?_append_left (Nat.lt_of_lt_of_le h3 h.le)]; exact h.fr i h3 h4, NiB_more h.ni hk⟩
theorem BX.set (h : BX n m0 m) {i : Nat} (o : O) (h0 : i ≠ n) (h1 : m0.length ≤ i) (ho : okO o = true := by rfl) : BX n m0 (m.set i o) := by
  obtain ⟨a, b, c, h2, h3⟩ := h.at_
  exact ⟨⟨a, b, c, by rw [List.getElem?_set_ne h0]; exact h2, h3⟩, by simp; exact h.le, fun j h4 h5 => by rw [List.getElem?_set_ne (by omega)]; exact h.fr j h4 h5, NiB_set h.ni ho⟩
theorem ixr_0 {a b c : D} (h : m[n]? = some (.lst [a, b, c])) : ixA m (.ref n) (.int 0) = some a := by rw [ixA_ref h]; exact L2.atI_nat (j := 0) rfl
theorem ixr_1 {a b c : D} (h : m[n]? = some (.lst [a, b, c])) : ixA m (.ref n) (.int 1) = some b := by rw [ixA_ref h]; exact L2.atI_nat (j := 1) rfl
theorem ixr_2 {a b c : D} (h : m[n]? = some (.lst [a, b, c])) : ixA m (.ref n) (.int 2) = some c := by rw [ixA_ref h]; exact L2.atI_nat (j := 2) rfl
theorem setr {a b c x : D} (h : m[n]? = some (.lst [a, b, c])) : setM m (.ref n) (.int 0) x = some (m.set n (.lst [x, b, c])) ∧ setM m (.ref n) (.int 1) x = some (m.set n (.lst [a, x, c])) ∧ setM m (.ref n) (.int 2) x = some (m.set n (.lst [a, b, x])) := by
  have key : ∀ (i : Int) (o : O), setO (.lst [a, b, c]) (.int i) x = some o → setM m (.ref n) (.int i) x = some (m.set n o) := fun i o e => by
    show ((m[n]?).bind fun o => setO o (.int i) x).map (fun o => m.set n o) = _
    rw [h]
    show (setO (.lst [a, b, c]) (.int i) x).map (fun o => m.set n o) = _
    rw [e]
    rfl
  exact ⟨key 0 _ rfl, key 1 _ rfl, key 2 _ rfl⟩
theorem set_at {o o' : O} (h : m[n]? = some o) : (m.set n o')[n]? = some o' := List.getElem?_set_self (List.getElem?_eq_some_iff.mp h).1
theorem mlt : (-(2 ^ 64) < (2147483647 : Int) ∧ (2147483647 : Int) < 2 ^ 64) := by decide
local macro_rules | `(tactic| fail) => `(tactic| (first | ((with_reducible refine w_and_t ?_ ?_); exact rfl) | ((with_reducible refine w_and_f ?_ ?_); exact rfl) | ((with_reducible refine w_or_t ?_ ?_); exact rfl) | ((with_reducible refine w_or_f ?_ ?_); exact rfl) | ((with_reducible refine Kn.fdiv ?_ ?_); exact ⟨by decide, by decide⟩) | ((with_reducible refine Kn.mod ?_ ?_); decide) | ((with_reducible refine And.intro (a := (_ && _) = true) ?_ ?_); exact rfl) | ((with_reducible refine And.intro (a := List.length _ = List.length _) ?_ ?_); exact rfl; dsimp only [setMany, List.set_cons_succ, List.set_cons_zero]) | ((with_reducible refine ⟨wsz ?_, ?_⟩); first | decide | (show (_ : Nat) ≤ 1000; simp only [List.length_cons, List.length_nil]; decide)) | with_reducible refine ⟨_, rfl, ?_⟩))
local macro_rules | `(tactic| fail) => `(tactic| (first | ((with_reducible refine WG.nm ?_); dsimp only [setMany, List.set_cons_succ, List.set_cons_zero]) | ((with_reducible refine WG.one ?_); dsimp only [setMany, List.set_cons_succ, List.set_cons_zero]) | ((with_reducible refine WG.tup ?_ ?_); exact rfl; dsimp only [setMany, List.set_cons_succ, List.set_cons_zero]) | ((with_reducible apply WE.var); exact rfl) | ((with_reducible apply WE.upP); exact rfl) | ((with_reducible apply WE.upT); exact rfl) | ((with_reducible apply WE.upL); exact rfl) | ((with_reducible apply WE.upN); exact rfl) | ((with_reducible apply WS.aug); exact rfl) | ((with_reducible apply WE.newPL); exact rfl) | ((with_reducible refine WS.ite_t ?_ ?_); exact rfl) | ((with_reducible refine WS.ite_f ?_ ?_); exact rfl) | ((with_reducible refine WE.ite_t ?_ ?_); exact rfl) | ((with_reducible refine WE.ite_f ?_ ?_); exact rfl)))
local macro_rules | `(tactic| fail) => `(tactic| with_reducible (first | refine Kn.it_l ?_ | refine Kn.it_s ?_ | refine Kn.str_s ?_ | refine Kn.sl_t ?_ | refine Kn.sl_l ?_ | refine Kn.kx_need ?_ | refine Kn.kx_of ?_ | refine Kn.kx_base ?_ | refine Kn.kx_more ?_ | refine Kn.kx_most ?_ | refine Kn.kx_calm ?_ | refine Kn.kx_back ?_ | refine Kn.kx_under ?_ | refine Kn.kx_top ?_ | refine Kn.kx_up ?_ | refine Kn.kx_hears ?_ | refine Fld.need ?_ | refine Fld.of ?_ | refine Fld.base ?_ | refine Fld.more ?_ | refine Fld.most ?_ | refine Fld.calm ?_ | refine Fld.back ?_ | refine Fld.top ?_ | refine Fld.under ?_ | refine Fld.up ?_ | refine Fld.hears ?_ | refine Fld.cap ?_ | refine Mth.time ?_))
local macro_rules | `(tactic| fail) => `(tactic| with_reducible (first | refine WE.tupL ?_ | refine WE.dicP ?_ | refine WP.nil ?_ | refine WP.cons ?_ | refine WE.upd ?_ | refine WA.nil ?_ | refine WA.cons ?_ | refine WA.star ?_ | refine WO.no ?_ | refine WO.yes ?_ | refine WT.val ?_ | refine WT.and ?_ | refine WT.or ?_ | refine WT.not ?_ | refine WT.tt ?_ | refine WI.it ?_ | refine Kn.add_i ?_ | refine Kn.sub ?_ | refine Kn.neg ?_ | refine Kn.eq_i ?_ | refine Kn.ne_i ?_ | refine Kn.lt ?_ | refine Kn.le ?_ | refine Kn.gt ?_ | refine Kn.ge ?_ | refine Kn.int_i ?_ | refine Kn.int_b ?_ | refine Kn.abs ?_ | refine Kn.min2 ?_ | refine Kn.max2 ?_ | refine Kn.len_t ?_ | refine Kn.len_l ?_ | refine Kn.len_s ?_ | refine Kn.tup_t ?_ | refine Kn.tup_l ?_ | refine Kn.lis_t ?_ | refine Kn.lis_l ?_ | refine Kn.seq_t ?_ | refine Kn.seq_l ?_ | refine Kn.it_t ?_))
local macro_rules | `(tactic| fail) => `(tactic| with_reducible (first | refine WS.seq ?_ | refine WS.nx ?_ | refine WS.rt ?_ | refine WS.asg ?_ | refine WS.drop ?_ | refine WS.ret ?_ | refine WS.nop ?_ | refine WS.retN ?_ | refine WS.brk ?_ | refine WS.cont ?_ | refine WS.sif ?_ | refine WS.par ?_ | refine WG.setA ?_ | refine WE.c ?_ | refine WE.op ?_ | refine WE.call ?_ | refine WE.callM ?_ | refine WE.un ?_ | refine WE.tup ?_ | refine WE.lst ?_ | refine WE.newL ?_ | refine WE.eif ?_ | refine WE.sl ?_ | refine WE.isN ?_ | refine WE.notN ?_ | refine WE.not ?_ | refine WE.and ?_ | refine WE.or ?_ | refine WE.app ?_ | refine WE.tupR ?_ | refine WE.lisR ?_ | refine WE.m1 ?_ | refine WE.tbl ?_ | refine WE.tblNin ?_ | refine WE.chain ?_ | refine WE.fldF ?_ | refine WE.mth ?_ | refine WE.disp ?_ | refine WE.dicC ?_ | refine WE.tupA ?_))
local macro_rules | `(tactic| trivial) => `(tactic| (repeat fail))
theorem take_b (h : BX n m0 m) {k : Int} (h1 : 1 ≤ k) (h2 : k < 1073741824) (q : ∀ (r : Int) m', 0 ≤ r → r < k → BX n m0 m' → Q (.int r) m') : Wr (F__law_take [.ref n, .int k] m) Q := by
  obtain ⟨a, b, c, h3, h4⟩ := h.at_
  have hn := h.lt
  have hle := h.le
  refine WS.runM (b := f__law_take) (n := 4) ?_ rfl
  show WS _ [some (.ref n), some (.int k), none, none] m _
  unfold f__law_take
  trivial
  refine Kn.mk (ixr_0 h3) ?_
  trivial
  cases hd : decide (0 < a)
  · trivial
    unfold f__law_take_5
    trivial
    refine Kn.mk (ixr_2 h3) ?_
    trivial
    refine Kn.mk (setr h3).2.2 ?_
    have e1 := set_at (o' := .lst [.int a, .int b, .int (c + 1)]) h3
    trivial
    unfold f__law_take_4
    trivial
    refine Kn.mk (ixr_1 e1) ?_
    trivial
    refine Kn.mk (ixr_2 e1) ?_
    refine Kn.mul_i (.inl (by decide)) ?_
    trivial
    refine Kn.mul_i (.inr (by decide)) ?_
    trivial
    unfold f__law_take_3
    trivial
    refine Kn.mul_i (.inr (by decide)) ?_
    trivial
    refine Kn.mk (setr e1).2.1 ?_
    generalize hx : ((((b + 98641 * (c + 1)) * 70381) % 2147483647) * 46021 + 28051) % 2147483629 + 1 = x
    have e2 := set_at (o' := .lst [.int a, .int x, .int (c + 1)]) e1
    trivial
    unfold f__law_take_2
    trivial
    refine Kn.mul_i (.inr mlt) ?_
    trivial
    refine Kn.mk (ixr_1 e2) ?_
    trivial
    refine Kn.mod (by omega) ?_
    trivial
    refine .inl ⟨_, rfl, q _ _ (Int.emod_nonneg _ (by omega)) (Int.emod_lt_of_pos _ (by omega)) ⟨⟨a, x, c + 1, e2, h4⟩, by simp; exact hle, fun i h5 h6 => ?_, NiB_set (NiB_set h.ni rfl) rfl⟩⟩
    rw [List.getElem?_set_ne (Ne.symm h6), List.getElem?_set_ne (Ne.symm h6)]
    exact h.fr i h5 h6
  · trivial
    refine Kn.mk (ixr_0 h3) ?_
    trivial
    refine Kn.mod (by omega) ?_
    trivial
    unfold f__law_take_1
    trivial
    refine Kn.mk (ixr_0 h3) ?_
    trivial
    refine Kn.fdiv ⟨by omega, h2⟩ ?_
    trivial
    refine Kn.mk (setr h3).1 ?_
    trivial
    refine .inl ⟨_, rfl, q _ _ (Int.emod_nonneg _ (by omega)) (Int.emod_lt_of_pos _ (by omega)) ⟨⟨a / k, b, c, set_at h3, Int.ediv_nonneg h4 (by omega)⟩, by simp; exact hle, fun i h5 h6 => ?_, NiB_set h.ni rfl⟩⟩
    rw [List.getElem?_set_ne (Ne.symm h6)]
    exact h.fr i h5 h6
theorem pick_b (h : BX n m0 m) {ds : List D} (h1 : 1 ≤ ds.length) (h2 : ds.length < 1000) (q : ∀ d m', d ∈ ds → BX n m0 m' → Q d m') : Wr (F__law_pick [.ref n, .lst ds] m) Q := by
  refine WS.runM (b := f__law_pick) (n := 2) ?_ rfl
  show WS _ [some (.ref n), some (.lst ds)] m _
  trivial
  refine take_b h (by omega) (by omega) fun r m1 a b h1 => ?_
  have hr : r.toNat < ds.length := by omega
  have e2 : ((r.toNat : Nat) : Int) = r := by omega
  rw [← e2]
  refine Kn.ix_l (List.getElem?_eq_getElem hr) ?_
  exact .inl ⟨_, rfl, q _ _ (List.getElem_mem hr) h1⟩
theorem take_bd (h : BX n m0 m) {d : Nat} {o : O} (hd : m[d]? = some o) (dn : d ≠ n) {k : Int} (h1 : 1 ≤ k) (h2 : k < 1073741824) (q : ∀ (r : Int) m', 0 ≤ r → r < k → BX n m0 m' → m'[d]? = some o → Q (.int r) m') : Wr (F__law_take [.ref n, .int k] m) Q :=
  take_b h.refl h1 h2 fun r m' a b h3 => q r m' a b (h.trans h3) ((h3.fr d (List.getElem?_eq_some_iff.mp hd).1 dn).trans hd)
theorem pick_bd (h : BX n m0 m) {d : Nat} {o : O} (hd : m[d]? = some o) (dn : d ≠ n) {ds : List D} (h1 : 1 ≤ ds.length) (h2 : ds.length < 1000) (q : ∀ e m', e ∈ ds → BX n m0 m' → m'[d]? = some o → Q e m') : Wr (F__law_pick [.ref n, .lst ds] m) Q :=
  pick_b h.refl h1 h2 fun e m' a h3 => q e m' a (h.trans h3) ((h3.fr d (List.getElem?_eq_some_iff.mp hd).1 dn).trans hd)
end
end L4
namespace L4
open PySem
abbrev rK : List D := [.str "need", .str "of", .str "base", .str "more", .str "most", .str "calm", .str "back", .str "under", .str "top", .str "up", .str "hears"]
def Ru.kv (r : Ru) : List D := [.int r.need, .int r.of, .int r.base, .int r.more, .int r.most, .int r.calm, .str r.back.s, .int r.under, .int r.top, .bl r.up, .str r.hears.s]
def Ru.k (r : Ru) : D := .dic rK r.kv
/-- what a law draws -/
structure Ru.Wd (r : Ru) (size long calms : Int) : Prop where
  a1 : 1 ≤ r.need
  a2 : r.need ≤ r.of
  a3 : r.of ≤ size
  b1 : 1 ≤ r.base
  b2 : r.base ≤ r.most
  b3 : r.most ≤ long
  m1 : 0 ≤ r.more
  m2 : r.more ≤ 9
  c1 : 0 ≤ r.calm
  c2 : r.calm ≤ calms
  t1 : 0 ≤ r.top
  t2 : r.top ≤ r.under
  u1 : 1 ≤ r.under
  u2 : r.under ≤ 20
  cap : r.cap = capOf r.base r.more r.most
section
variable {m m0 : M} {n d : Nat} {Q : D → M → Prop}
theorem Ru.Wd.va {r : Ru} {s l c : Int} (h : r.Wd s l c) : r.Va := ⟨h.a1, h.a2, h.b1, h.m1, h.b2, h.c1, h.t1, h.u1, h.t2, by have := h.m2; omega, h.cap⟩
theorem Ru.Wd.tn {r : Ru} {s l c : Int} (h : r.Wd s l c) (hs : s ≤ 90) (hl : l ≤ 90) (hc : c ≤ 90) : r.Tn := by
  obtain ⟨a1, a2, a3, b1, b2, b3, m1, m2, c1, c2, t1, t2, u1, u2, _⟩ := h
  exact ⟨by omega, by omega, by omega, by omega, by omega, by omega, by omega, by omega⟩
theorem ix_dr {ks vs : List D} {y x : D} (h : m[d]? = some (.dic ks vs)) (e : (if headOk ks y then dGet ks vs y else none) = some x) : ixA m (.ref d) y = some x := by
  have e1 : dicOf m (.ref d) = some (ks, vs) := by
    show (m[d]?).bind dicO = _
    rw [h]; rfl
  unfold ixA
  rw [e1]
  exact e
theorem put_dr {ks vs ks2 vs2 : List D} {y x : D} (h : m[d]? = some (.dic ks vs)) (e : setO (.dic ks vs) y x = some (.dic ks2 vs2)) : setM m (.ref d) y x = some (m.set d (.dic ks2 vs2)) := by
  show ((m[d]?).bind fun o => setO o y x).map (fun o => m.set d o) = _
  rw [h]
  show (setO (.dic ks vs) y x).map (fun o => m.set d o) = _
  rw [e]
  rfl
theorem p_more {a b c x : D} : setO (.dic [.str "need", .str "of", .str "base"] [a, b, c]) (.str "more") x = some (.dic [.str "need", .str "of", .str "base", .str "more"] [a, b, c, x]) := by kernel_rfl
theorem p_most {a b c e x : D} : setO (.dic [.str "need", .str "of", .str "base", .str "more"] [a, b, c, e]) (.str "most") x = some (.dic [.str "need", .str "of", .str "base", .str "more", .str "most"] [a, b, c, e, x]) := by kernel_rfl
theorem p_under {a b c e f g h x : D} : setO (.dic [.str "need", .str "of", .str "base", .str "more", .str "most", .str "calm", .str "back"] [a, b, c, e, f, g, h]) (.str "under") x = some (.dic [.str "need", .str "of", .str "base", .str "more", .str "most", .str "calm", .str "back", .str "under"] [a, b, c, e, f, g, h, x]) := by kernel_rfl
theorem p_top {a b c e f g h i x : D} : setO (.dic [.str "need", .str "of", .str "base", .str "more", .str "most", .str "calm", .str "back", .str "under"] [a, b, c, e, f, g, h, i]) (.str "top") x = some (.dic [.str "need", .str "of", .str "base", .str "more", .str "most", .str "calm", .str "back", .str "under", .str "top"] [a, b, c, e, f, g, h, i, x]) := by kernel_rfl
theorem g_base4 {a b c e : D} : (if headOk [.str "need", .str "of", .str "base", .str "more"] (.str "base") then dGet [.str "need", .str "of", .str "base", .str "more"] [a, b, c, e] (.str "base") else none) = some c := by kernel_rfl
theorem g_under8 {a b c e f g h i : D} : (if headOk [.str "need", .str "of", .str "base", .str "more", .str "most", .str "calm", .str "back", .str "under"] (.str "under") then dGet [.str "need", .str "of", .str "base", .str "more", .str "most", .str "calm", .str "back", .str "under"] [a, b, c, e, f, g, h, i] (.str "under") else none) = some i := by kernel_rfl
theorem mg3 {a b c : D} : mergeD [(.str "need", a), (.str "of", b), (.str "base", c)] ([], []) = ([.str "need", .str "of", .str "base"], [a, b, c]) := by kernel_rfl
theorem mg2a {a b : D} : mergeD [(.str "calm", a), (.str "back", b)] ([], []) = ([.str "calm", .str "back"], [a, b]) := by kernel_rfl
theorem mg2b {a b : D} : mergeD [(.str "up", a), (.str "hears", b)] ([], []) = ([.str "up", .str "hears"], [a, b]) := by kernel_rfl
theorem mg7 {a b c e f g h : D} : mergeD (([.str "calm", .str "back"] : List D).zip [g, h]) ([.str "need", .str "of", .str "base", .str "more", .str "most"], [a, b, c, e, f]) = ([.str "need", .str "of", .str "base", .str "more", .str "most", .str "calm", .str "back"], [a, b, c, e, f, g, h]) := by kernel_rfl
theorem mg11 {a b c e f g h i j k l : D} : mergeD (([.str "up", .str "hears"] : List D).zip [k, l]) ([.str "need", .str "of", .str "base", .str "more", .str "most", .str "calm", .str "back", .str "under", .str "top"], [a, b, c, e, f, g, h, i, j]) = (rK, [a, b, c, e, f, g, h, i, j, k, l]) := by kernel_rfl
theorem fl5 : flatL [.str "need", .str "of", .str "base", .str "more", .str "most"] = true := rfl
theorem fl9 : flatL [.str "need", .str "of", .str "base", .str "more", .str "most", .str "calm", .str "back", .str "under", .str "top"] = true := rfl
theorem okU {ks ks2 vs2 : List D} (h1 : flatL ks = true) (h2 : flatL ks2 = true) (h3 : ks.length + ks2.length ≤ 1000) (h4 : ks2.length = vs2.length) : (flatL ks && flatL ks2 && decide (ks.length + ks2.length ≤ sizeLine) && decide (ks2.length = vs2.length)) = true := by
  simp only [h1, h2, Bool.true_and, Bool.and_eq_true, decide_eq_true_eq]
  exact ⟨wsz h3, h4⟩
theorem hr_b {d : D} (h : d ∈ ([.str "fault", .str "no", .str "out"] : List D)) : ∃ b : Hr, d = .str b.s := by
  simp only [List.mem_cons, List.not_mem_nil, or_false] at h
  rcases h with rfl | rfl | rfl
  · exact ⟨.fault, rfl⟩
  · exact ⟨.no, rfl⟩
  · exact ⟨.out, rfl⟩
theorem bk_b {d : D} (h : d ∈ ([.str "half", .str "open", .str "trial"] : List D)) : ∃ b : Bk, d = .str b.s := by
  simp only [List.mem_cons, List.not_mem_nil, or_false] at h
  rcases h with rfl | rfl | rfl
  · exact ⟨.half, rfl⟩
  · exact ⟨.opn, rfl⟩
  · exact ⟨.trial, rfl⟩
theorem more_b {d : D} (h : d ∈ ([.int 0, .int 1, .int 2, .int 1, .int 0, .int 5, .int 9] : List D)) : ∃ i : Int, d = .int i ∧ 0 ≤ i ∧ i ≤ 9 := by
  simp only [List.mem_cons, List.not_mem_nil, or_false] at h
  rcases h with rfl | rfl | rfl | rfl | rfl | rfl | rfl <;> exact ⟨_, rfl, by decide, by decide⟩
theorem pow18b : powD m (.int 10) (.int 18) = some (.int (10 ^ 18)) := by kernel_rfl
theorem ix_scr {ds : List D} {i : Nat} {x : D} (h : ds[i]? = some x) : ixA m (.scr ds) (.int (i : Nat)) = some x := by
  rw [ixA_scr]
  exact L2.atI_nat h
local macro_rules | `(tactic| fail) => `(tactic| (first | ((with_reducible refine w_and_t ?_ ?_); exact rfl) | ((with_reducible refine w_and_f ?_ ?_); exact rfl) | ((with_reducible refine w_or_t ?_ ?_); exact rfl) | ((with_reducible refine w_or_f ?_ ?_); exact rfl) | ((with_reducible refine Kn.fdiv ?_ ?_); exact ⟨by decide, by decide⟩) | ((with_reducible refine Kn.mod ?_ ?_); decide) | ((with_reducible refine And.intro (a := (_ && _) = true) ?_ ?_); exact rfl) | ((with_reducible refine And.intro (a := List.length _ = List.length _) ?_ ?_); exact rfl; dsimp only [setMany, List.set_cons_succ, List.set_cons_zero]) | ((with_reducible refine ⟨wsz ?_, ?_⟩); first | decide | (show (_ : Nat) ≤ 1000; simp only [List.length_cons, List.length_nil]; decide)) | with_reducible refine ⟨_, rfl, ?_⟩))
local macro_rules | `(tactic| fail) => `(tactic| (first | ((with_reducible refine WG.nm ?_); dsimp only [setMany, List.set_cons_succ, List.set_cons_zero]) | ((with_reducible refine WG.one ?_); dsimp only [setMany, List.set_cons_succ, List.set_cons_zero]) | ((with_reducible refine WG.tup ?_ ?_); exact rfl; dsimp only [setMany, List.set_cons_succ, List.set_cons_zero]) | ((with_reducible apply WE.var); exact rfl) | ((with_reducible apply WE.upP); exact rfl) | ((with_reducible apply WE.upT); exact rfl) | ((with_reducible apply WE.upL); exact rfl) | ((with_reducible apply WE.upN); exact rfl) | ((with_reducible apply WS.aug); exact rfl) | ((with_reducible apply WE.newPL); exact rfl) | ((with_reducible refine WS.ite_t ?_ ?_); exact rfl) | ((with_reducible refine WS.ite_f ?_ ?_); exact rfl) | ((with_reducible refine WE.ite_t ?_ ?_); exact rfl) | ((with_reducible refine WE.ite_f ?_ ?_); exact rfl)))
local macro_rules | `(tactic| fail) => `(tactic| with_reducible (first | refine Kn.it_l ?_ | refine Kn.it_s ?_ | refine Kn.str_s ?_ | refine Kn.sl_t ?_ | refine Kn.sl_l ?_ | refine Kn.kx_need ?_ | refine Kn.kx_of ?_ | refine Kn.kx_base ?_ | refine Kn.kx_more ?_ | refine Kn.kx_most ?_ | refine Kn.kx_calm ?_ | refine Kn.kx_back ?_ | refine Kn.kx_under ?_ | refine Kn.kx_top ?_ | refine Kn.kx_up ?_ | refine Kn.kx_hears ?_ | refine Fld.need ?_ | refine Fld.of ?_ | refine Fld.base ?_ | refine Fld.more ?_ | refine Fld.most ?_ | refine Fld.calm ?_ | refine Fld.back ?_ | refine Fld.top ?_ | refine Fld.under ?_ | refine Fld.up ?_ | refine Fld.hears ?_ | refine Fld.cap ?_ | refine Mth.time ?_))
local macro_rules | `(tactic| fail) => `(tactic| with_reducible (first | refine WE.tupL ?_ | refine WE.dicP ?_ | refine WP.nil ?_ | refine WP.cons ?_ | refine WE.upd ?_ | refine WA.nil ?_ | refine WA.cons ?_ | refine WA.star ?_ | refine WO.no ?_ | refine WO.yes ?_ | refine WT.val ?_ | refine WT.and ?_ | refine WT.or ?_ | refine WT.not ?_ | refine WT.tt ?_ | refine WI.it ?_ | refine Kn.add_i ?_ | refine Kn.sub ?_ | refine Kn.neg ?_ | refine Kn.eq_i ?_ | refine Kn.ne_i ?_ | refine Kn.lt ?_ | refine Kn.le ?_ | refine Kn.gt ?_ | refine Kn.ge ?_ | refine Kn.int_i ?_ | refine Kn.int_b ?_ | refine Kn.abs ?_ | refine Kn.min2 ?_ | refine Kn.max2 ?_ | refine Kn.len_t ?_ | refine Kn.len_l ?_ | refine Kn.len_s ?_ | refine Kn.tup_t ?_ | refine Kn.tup_l ?_ | refine Kn.lis_t ?_ | refine Kn.lis_l ?_ | refine Kn.seq_t ?_ | refine Kn.seq_l ?_ | refine Kn.it_t ?_))
local macro_rules | `(tactic| fail) => `(tactic| with_reducible (first | refine WS.seq ?_ | refine WS.nx ?_ | refine WS.rt ?_ | refine WS.asg ?_ | refine WS.drop ?_ | refine WS.ret ?_ | refine WS.nop ?_ | refine WS.retN ?_ | refine WS.brk ?_ | refine WS.cont ?_ | refine WS.sif ?_ | refine WS.par ?_ | refine WG.setA ?_ | refine WE.c ?_ | refine WE.op ?_ | refine WE.call ?_ | refine WE.callM ?_ | refine WE.un ?_ | refine WE.tup ?_ | refine WE.lst ?_ | refine WE.newL ?_ | refine WE.eif ?_ | refine WE.sl ?_ | refine WE.isN ?_ | refine WE.notN ?_ | refine WE.not ?_ | refine WE.and ?_ | refine WE.or ?_ | refine WE.app ?_ | refine WE.tupR ?_ | refine WE.lisR ?_ | refine WE.m1 ?_ | refine WE.tbl ?_ | refine WE.tblNin ?_ | refine WE.chain ?_ | refine WE.fldF ?_ | refine WE.mth ?_ | refine WE.disp ?_ | refine WE.dicC ?_ | refine WE.tupA ?_))
local macro_rules | `(tactic| trivial) => `(tactic| (repeat fail))
theorem rule_b (h : BX n m0 m) (hn : n < m0.length) {size long calms : Int} (hs : 1 ≤ size ∧ size ≤ 90) (hl : 1 ≤ long ∧ long ≤ 90) (hc : 0 ≤ calms ∧ calms ≤ 90) (q : ∀ (r : Ru) d m', r.Wd size long calms → r.under ≤ 6 → BX n m0 m' → m0.length ≤ d → m'[d]? = some (.dic rK r.kv) → Q (.ref d) m') : Wr (F__law_rule [.ref n, .int size, .int long, .int calms] m) Q := by
  refine WS.runM (b := f__law_rule) (n := 6) ?_ rfl
  show WS _ [some (.ref n), some (.int size), some (.int long), some (.int calms), none, none] m _
  trivial
  refine take_b h (by omega) (by omega) fun i1 m1 a1 b1 h => ?_
  trivial
  refine take_b h (by omega) (by omega) fun i2 m2 a2 b2 h => ?_
  trivial
  refine take_b h (by omega) (by omega) fun i3 m3 a3 b3 h => ?_
  trivial
  have hlt := h.lt
  have hle := h.le
  have hb := h.more [.dic [.str "need", .str "of", .str "base"] [.int (1 + i1), .int (1 + i1 + i2), .int (1 + i3)]] rfl
  have hd : (m3 ++ [.dic [.str "need", .str "of", .str "base"] [.int (1 + i1), .int (1 + i1 + i2), .int (1 + i3)]])[m3.length]? = some (O.dic [.str "need", .str "of", .str "base"] [.int (1 + i1), .int (1 + i1 + i2), .int (1 + i3)]) := by simp
  rw [mg3]
  dsimp only [cond_true]
  generalize (m3 ++ [.dic [.str "need", .str "of", .str "base"] [.int (1 + i1), .int (1 + i1 + i2), .int (1 + i3)]]) = mb at *
  generalize m3.length = d at *
  have dn : d ≠ n := by omega
  have dl : m0.length ≤ d := by omega
  trivial
  refine pick_bd hb hd dn (by show 1 ≤ 7; decide) (by show 7 < 1000; decide) fun e m4 he hb hd => ?_
  obtain ⟨more, rfl, e1, e2⟩ := more_b he
  trivial
  refine Kn.mk (put_dr hd p_more) ?_
  have hb := hb.set (.dic [.str "need", .str "of", .str "base", .str "more"] [.int (1 + i1), .int (1 + i1 + i2), .int (1 + i3), .int more]) dn dl
  have hd := set_at (o' := .dic [.str "need", .str "of", .str "base", .str "more"] [.int (1 + i1), .int (1 + i1 + i2), .int (1 + i3), .int more]) hd
  trivial
  refine Kn.mk (ix_dr hd g_base4) ?_
  trivial
  refine Kn.mk (ix_dr hd g_base4) ?_
  trivial
  refine take_bd hb hd dn (by omega) (by omega) fun i5 m5 a5 b5 hb hd => ?_
  trivial
  refine Kn.mk (put_dr hd p_most) ?_
  have hb := hb.set (.dic [.str "need", .str "of", .str "base", .str "more", .str "most"] [.int (1 + i1), .int (1 + i1 + i2), .int (1 + i3), .int more, .int (1 + i3 + i5)]) dn dl
  have hd := set_at (o' := .dic [.str "need", .str "of", .str "base", .str "more", .str "most"] [.int (1 + i1), .int (1 + i1 + i2), .int (1 + i3), .int more, .int (1 + i3 + i5)]) hd
  trivial
  refine ⟨⟨_, _, hd, fl5⟩, ?_⟩
  trivial
  refine take_bd hb hd dn (by omega) (by omega) fun i6 m6 a6 b6 hb hd => ?_
  trivial
  refine pick_bd hb hd dn (by show 1 ≤ 3; decide) (by show 3 < 1000; decide) fun e m7 he hb hd => ?_
  obtain ⟨bk, rfl⟩ := bk_b he
  trivial
  rw [mg2a]
  refine ⟨_, _, _, _, hd, rfl, okU fl5 rfl (by show 7 ≤ 1000; decide) rfl, ?_⟩
  rw [mg7]
  have hb := hb.set (.dic [.str "need", .str "of", .str "base", .str "more", .str "most", .str "calm", .str "back"] [.int (1 + i1), .int (1 + i1 + i2), .int (1 + i3), .int more, .int (1 + i3 + i5), .int i6, .str bk.s]) dn dl
  have hd := set_at (o' := .dic [.str "need", .str "of", .str "base", .str "more", .str "most", .str "calm", .str "back"] [.int (1 + i1), .int (1 + i1 + i2), .int (1 + i3), .int more, .int (1 + i3 + i5), .int i6, .str bk.s]) hd
  trivial
  refine take_bd hb hd dn (by decide) (by decide) fun i8 m8 a8 b8 hb hd => ?_
  trivial
  refine Kn.mk (put_dr hd p_under) ?_
  have hb := hb.set (.dic [.str "need", .str "of", .str "base", .str "more", .str "most", .str "calm", .str "back", .str "under"] [.int (1 + i1), .int (1 + i1 + i2), .int (1 + i3), .int more, .int (1 + i3 + i5), .int i6, .str bk.s, .int (1 + i8)]) dn dl
  have hd := set_at (o' := .dic [.str "need", .str "of", .str "base", .str "more", .str "most", .str "calm", .str "back", .str "under"] [.int (1 + i1), .int (1 + i1 + i2), .int (1 + i3), .int more, .int (1 + i3 + i5), .int i6, .str bk.s, .int (1 + i8)]) hd
  trivial
  refine Kn.mk (ix_dr hd g_under8) ?_
  trivial
  refine take_bd hb hd dn (by omega) (by omega) fun i9 m9 a9 b9 hb hd => ?_
  trivial
  refine Kn.mk (put_dr hd p_top) ?_
  have hb := hb.set (.dic [.str "need", .str "of", .str "base", .str "more", .str "most", .str "calm", .str "back", .str "under", .str "top"] [.int (1 + i1), .int (1 + i1 + i2), .int (1 + i3), .int more, .int (1 + i3 + i5), .int i6, .str bk.s, .int (1 + i8), .int i9]) dn dl
  have hd := set_at (o' := .dic [.str "need", .str "of", .str "base", .str "more", .str "most", .str "calm", .str "back", .str "under", .str "top"] [.int (1 + i1), .int (1 + i1 + i2), .int (1 + i3), .int more, .int (1 + i3 + i5), .int i6, .str bk.s, .int (1 + i8), .int i9]) hd
  trivial
  refine ⟨⟨_, _, hd, fl9⟩, ?_⟩
  trivial
  refine take_bd hb hd dn (by decide) (by decide) fun i10 m10 a10 b10 hb hd => ?_
  trivial
  refine pick_bd hb hd dn (by show 1 ≤ 3; decide) (by show 3 < 1000; decide) fun e m11 he hb hd => ?_
  obtain ⟨hh, rfl⟩ := hr_b he
  trivial
  rw [mg2b]
  refine ⟨_, _, _, _, hd, rfl, okU fl9 rfl (by show 11 ≤ 1000; decide) rfl, ?_⟩
  rw [mg11]
  have hb := hb.set (.dic rK [.int (1 + i1), .int (1 + i1 + i2), .int (1 + i3), .int more, .int (1 + i3 + i5), .int i6, .str bk.s, .int (1 + i8), .int i9, .bl (i10 == 0), .str hh.s]) dn dl
  have hd := set_at (o' := .dic rK [.int (1 + i1), .int (1 + i1 + i2), .int (1 + i3), .int more, .int (1 + i3 + i5), .int i6, .str bk.s, .int (1 + i8), .int i9, .bl (i10 == 0), .str hh.s]) hd
  trivial
  exact .inl ⟨_, rfl, q ⟨1 + i1, 1 + i1 + i2, 1 + i3, more, 1 + i3 + i5, i6, bk, i9, 1 + i8, i10 == 0, hh, capOf (1 + i3) more (1 + i3 + i5)⟩ d _ ⟨by show 1 ≤ 1 + i1; omega, by show 1 + i1 ≤ 1 + i1 + i2; omega, by show 1 + i1 + i2 ≤ size; omega, by show 1 ≤ 1 + i3; omega, by show 1 + i3 ≤ 1 + i3 + i5; omega, by show 1 + i3 + i5 ≤ long; omega, e1, e2, a6, by show i6 ≤ calms; omega, a9, by show i9 ≤ 1 + i8; omega, by show 1 ≤ 1 + i8; omega, by show 1 + i8 ≤ 20; omega, rfl⟩ (by show 1 + i8 ≤ 6; omega) hb dl hd⟩
theorem box_b (ns : List Int) (hni : NiB m) {k : Int} (hk : 0 ≤ k ∧ (k < ns.length ∨ ns.length = 0)) (q : ∀ n m', n < m'.length → BX n m' m' → Q (.ref n) m') : Wr (F__law_box [.scr (ns.map D.int), .int k] m) Q := by
  refine WS.runM (b := f__law_box) (n := 4) ?_ rfl
  show WS _ [some (.scr (ns.map D.int)), some (.int k), none, none] m _
  have fin : ∀ a : Int, 0 ≤ a → WS f__law_box_2 [some (.scr (ns.map D.int)), some (.int k), some (.int a), none] m fun r m1 => (∃ y, r = .rt y ∧ Q y m1) ∨ ∃ ρ, r = .nx ρ ∧ Q .non m1 := fun a ha => by
    have last : ∀ (m1 : M) (b : Int), NiB m1 → 0 ≤ b → (fun d m2 => (∃ y, Fl.rt d = .rt y ∧ Q y m2) ∨ ∃ ρ, Fl.rt d = .nx ρ ∧ Q .non m2) (.ref m1.length) (m1 ++ [.lst [.int b, .int ((a % 2147483629 * 45427 + 38201 * k + 17) % 2147483629 + 1), .int 0]])    := fun m1 b hm1 hb =>
      .inl ⟨_, rfl, q m1.length _ (by simp) ⟨⟨b, (a % 2147483629 * 45427 + 38201 * k + 17) % 2147483629 + 1, 0, by simp, hb⟩, Nat.le_refl _, fun _ _ _ => rfl, NiB_more hm1 rfl⟩⟩
    unfold f__law_box_2
    trivial
    refine Kn.mul_i (.inr (by decide)) ?_
    trivial
    refine Kn.mul_i (.inl (by decide)) ?_
    trivial
    unfold f__law_box_1
    trivial
    refine Kn.mk pow18b ?_
    trivial
    cases hd : decide ((10 : Int) ^ 18 ≤ a)
    · refine Kn.ix_l (i := 0) (d := .int 0) rfl ?_
      trivial
      exact last m 0 hni (by decide)
    · refine Kn.ix_l (i := 1) (d := .int a) rfl ?_
      trivial
      exact last m a hni ha
  unfold f__law_box
  trivial
  refine Kn.mul_i (.inl (by decide)) ?_
  trivial
  unfold f__law_box_3
  trivial
  rw [List.length_map]
  cases hd : decide (k < (ns.length : Int))
  · have h0 : ns.length = 0 := by
      have := of_decide_eq_false hd
      omega
    trivial
    rw [List.length_map, h0]
    trivial
    exact fin _ (by omega)
  · have h1 : k < ns.length := of_decide_eq_true hd
    have h2 : k.toNat < ns.length := by omega
    have e2 : ((k.toNat : Nat) : Int) = k := by omega
    trivial
    rw [← e2]
    refine Kn.mk (d := .int ns[k.toNat]) (ix_scr (by simp [h2])) ?_
    trivial
    rw [e2]
    exact fin _ (by split <;> omega)
end
end L4
namespace L4
open PySem
section
variable {m : M} {r : Ru} {Q : D → Prop} {d : Nat}
theorem kx_need : ixA m (.dic rK r.kv) (.str "need") = some (.int r.need) := ix_dp (by kernel_rfl)
theorem kx_of : ixA m (.dic rK r.kv) (.str "of") = some (.int r.of) := ix_dp (by kernel_rfl)
theorem kx_base : ixA m (.dic rK r.kv) (.str "base") = some (.int r.base) := ix_dp (by kernel_rfl)
theorem kx_more : ixA m (.dic rK r.kv) (.str "more") = some (.int r.more) := ix_dp (by kernel_rfl)
theorem kx_most : ixA m (.dic rK r.kv) (.str "most") = some (.int r.most) := ix_dp (by kernel_rfl)
theorem kx_calm : ixA m (.dic rK r.kv) (.str "calm") = some (.int r.calm) := ix_dp (by kernel_rfl)
theorem kx_back : ixA m (.dic rK r.kv) (.str "back") = some (.str r.back.s) := ix_dp (by kernel_rfl)
theorem kx_under : ixA m (.dic rK r.kv) (.str "under") = some (.int r.under) := ix_dp (by kernel_rfl)
theorem kx_top : ixA m (.dic rK r.kv) (.str "top") = some (.int r.top) := ix_dp (by kernel_rfl)
theorem kx_up : ixA m (.dic rK r.kv) (.str "up") = some (.bl r.up) := ix_dp (by kernel_rfl)
theorem kx_hears : ixA m (.dic rK r.kv) (.str "hears") = some (.str r.hears.s) := ix_dp (by kernel_rfl)
theorem Kn.kx_need (q : Q (.int r.need)) : Kn (ixA m (.dic rK r.kv) (.str "need")) Q := .mk L4.kx_need q
theorem Kn.kx_of (q : Q (.int r.of)) : Kn (ixA m (.dic rK r.kv) (.str "of")) Q := .mk L4.kx_of q
theorem Kn.kx_base (q : Q (.int r.base)) : Kn (ixA m (.dic rK r.kv) (.str "base")) Q := .mk L4.kx_base q
theorem Kn.kx_more (q : Q (.int r.more)) : Kn (ixA m (.dic rK r.kv) (.str "more")) Q := .mk L4.kx_more q
theorem Kn.kx_most (q : Q (.int r.most)) : Kn (ixA m (.dic rK r.kv) (.str "most")) Q := .mk L4.kx_most q
theorem Kn.kx_calm (q : Q (.int r.calm)) : Kn (ixA m (.dic rK r.kv) (.str "calm")) Q := .mk L4.kx_calm q
theorem Kn.kx_back (q : Q (.str r.back.s)) : Kn (ixA m (.dic rK r.kv) (.str "back")) Q := .mk L4.kx_back q
theorem Kn.kx_under (q : Q (.int r.under)) : Kn (ixA m (.dic rK r.kv) (.str "under")) Q := .mk L4.kx_under q
theorem Kn.kx_top (q : Q (.int r.top)) : Kn (ixA m (.dic rK r.kv) (.str "top")) Q := .mk L4.kx_top q
theorem Kn.kx_up (q : Q (.bl r.up)) : Kn (ixA m (.dic rK r.kv) (.str "up")) Q := .mk L4.kx_up q
theorem Kn.kx_hears (q : Q (.str r.hears.s)) : Kn (ixA m (.dic rK r.kv) (.str "hears")) Q := .mk L4.kx_hears q
theorem pure1k : pureL [.dic rK r.kv] = true := rfl
theorem frz_rule (h : m[d]? = some (.dic rK r.kv)) : mapO (frz m) [.ref d] = some [.dic rK r.kv] := by
  have e : frz m (.ref d) = some (.dic rK r.kv) := by
    show frzGo m (39 + 1) (.ref d) = _
    unfold frzGo
    rw [h]
    rfl
  simp only [mapO, e]
theorem pure_ref {d : Nat} : pureL [.ref d] = false := rfl
theorem noLd_ru : noLd r.d = true := rfl
theorem lsl {ds : List D} : lstOf m (.lst ds) = some ds := rfl
theorem words_join (h : r.Tn) : (r.words.map (·.length)).sum + r.words.length * (" " : Str).length ≤ 16777216 := by
  have h1 := words_sum h
  have e1 : (" " : Str).length = 1 := len_lit.2.2.2.2.2.2.2.2.2.1
  have e2 : r.words.length = 19 := rfl
  rw [e1, e2]
  generalize (r.words.map (·.length)).sum = x at *
  omega
theorem sl1 (h : r.Tn) : (nS r.top).length + ("/" : Str).length ≤ sizeLine := by
  have h1 := len_nS h.top
  have h2 : ("/" : Str).length = 1 := len_lit.2.2.2.2.2.2.2.2.2.2
  rw [h2]
  generalize (nS r.top).length = x at *
  exact wsz (by omega)
theorem sl2 (h : r.Tn) : (catS (nS r.top) "/").length + (nS r.under).length ≤ sizeLine := by
  have h1 := len_share h
  have e : (catS (nS r.top) "/").length + (nS r.under).length = r.share.length := by
    rw [slen, slen, slen]
    unfold Ru.share
    simp only [catS_l, List.length_append]
  rw [e]
  generalize r.share.length = x at *
  exact wsz (by omega)
local macro_rules | `(tactic| fail) => `(tactic| (first | ((with_reducible refine w_and_t ?_ ?_); exact rfl) | ((with_reducible refine w_and_f ?_ ?_); exact rfl) | ((with_reducible refine w_or_t ?_ ?_); exact rfl) | ((with_reducible refine w_or_f ?_ ?_); exact rfl) | ((with_reducible refine Kn.fdiv ?_ ?_); exact ⟨by decide, by decide⟩) | ((with_reducible refine Kn.mod ?_ ?_); decide) | ((with_reducible refine And.intro (a := (_ && _) = true) ?_ ?_); exact rfl) | ((with_reducible refine And.intro (a := List.length _ = List.length _) ?_ ?_); exact rfl; dsimp only [setMany, List.set_cons_succ, List.set_cons_zero]) | ((with_reducible refine ⟨wsz ?_, ?_⟩); first | decide | (show (_ : Nat) ≤ 1000; simp only [List.length_cons, List.length_nil]; decide)) | with_reducible refine ⟨_, rfl, ?_⟩))
local macro_rules | `(tactic| fail) => `(tactic| (first | ((with_reducible refine WG.nm ?_); dsimp only [setMany, List.set_cons_succ, List.set_cons_zero]) | ((with_reducible refine WG.one ?_); dsimp only [setMany, List.set_cons_succ, List.set_cons_zero]) | ((with_reducible refine WG.tup ?_ ?_); exact rfl; dsimp only [setMany, List.set_cons_succ, List.set_cons_zero]) | ((with_reducible apply WE.var); exact rfl) | ((with_reducible apply WE.upP); exact rfl) | ((with_reducible apply WE.upT); exact rfl) | ((with_reducible apply WE.upL); exact rfl) | ((with_reducible apply WE.upN); exact rfl) | ((with_reducible apply WS.aug); exact rfl) | ((with_reducible apply WE.newPL); exact rfl) | ((with_reducible refine WS.ite_t ?_ ?_); exact rfl) | ((with_reducible refine WS.ite_f ?_ ?_); exact rfl) | ((with_reducible refine WE.ite_t ?_ ?_); exact rfl) | ((with_reducible refine WE.ite_f ?_ ?_); exact rfl)))
local macro_rules | `(tactic| fail) => `(tactic| with_reducible (first | refine Kn.it_l ?_ | refine Kn.it_s ?_ | refine Kn.str_s ?_ | refine Kn.sl_t ?_ | refine Kn.sl_l ?_ | refine Kn.kx_need ?_ | refine Kn.kx_of ?_ | refine Kn.kx_base ?_ | refine Kn.kx_more ?_ | refine Kn.kx_most ?_ | refine Kn.kx_calm ?_ | refine Kn.kx_back ?_ | refine Kn.kx_under ?_ | refine Kn.kx_top ?_ | refine Kn.kx_up ?_ | refine Kn.kx_hears ?_ | refine Fld.need ?_ | refine Fld.of ?_ | refine Fld.base ?_ | refine Fld.more ?_ | refine Fld.most ?_ | refine Fld.calm ?_ | refine Fld.back ?_ | refine Fld.top ?_ | refine Fld.under ?_ | refine Fld.up ?_ | refine Fld.hears ?_ | refine Fld.cap ?_ | refine Mth.time ?_))
local macro_rules | `(tactic| fail) => `(tactic| with_reducible (first | refine WE.tupL ?_ | refine WE.dicP ?_ | refine WP.nil ?_ | refine WP.cons ?_ | refine WE.upd ?_ | refine WA.nil ?_ | refine WA.cons ?_ | refine WA.star ?_ | refine WO.no ?_ | refine WO.yes ?_ | refine WT.val ?_ | refine WT.and ?_ | refine WT.or ?_ | refine WT.not ?_ | refine WT.tt ?_ | refine WI.it ?_ | refine Kn.add_i ?_ | refine Kn.sub ?_ | refine Kn.neg ?_ | refine Kn.eq_i ?_ | refine Kn.ne_i ?_ | refine Kn.lt ?_ | refine Kn.le ?_ | refine Kn.gt ?_ | refine Kn.ge ?_ | refine Kn.int_i ?_ | refine Kn.int_b ?_ | refine Kn.abs ?_ | refine Kn.min2 ?_ | refine Kn.max2 ?_ | refine Kn.len_t ?_ | refine Kn.len_l ?_ | refine Kn.len_s ?_ | refine Kn.tup_t ?_ | refine Kn.tup_l ?_ | refine Kn.lis_t ?_ | refine Kn.lis_l ?_ | refine Kn.seq_t ?_ | refine Kn.seq_l ?_ | refine Kn.it_t ?_))
local macro_rules | `(tactic| fail) => `(tactic| with_reducible (first | refine WS.seq ?_ | refine WS.nx ?_ | refine WS.rt ?_ | refine WS.asg ?_ | refine WS.drop ?_ | refine WS.ret ?_ | refine WS.nop ?_ | refine WS.retN ?_ | refine WS.brk ?_ | refine WS.cont ?_ | refine WS.sif ?_ | refine WS.par ?_ | refine WG.setA ?_ | refine WE.c ?_ | refine WE.op ?_ | refine WE.call ?_ | refine WE.callM ?_ | refine WE.un ?_ | refine WE.tup ?_ | refine WE.lst ?_ | refine WE.newL ?_ | refine WE.eif ?_ | refine WE.sl ?_ | refine WE.isN ?_ | refine WE.notN ?_ | refine WE.not ?_ | refine WE.and ?_ | refine WE.or ?_ | refine WE.app ?_ | refine WE.tupR ?_ | refine WE.lisR ?_ | refine WE.m1 ?_ | refine WE.tbl ?_ | refine WE.tblNin ?_ | refine WE.chain ?_ | refine WE.fldF ?_ | refine WE.mth ?_ | refine WE.disp ?_ | refine WE.dicC ?_ | refine WE.tupA ?_))
local macro_rules | `(tactic| trivial) => `(tactic| (repeat fail))
theorem rule_text_ok (h : r.Tn) : F__law_rule_text [.dic rK r.kv] = some (.str r.txt) := by
  refine WS.runP (n := 2) (b := f__law_rule_text) ?_ rfl
  show WS _ [some (.dic rK r.kv), none] [] _
  trivial
  refine Kn.mk (w_str_i h.need.1 h.need.2) ?_
  trivial
  refine Kn.mk (w_str_i h.of.1 h.of.2) ?_
  trivial
  refine Kn.mk (w_str_i h.base.1 h.base.2) ?_
  trivial
  refine Kn.mk (w_str_i h.more.1 h.more.2) ?_
  trivial
  refine Kn.mk (w_str_i h.most.1 h.most.2) ?_
  trivial
  refine Kn.mk (w_str_i h.calm.1 h.calm.2) ?_
  trivial
  refine Kn.add_l lsl lsl (wsz (by show 14 ≤ 1000; decide)) ?_
  trivial
  refine Kn.mk (w_str_i h.top.1 h.top.2) ?_
  trivial
  refine Kn.add_s (sl1 h) ?_
  trivial
  refine Kn.mk (w_str_i h.under.1 h.under.2) ?_
  refine Kn.add_s (sl2 h) ?_
  trivial
  have fin : ∀ (x : Str), x = upS r.up → WE (if r.up = true then eC (.str "up") else eC (.str "down")) [some (.dic rK r.kv), some (.lst (([.str "leave", .str (nS r.need), .str "of", .str (nS r.of), .str "out", .str (nS r.base), .str "more", .str (nS r.more)] : List D) ++ [.str "most", .str (nS r.most), .str "calm", .str (nS r.calm), .str "back", .str r.back.s]))] [] (fun d m' => d = .str x ∧ m' = []) := fun x hx => by
    subst hx
    cases hu : r.up
    · trivial
      exact ⟨rfl, rfl⟩
    · trivial
      exact ⟨rfl, rfl⟩
  obtain ⟨dd, mm, e1, rfl, rfl⟩ := fin _ rfl
  refine ⟨_, _, e1, ?_⟩
  trivial
  refine Kn.add_l lsl lsl (wsz (by show 17 ≤ 1000; decide)) ?_
  trivial
  refine Kn.add_l lsl lsl (wsz (by show 19 ≤ 1000; decide)) ?_
  refine Kn.join (ws := r.words) rfl (words_join h) ?_
  trivial
  exact frz_p rfl
theorem rule_of_ok (h : r.Tn) (hv : r.Va) : F__law_rule_of [.dic rK r.kv] = some r.d := by
  refine WS.runP (n := 1) (b := f__law_rule_of) ?_ rfl
  show WS _ [some (.dic rK r.kv)] [] _
  trivial
  refine Kn.call pure1k (rule_text_ok h) ?_
  trivial
  refine Kn.call pure1s (read_ok h hv) ?_
  trivial
  exact frz_p ru_pure
theorem rule_of_b (hd : m[d]? = some (.dic rK r.kv)) (hi : noIns m = true) (h : r.Tn) (hv : r.Va) (q : Q r.d) : Kn (callK F__law_rule_of m [.ref d]) Q := Kn.callK pure_ref hi (frz_rule hd) (rule_of_ok h hv) noLd_ru q
end
end L4
namespace L4
open PySem
section
variable {m : M} {r : Ru} {Q : D → Prop}
/-- what is drawn for steps -/
structure Ru.B9 (r : Ru) : Prop where
  b1 : 1 ≤ r.base
  b2 : r.base ≤ r.most
  b3 : r.most ≤ 90
  m1 : 0 ≤ r.more
  m2 : r.more ≤ 9
  cap : r.cap = capOf r.base r.more r.most
theorem capB_pos (h : r.B9) : 1 ≤ r.cap ∧ r.cap ≤ 100 := by
  obtain ⟨b1, b2, b3, m1, m2, hc⟩ := h
  rw [hc]
  unfold capOf
  have hm : r.more = 0 ∨ r.more = 1 ∨ r.more = 2 ∨ r.more = 3 ∨ r.more = 4 ∨ r.more = 5 ∨ r.more = 6 ∨ r.more = 7 ∨ r.more = 8 ∨ r.more = 9 := by omega
  rcases hm with e | e | e | e | e | e | e | e | e | e <;> rw [e]
  · rw [if_pos (by decide)]; omega
  · rw [if_neg (show ¬ ((1 : Int) == 0) = true by decide)]
    omega
  · rw [if_neg (show ¬ ((2 : Int) == 0) = true by decide)]
    omega
  · rw [if_neg (show ¬ ((3 : Int) == 0) = true by decide)]
    omega
  · rw [if_neg (show ¬ ((4 : Int) == 0) = true by decide)]
    omega
  · rw [if_neg (show ¬ ((5 : Int) == 0) = true by decide)]
    omega
  · rw [if_neg (show ¬ ((6 : Int) == 0) = true by decide)]
    omega
  · rw [if_neg (show ¬ ((7 : Int) == 0) = true by decide)]
    omega
  · rw [if_neg (show ¬ ((8 : Int) == 0) = true by decide)]
    omega
  · rw [if_neg (show ¬ ((9 : Int) == 0) = true by decide)]
    omega
end
end L4
namespace L4
open PySem
section
variable {m : M} {r : Ru} {Q : D → Prop}
theorem Ru.Wd.b9 {s l c : Int} (h : r.Wd s l c) (hl : l ≤ 90) : r.B9 := ⟨h.b1, h.b2, by have := h.b3; omega, h.m1, h.m2, h.cap⟩
local macro_rules | `(tactic| fail) => `(tactic| (first | ((with_reducible refine w_and_t ?_ ?_); exact rfl) | ((with_reducible refine w_and_f ?_ ?_); exact rfl) | ((with_reducible refine w_or_t ?_ ?_); exact rfl) | ((with_reducible refine w_or_f ?_ ?_); exact rfl) | ((with_reducible refine Kn.fdiv ?_ ?_); exact ⟨by decide, by decide⟩) | ((with_reducible refine Kn.mod ?_ ?_); decide) | ((with_reducible refine And.intro (a := (_ && _) = true) ?_ ?_); exact rfl) | ((with_reducible refine And.intro (a := List.length _ = List.length _) ?_ ?_); exact rfl; dsimp only [setMany, List.set_cons_succ, List.set_cons_zero]) | ((with_reducible refine ⟨wsz ?_, ?_⟩); first | decide | (show (_ : Nat) ≤ 1000; simp only [List.length_cons, List.length_nil]; decide)) | with_reducible refine ⟨_, rfl, ?_⟩))
local macro_rules | `(tactic| fail) => `(tactic| (first | ((with_reducible refine WG.nm ?_); dsimp only [setMany, List.set_cons_succ, List.set_cons_zero]) | ((with_reducible refine WG.one ?_); dsimp only [setMany, List.set_cons_succ, List.set_cons_zero]) | ((with_reducible refine WG.tup ?_ ?_); exact rfl; dsimp only [setMany, List.set_cons_succ, List.set_cons_zero]) | ((with_reducible apply WE.var); exact rfl) | ((with_reducible apply WE.upP); exact rfl) | ((with_reducible apply WE.upT); exact rfl) | ((with_reducible apply WE.upL); exact rfl) | ((with_reducible apply WE.upN); exact rfl) | ((with_reducible apply WS.aug); exact rfl) | ((with_reducible apply WE.newPL); exact rfl) | ((with_reducible refine WS.ite_t ?_ ?_); exact rfl) | ((with_reducible refine WS.ite_f ?_ ?_); exact rfl) | ((with_reducible refine WE.ite_t ?_ ?_); exact rfl) | ((with_reducible refine WE.ite_f ?_ ?_); exact rfl)))
local macro_rules | `(tactic| fail) => `(tactic| with_reducible (first | refine Kn.it_l ?_ | refine Kn.it_s ?_ | refine Kn.str_s ?_ | refine Kn.sl_t ?_ | refine Kn.sl_l ?_ | refine Kn.kx_need ?_ | refine Kn.kx_of ?_ | refine Kn.kx_base ?_ | refine Kn.kx_more ?_ | refine Kn.kx_most ?_ | refine Kn.kx_calm ?_ | refine Kn.kx_back ?_ | refine Kn.kx_under ?_ | refine Kn.kx_top ?_ | refine Kn.kx_up ?_ | refine Kn.kx_hears ?_ | refine Fld.need ?_ | refine Fld.of ?_ | refine Fld.base ?_ | refine Fld.more ?_ | refine Fld.most ?_ | refine Fld.calm ?_ | refine Fld.back ?_ | refine Fld.top ?_ | refine Fld.under ?_ | refine Fld.up ?_ | refine Fld.hears ?_ | refine Fld.cap ?_ | refine Mth.time ?_))
local macro_rules | `(tactic| fail) => `(tactic| with_reducible (first | refine WE.tupL ?_ | refine WE.dicP ?_ | refine WP.nil ?_ | refine WP.cons ?_ | refine WE.upd ?_ | refine WA.nil ?_ | refine WA.cons ?_ | refine WA.star ?_ | refine WO.no ?_ | refine WO.yes ?_ | refine WT.val ?_ | refine WT.and ?_ | refine WT.or ?_ | refine WT.not ?_ | refine WT.tt ?_ | refine WI.it ?_ | refine Kn.add_i ?_ | refine Kn.sub ?_ | refine Kn.neg ?_ | refine Kn.eq_i ?_ | refine Kn.ne_i ?_ | refine Kn.lt ?_ | refine Kn.le ?_ | refine Kn.gt ?_ | refine Kn.ge ?_ | refine Kn.int_i ?_ | refine Kn.int_b ?_ | refine Kn.abs ?_ | refine Kn.min2 ?_ | refine Kn.max2 ?_ | refine Kn.len_t ?_ | refine Kn.len_l ?_ | refine Kn.len_s ?_ | refine Kn.tup_t ?_ | refine Kn.tup_l ?_ | refine Kn.lis_t ?_ | refine Kn.lis_l ?_ | refine Kn.seq_t ?_ | refine Kn.seq_l ?_ | refine Kn.it_t ?_))
local macro_rules | `(tactic| fail) => `(tactic| with_reducible (first | refine WS.seq ?_ | refine WS.nx ?_ | refine WS.rt ?_ | refine WS.asg ?_ | refine WS.drop ?_ | refine WS.ret ?_ | refine WS.nop ?_ | refine WS.retN ?_ | refine WS.brk ?_ | refine WS.cont ?_ | refine WS.sif ?_ | refine WS.par ?_ | refine WG.setA ?_ | refine WE.c ?_ | refine WE.op ?_ | refine WE.call ?_ | refine WE.callM ?_ | refine WE.un ?_ | refine WE.tup ?_ | refine WE.lst ?_ | refine WE.newL ?_ | refine WE.eif ?_ | refine WE.sl ?_ | refine WE.isN ?_ | refine WE.notN ?_ | refine WE.not ?_ | refine WE.and ?_ | refine WE.or ?_ | refine WE.app ?_ | refine WE.tupR ?_ | refine WE.lisR ?_ | refine WE.m1 ?_ | refine WE.tbl ?_ | refine WE.tblNin ?_ | refine WE.chain ?_ | refine WE.fldF ?_ | refine WE.mth ?_ | refine WE.disp ?_ | refine WE.dicC ?_ | refine WE.tupA ?_))
local macro_rules | `(tactic| trivial) => `(tactic| (repeat fail))
end
end L4
namespace L4
open PySem
section
variable {m : M} {r : Ru} {Q : D → Prop}
theorem Fld.need (q : Q (.int r.need)) : Fld m r.d ["Rule"] "need" Q := ⟨_, _, _, _, ru_ins, ru_c1, ru_need, q⟩
theorem Fld.of (q : Q (.int r.of)) : Fld m r.d ["Rule"] "of" Q := ⟨_, _, _, _, ru_ins, ru_c1, ru_of, q⟩
theorem Fld.base (q : Q (.int r.base)) : Fld m r.d ["Rule"] "base" Q := ⟨_, _, _, _, ru_ins, ru_c1, ru_base, q⟩
theorem Fld.more (q : Q (.int r.more)) : Fld m r.d ["Rule"] "more" Q := ⟨_, _, _, _, ru_ins, ru_c1, ru_more, q⟩
theorem Fld.most (q : Q (.int r.most)) : Fld m r.d ["Rule"] "most" Q := ⟨_, _, _, _, ru_ins, ru_c1, ru_most, q⟩
theorem Fld.calm (q : Q (.int r.calm)) : Fld m r.d ["Rule"] "calm" Q := ⟨_, _, _, _, ru_ins, ru_c1, ru_calm, q⟩
theorem Fld.back (q : Q (.str r.back.s)) : Fld m r.d ["Rule"] "back" Q := ⟨_, _, _, _, ru_ins, ru_c1, ru_back, q⟩
theorem Fld.top (q : Q (.int r.top)) : Fld m r.d ["Rule"] "top" Q := ⟨_, _, _, _, ru_ins, ru_c1, ru_top, q⟩
theorem Fld.under (q : Q (.int r.under)) : Fld m r.d ["Rule"] "under" Q := ⟨_, _, _, _, ru_ins, ru_c1, ru_under, q⟩
theorem Fld.up (q : Q (.bl r.up)) : Fld m r.d ["Rule"] "up" Q := ⟨_, _, _, _, ru_ins, ru_c1, ru_up, q⟩
theorem Fld.hears (q : Q (.str r.hears.s)) : Fld m r.d ["Rule"] "hears" Q := ⟨_, _, _, _, ru_ins, ru_c1, ru_hears, q⟩
theorem Fld.cap (q : Q (.int r.cap)) : Fld m r.d ["Rule"] "cap" Q := ⟨_, _, _, _, ru_ins, ru_c1, ru_cap, q⟩
theorem Mth.time {P : List Str → List D → Prop} (q : P ruNames r.vals) : ∃ ns vs, insOf m r.d = some (("Rule" : Str), ns, vs) ∧ ns.contains "time" = false ∧ P ns vs := ⟨_, _, ru_ins, ru_ntime, q⟩
end
end L4
namespace L4
open PySem
structure Ca where
  st : List Sd
  la : List Str
  fe : List Int
  mi : List Int
structure Wo where
  cs : List Ca
  lo : List (Nat × Nat)
inductive Ev where
  | turn (c s : Nat) (f : Bool)
  | told (c d s : Nat)
inductive Go where | all | kept | swap
deriving DecidableEq
def Go.s : Go → Str
  | .all => "all"
  | .kept => "kept"
  | .swap => "swap"
def Ev.c : Ev → Nat
  | .turn c _ _ => c
  | .told c _ _ => c
def Ev.s : Ev → Nat
  | .turn _ s _ => s
  | .told _ _ s => s
def Ev.d : Ev → D
  | .turn c s f => .tup [.str "turn", .int (c : Nat), .int (s : Nat), .bl f]
  | .told c d s => .tup [.str "told", .int (c : Nat), .int (d : Nat), .int (s : Nat)]
def Sd.isIn : Sd → Bool
  | .inn _ _ _ => true
  | _ => false
def Sd.isOut : Sd → Bool
  | .out _ _ => true
  | _ => false
def Ca.outs (c : Ca) : Nat := (c.st.filter fun s => !s.isIn).length
def caN : Ca := ⟨[], [], [], []⟩
def Wo.at_ (w : Wo) (i : Nat) : Ca := w.cs.getD i caN
section
variable (r : Ru) (most : Int) (w : Wo)
/-- the standing behind an event, what a turn was, whether the server is kept -/
def Ru.hap : Ev → Sd × Option Wh × Bool
  | .turn c s f => let x := r.afterTurn ((w.at_ c).st.getD s begun) f (decide (((w.at_ c).outs : Int) < most)); (x.1, some x.2.1, x.2.2)
  | .told c _ s => let x := r.afterWord ((w.at_ c).st.getD s begun) (decide (((w.at_ c).outs : Int) < most)); (x.1, none, x.2)
def Ca.put (c : Ca) (s : Nat) (x : Sd) : Option Wh → Ca
  | some v => ⟨c.st.set s x, c.la.set s v.s, c.fe.set s (c.fe.getD s 0 + if v = .felt then 1 else 0), c.mi.set s (c.mi.getD s 0 + if v = .missed then 1 else 0)⟩
  | none => ⟨c.st.set s x, c.la, c.fe, c.mi⟩
def addLo (lo : List (Nat × Nat)) (k : Nat × Nat) : List (Nat × Nat) := if k ∈ lo then lo else lo ++ [k]
def Ru.nxt (e : Ev) : Wo := ⟨w.cs.set e.c ((w.at_ e.c).put e.s (r.hap most w e).1 (r.hap most w e).2.1), if (r.hap most w e).1.isOut then addLo w.lo (e.c, e.s) else w.lo⟩
/-- other servers that are out or on trial -/
def spots (s : Nat) : Nat → List Sd → List Nat
  | _, [] => []
  | i, x :: xs => (bif !x.isIn && !(i == s) then [i] else []) ++ spots s (i + 1) xs
def Ca.better (c : Ca) (s : Nat) : Bool := (spots s 0 c.st).any fun i => decide (c.la.getD i Str.empty = "missed")
def Ca.goals (c : Ca) (s : Nat) (kept : Bool) : List Go := (bif c.st.all Sd.isOut then [.all] else []) ++ (bif kept then .kept :: (bif c.better s then [.swap] else []) else [])
def Ru.goals (e : Ev) : List Go := ((w.at_ e.c).put e.s (r.hap most w e).1 (r.hap most w e).2.1).goals e.s (r.hap most w e).2.2
def Wo.can : Ev → Prop
  | .turn _ _ _ => True
  | .told _ d s => (d, s) ∈ w.lo
end
instance (w : Wo) (e : Ev) : Decidable (w.can e) := by cases e <;> unfold Wo.can <;> infer_instance
/-- a row of events -/
def Ru.go (r : Ru) (most : Int) : Nat → Wo → List Ev → Wo × List (Nat × Go)
  | _, w, [] => (w, [])
  | i, w, e :: es => ((r.go most (i + 1) (r.nxt most w e) es).1, (r.goals most w e).map (fun g => (i, g)) ++ (r.go most (i + 1) (r.nxt most w e) es).2)
def Ru.poss (r : Ru) (most : Int) : Wo → List Ev → Prop
  | _, [] => True
  | w, e :: es => w.can e ∧ r.poss most (r.nxt most w e) es
def Ev.In (nc ns : Nat) : Ev → Prop
  | .turn c s _ => c < nc ∧ s < ns
  | .told c d s => c < nc ∧ d < nc ∧ s < ns ∧ c ≠ d
structure Ca.Ok (r : Ru) (ns : Nat) (c : Ca) : Prop where
  st : c.st.length = ns
  la : c.la.length = ns
  fe : c.fe.length = ns
  mi : c.mi.length = ns
  sn : ∀ s ∈ c.st, s.In r
  lz : ∀ z ∈ c.la, PyData.strOk z = true
structure Wo.Ok (r : Ru) (nc ns : Nat) (w : Wo) : Prop where
  cs : w.cs.length = nc
  ca : ∀ c ∈ w.cs, c.Ok r ns
  lo : w.lo.Nodup
  lb : ∀ k ∈ w.lo, k.1 < nc ∧ k.2 < ns
def ca0 (ns : Nat) : Ca := ⟨List.replicate ns begun, List.replicate ns ("" : Str), List.replicate ns 0, List.replicate ns 0⟩
def wo0 (nc ns : Nat) : Wo := ⟨List.replicate nc (ca0 ns), []⟩
section
variable {r : Ru} {most : Int} {w : Wo} {nc ns : Nat} {e : Ev}
theorem wh_strOk (v : Wh) : PyData.strOk v.s = true := by cases v <;> decide +kernel
theorem Ev.In.c (h : e.In nc ns) : e.c < nc := by cases e <;> exact h.1
theorem Ev.In.s (h : e.In nc ns) : e.s < ns := by
  cases e with
  | turn => exact h.2
  | told => exact h.2.2.1
theorem wo0_ok (h : r.Ok) : (wo0 nc ns).Ok r nc ns := ⟨List.length_replicate .., fun c hc => by
  rw [List.eq_of_mem_replicate hc]
  exact ⟨List.length_replicate .., List.length_replicate .., List.length_replicate .., List.length_replicate .., fun s hs => by rw [List.eq_of_mem_replicate hs]; exact begun_in h, fun z hz => by rw [List.eq_of_mem_replicate hz]; decide +kernel⟩, List.nodup_nil, fun k hk => nomatch hk⟩
theorem Wo.Ok.get (h : w.Ok r nc ns) {i : Nat} (hi : i < nc) : w.cs[i]? = some (w.at_ i) := by
  have := h.cs
  unfold Wo.at_
  rw [List.getD_eq_getElem?_getD, List.getElem?_eq_getElem (by omega)]
  rfl
theorem Wo.Ok.at_ (h : w.Ok r nc ns) {i : Nat} (hi : i < nc) : (w.at_ i).Ok r ns := h.ca _ (List.mem_of_getElem? (h.get hi))
theorem getD_in {l : List Sd} {s : Nat} (hs : s < l.length) : l.getD s begun ∈ l := by
  rw [List.getD_eq_getElem?_getD, List.getElem?_eq_getElem hs]
  exact List.getElem_mem hs
theorem turn_in (h : r.Ok) {s : Sd} (q : s.In r) (f b : Bool) : (r.afterTurn s f b).1.In r := by
  cases s with
  | inn w t c =>
    unfold Ru.afterTurn
    dsimp only
    split
    · exact fault_in h q
    · exact okk_in h q
  | out l t =>
    obtain ⟨q1, q2, q3, q4⟩ := q
    unfold Ru.afterTurn
    dsimp only
    split
    · exact back_in h q3 q4
    · next hl =>
      have : l ≠ 1 := by simpa using hl
      exact ⟨by omega, by omega, q3, q4⟩
  | trial t =>
    obtain ⟨q1, q2⟩ := q
    have := h.c0; have := h.n1; have := h.n2
    unfold Ru.afterTurn
    dsimp only
    split
    · exact left_in h (by omega)
    · refine ⟨?_, by omega, q2, by omega, by omega⟩
      show (0 : Int) ≤ r.of
      omega
theorem word_in (h : r.Ok) {s : Sd} (q : s.In r) (b : Bool) : (r.afterWord s b).1.In r := by
  cases s with
  | inn w t c =>
    show (if (r.hears matches .no) = true then ((.inn w t c : Sd), false) else if (r.hears matches .out) = true then r.atTry (.inn w t c) t b else r.afterFault w t b).1.In r
    by_cases h1 : (r.hears matches .no) = true
    · rw [if_pos h1]; exact q
    · rw [if_neg h1]
      by_cases h2 : (r.hears matches .out) = true
      · rw [if_pos h2]; exact try_in h q
      · rw [if_neg h2]; exact fault_in h q
  | out l t => exact q
  | trial t => exact q
theorem hap_in (h : r.Ok) (W : w.Ok r nc ns) (he : e.In nc ns) : (r.hap most w e).1.In r := by
  have hs := he.s
  have hc := W.at_ he.c
  cases e with
  | turn c s f => exact turn_in h (hc.sn _ (getD_in (by rw [hc.st]; exact hs))) _ _
  | told c d s => exact word_in h (hc.sn _ (getD_in (by rw [hc.st]; exact hs))) _
theorem put_ok {c : Ca} (C : c.Ok r ns) {s : Nat} {x : Sd} (hx : x.In r) (v : Option Wh) : (c.put s x v).Ok r ns := by
  have hm : ∀ t ∈ c.st.set s x, t.In r := fun t ht => (List.mem_or_eq_of_mem_set ht).elim (C.sn t) fun e => e ▸ hx
  cases v with
  | none => exact ⟨by simp [Ca.put, C.st], C.la, C.fe, C.mi, hm, C.lz⟩
  | some v => exact ⟨by simp [Ca.put, C.st], by simp [Ca.put, C.la], by simp [Ca.put, C.fe], by simp [Ca.put, C.mi], hm, fun z hz => (List.mem_or_eq_of_mem_set hz).elim (C.lz z) fun e => e ▸ wh_strOk v⟩
theorem addLo_nd {lo : List (Nat × Nat)} {k : Nat × Nat} (h : lo.Nodup) : (addLo lo k).Nodup := by
  unfold addLo
  split
  · exact h
  · next hk => exact List.nodup_append.mpr ⟨h, by simp, fun a ha b hb => by rw [List.mem_singleton.mp hb]; rintro rfl; exact hk ha⟩
theorem addLo_mem {lo : List (Nat × Nat)} {k x : Nat × Nat} (h : x ∈ addLo lo k) : x ∈ lo ∨ x = k := by
  unfold addLo at h
  split at h
  · exact .inl h
  · exact (List.mem_append.mp h).imp id fun z => List.mem_singleton.mp z
theorem nxt_ok (h : r.Ok) (W : w.Ok r nc ns) (he : e.In nc ns) : (r.nxt most w e).Ok r nc ns := by
  refine ⟨by simp [Ru.nxt, W.cs], fun c hc => ?_, ?_, fun k hk => ?_⟩
  · rcases List.mem_or_eq_of_mem_set (show c ∈ w.cs.set e.c _ from hc) with hc | rfl
    · exact W.ca c hc
    · exact put_ok (W.at_ he.c) (hap_in h W he) _
  · show (if _ then addLo w.lo _ else w.lo).Nodup
    split
    · exact addLo_nd W.lo
    · exact W.lo
  · change k ∈ (if _ then addLo w.lo _ else w.lo) at hk
    split at hk
    · rcases addLo_mem hk with hk | rfl
      · exact W.lb k hk
      · exact ⟨he.c, he.s⟩
    · exact W.lb k hk
end
end L4
namespace L4
open PySem
section
variable {r : Ru} {most : Int} {w w' : Wo} {nc ns s : Nat} {e : Ev}
theorem getD_setX {α : Type} {l : List α} {i j : Nat} {x d : α} (hi : i < l.length) : (l.set i x).getD j d = if i = j then x else l.getD j d := by
  rw [List.getD_eq_getElem?_getD, List.getD_eq_getElem?_getD, List.getElem?_set]
  by_cases h : i = j
  · subst h; rw [if_pos rfl, if_pos hi, if_pos rfl]; rfl
  · rw [if_neg h, if_neg h]
theorem nxt_at (W : w.Ok r nc ns) (he : e.In nc ns) (c : Nat) : (r.nxt most w e).at_ c = if e.c = c then (w.at_ e.c).put e.s (r.hap most w e).1 (r.hap most w e).2.1 else w.at_ c := by
  have := he.c
  have := W.cs
  unfold Wo.at_ Ru.nxt
  exact getD_setX (by omega)
theorem mem_addLo {lo : List (Nat × Nat)} {k x : Nat × Nat} : x ∈ addLo lo k ↔ x ∈ lo ∨ x = k := by
  refine ⟨addLo_mem, fun h => ?_⟩
  unfold addLo
  split
  · next hk => rcases h with h | rfl
               · exact h
               · exact hk
  · rcases h with h | rfl
    · exact List.mem_append_left _ h
    · simp
theorem nxt_lo (x : Nat × Nat) : x ∈ (r.nxt most w e).lo ↔ x ∈ w.lo ∨ ((r.hap most w e).1.isOut = true ∧ x = (e.c, e.s)) := by
  unfold Ru.nxt
  dsimp only
  split
  · next h => rw [mem_addLo]; simp [h]
  · next h => simp [h]
theorem put_la_at {c : Ca} (C : c.Ok r ns) {i j : Nat} (hi : i < ns) (x : Sd) (v : Option Wh) : (c.put i x v).la.getD j Str.empty = if i = j then (match v with | some v => v.s | none => c.la.getD j Str.empty) else c.la.getD j Str.empty := by
  have h : i < c.la.length := by rw [C.la]; exact hi
  cases v with
  | none =>
    show c.la.getD j Str.empty = _
    split <;> rfl
  | some v => exact getD_setX h
end
end L4
namespace L4
open PySem
section
variable {m : M} {ρ : Ss}
theorem Kn.callKw {F : List D → Option D} {xs : List D} {Q : D → Prop} {d : D} (hp : pureL xs = true) (e : F xs = some d) (k : Q d) : Kn (L4.callK F m xs) Q := ⟨d, by
  unfold L4.callK
  rw [if_pos hp]
  exact e, k⟩
theorem insOf_ref {n : Nat} {c : Str} {ns : List Str} {vs : List D} (h : m[n]? = some (.ins c ns vs)) : insOf m (.ref n) = some (c, ns, vs) := by
  show (m[n]?).bind insO = _
  rw [h]
  rfl
theorem Fld.ref {n : Nat} {c f : Str} {cs ns : List Str} {vs : List D} {v : D} {Q : D → Prop} (h : m[n]? = some (.ins c ns vs)) (hc : cs.contains c = true) (hv : fldAt ns vs f = some v) (q : Q v) : Fld m (.ref n) cs f Q := ⟨c, ns, vs, v, insOf_ref h, hc, hv, q⟩
theorem WE.mthM {c nm : Str} {F : List D → M → Option (D × M)} {o : EF} {a : AF} {Q : D → M → Prop} (h : WE o ρ m fun x m1 => ∃ ns vs, insOf m1 x = some (c, ns, vs) ∧ ns.contains nm = false ∧ WA a ρ m1 fun xs m2 => Wr (F (x :: xs) m2) Q) : WE (eMthM c nm F o a) ρ m Q := by
  obtain ⟨x, m1, e, ns, vs, h1, h2, xs, m2, e2, d, m3, e3, q⟩ := h
  refine ⟨d, m3, ?_, q⟩
  unfold eMthM
  rw [e]
  show (match insOf m1 x with
    | some (c', ns, _) => if c' = c ∧ ns.contains nm = false then bd (a ρ m1) fun xs m2 => F (x :: xs) m2 else none
    | none => none) = _
  rw [h1]
  show (if c = c ∧ ns.contains nm = false then bd (a ρ m1) fun xs m2 => F (x :: xs) m2 else none) = _
  rw [if_pos ⟨rfl, h2⟩, e2]
  exact e3
theorem WE.newM {c : Str} {F : List D → M → Option (D × M)} {a : AF} {Q : D → M → Prop} (h : WA a ρ m fun xs m1 => Wr (F (.ref m1.length :: xs) (m1 ++ [.ins c [] []])) fun d m2 => d = .non ∧ Q (.ref m1.length) m2) : WE (eNewM c F a) ρ m Q := by
  obtain ⟨xs, m1, e, d, m2, e2, rfl, q⟩ := h
  refine ⟨_, m2, ?_, q⟩
  unfold eNewM
  rw [e, bd_go, e2]
theorem WE.ext {o e : EF} {Q : D → M → Prop} (h : WE o ρ m fun x m1 => ∃ n, x = .ref n ∧ (∃ ds0, m1[n]? = some (.lst ds0)) ∧ WE e ρ m1 fun y m2 => ∃ ds es, m2[n]? = some (.lst ds) ∧ lstOf m2 y = some es ∧ ds.length + es.length ≤ sizeLine ∧ Q .non (m2.set n (.lst (ds ++ es)))) : WE (eLm0 extL o (aCons e aNil)) ρ m Q := by
  obtain ⟨x, m1, e1, n, rfl, ⟨ds0, h0⟩, y, m2, e2, ds, es, h1, h2, h3, q⟩ := h
  refine ⟨.non, _, ?_, q⟩
  have ea : aCons e aNil ρ m1 = some ([y], m2) := by unfold aCons; rw [e2]; rfl
  unfold eLm0
  rw [e1]
  simp only [bd_go, h0, ea, h1, extL, h2, if_pos h3, Option.map_some]
theorem WE.repNew {a n : EF} {Q : D → M → Prop} (h : WE a ρ m fun x m1 => WE n ρ m1 fun y m2 => ∃ (l : List D) (k : Int), x = .lst l ∧ y = .int k ∧ (l.length ≤ 1000 ∧ 0 ≤ k ∧ k ≤ 1000) ∧ Q (.ref m2.length) (m2 ++ [.lst (List.replicate k.toNat l).flatten])) : WE (eRepNew a n) ρ m Q := by
  obtain ⟨x, m1, e1, y, m2, e2, l, k, rfl, rfl, h, q⟩ := h
  refine ⟨_, _, ?_, q⟩
  unfold eRepNew
  rw [e1]
  simp only [bd_go, e2, if_pos h]
/-- [e for x in xs if c], xs a list in the heap, nothing drawn -/
theorem WE.lcR {a : EF} {t : Tgt} {c : TF} {e : EF} {α : Type} {enc : α → D} {xs : List α} {n : Nat} (b : α → Bool) (f : α → D) {Q : D → M → Prop} (h1 : WE a ρ m fun x m1 => x = .ref n ∧ m1 = m) (h2 : m[n]? = some (.lst (xs.map enc))) (hl : xs.length < 1000000)
    (h : ∀ x ∈ xs, ∃ ys, t.un (enc x) = some ys ∧ WT c (setMany ρ t.is ys) m (fun v m1 => v = b x ∧ m1 = m) ∧ (b x = true → WE e (setMany ρ t.is ys) m fun v m1 => v = f x ∧ m1 = m)) (q : Q (.lst ((xs.filter b).map f)) m) : WE (eLcV false (lIt a) t c e) ρ m Q := by
  obtain ⟨x, m1, e1, rfl, rfl⟩ := h1
  refine WE.lcT (fun _ => b) (fun _ => f) (lIt_R e1 h2) (tells_R h2) hl (fun i x hx => h x (List.mem_of_getElem? hx)) ?_
  have ep : ∀ (i : Nat) (l : List α), pickF (fun _ => b) (fun _ => f) i l = (l.filter b).map f := fun i l => by
    induction l generalizing i with
    | nil => rfl
    | cons x l ih =>
      rw [pickF, ih]
      cases hb : b x <;> simp [hb]
  rw [ep]
  exact q
end
end L4
namespace L4
open PySem
inductive Gl where | all | kept | swap
def Gl.s : Gl → Str
  | .all => "all"
  | .kept => "kept"
  | .swap => "swap"
def limN (t u : Nat) (up : Bool) (n : Nat) : Nat := (n * t + (if up then u - 1 else 0)) / u
def duP (g : Gl) (ls : Bool) (t u : Nat) (up : Bool) (n : Nat) : Bool := match g with
  | .all => Nat.ble n (limN t u up n)
  | .kept => Nat.blt (limN t u up n) n
  | .swap => ls && (Nat.blt 0 (limN t u up n) && Nat.blt (limN t u up n) n)
def lstN (t u : Nat) (up : Bool) : Nat := if up then (u + (u - t) - 1) / (u - t) else 1
def nuR (g : Gl) (ls : Bool) (t u : Nat) (up : Bool) : Option (Nat × Option Nat) := match g with
  | .all => if t = u then some (1, none) else if up = true ∧ 0 < t then some (1, some (lstN t u up - 1)) else none
  | .kept => if t = u then none else some (lstN t u up, none)
  | .swap => if t = u ∨ t = 0 ∨ ls = false then none else some (if up then lstN t u up else (u + t - 1) / t, none)
end L4
namespace L4
open PySem
section
variable {m : M} {r : Ru} {Q : D → Prop}
def Bk.tr : Bk → Bool
  | .trial => true
  | _ => false
def Hr.isNo : Hr → Bool
  | .no => true
  | _ => false
def Gl.isAll : Gl → Bool
  | .all => true
  | _ => false
def Gl.isKept : Gl → Bool
  | .kept => true
  | _ => false
def Gl.isSwap : Gl → Bool
  | .swap => true
  | _ => false
def Ru.lasts (r : Ru) : Bool := r.back.tr || (decide (1 < r.time r.cap) || !r.hears.isNo)
theorem eq_tr (b : Bk) : eqD m (.str b.s) (.str "trial") = some (.bl b.tr) := by cases b <;> exact eqB (by kernel_rfl)
structure Sh (r : Ru) : Prop where
  t : ((r.top.toNat : Nat) : Int) = r.top
  u : ((r.under.toNat : Nat) : Int) = r.under
  tu : r.top.toNat ≤ r.under.toNat
  u1 : 1 ≤ r.under.toNat
  u2 : r.under.toNat ≤ 20
theorem Ru.Wd.sh {s l c : Int} (h : r.Wd s l c) : Sh r := by
  obtain ⟨a1, a2, a3, b1, b2, b3, m1, m2, c1, c2, t1, t2, u1, u2, _⟩ := h
  exact ⟨by omega, by omega, by omega, by omega, by omega⟩
theorem eq_goal (g : Gl) : eqD m (.str g.s) (.str "all") = some (.bl g.isAll) ∧ eqD m (.str g.s) (.str "kept") = some (.bl g.isKept) ∧ eqD m (.str g.s) (.str "swap") = some (.bl g.isSwap) := by
  cases g <;> exact ⟨eqB (by kernel_rfl), eqB (by kernel_rfl), eqB (by kernel_rfl)⟩
theorem ne_hears (b : Hr) : neD m (.str b.s) (.str "no") = some (.bl (!b.isNo)) := by cases b <;> exact eqB (by kernel_rfl)
theorem need_goal_ok (g : Gl) : F_need_goal [.str g.s] = some .non := by
  have key : ∀ g : Gl, some D.non = F_need_goal [.str g.s] := fun g => by cases g <;> kernel_rfl
  exact (key g).symm
theorem pure2ii {i j : Int} : pureL [.int i, .int j] = true := rfl
theorem pure1r : pureL [r.d] = true := rfl
theorem pure2ri {i : Int} : pureL [r.d, .int i] = true := rfl
theorem pure2rs {x : Str} : pureL [r.d, .str x] = true := rfl
theorem frz_i {i : Int} : frz m (.int i) = some (.int i) := frz_p rfl
theorem frz_b {i : Bool} : frz m (.bl i) = some (.bl i) := frz_p rfl
theorem ceil_nat {a b : Nat} (hb : 0 < b) : -(-((a : Nat) : Int) / ((b : Nat) : Int)) = (((a + b - 1) / b : Nat) : Int) := by
  have hb' : (0 : Int) < (b : Int) := by omega
  have h1 : -((a : Nat) : Int) / (b : Int) = -((((a + b - 1) / b : Nat)) : Int) := by
    have q := Nat.div_add_mod (a + b - 1) b
    have q2 := Nat.mod_lt (a + b - 1) hb
    generalize (a + b - 1) / b = c at *
    generalize (a + b - 1) % b = e at *
    have e1 : ((b : Int) * (c : Int)) + (e : Int) = (a : Int) + (b : Int) - 1 := by
      have : ((b * c + e : Nat) : Int) = ((a + b - 1 : Nat) : Int) := by rw [q]
      rw [Int.natCast_add, Int.natCast_mul] at this
      omega
    have e2 : -((a : Nat) : Int) = (b : Int) * (-(c : Int)) + ((b : Int) - 1 - (e : Int)) := by
      rw [Int.mul_neg]
      omega
    rw [e2, Int.mul_add_ediv_left _ _ (by omega), Int.ediv_eq_zero_of_lt (by omega) (by omega)]
    omega
  rw [h1]
  omega
def nuD : Option (Nat × Option Nat) → D
  | none => .non
  | some (a, none) => .tup [.int (a : Nat), .non]
  | some (a, some b) => .tup [.int (a : Nat), .int (b : Nat)]
theorem lstN_pos {t u : Nat} {up : Bool} (h : t < u) : 1 ≤ lstN t u up := by
  unfold lstN
  cases up
  · exact Nat.le_refl _
  · show 1 ≤ (u + (u - t) - 1) / (u - t)
    exact (Nat.le_div_iff_mul_le (by omega)).mpr (by omega)
theorem nr_all1 {ls up : Bool} {t u : Nat} (h : t = u) : nuR .all ls t u up = some (1, none) := if_pos h
theorem nr_all2 {ls : Bool} {t u : Nat} (h : t ≠ u) (h2 : 0 < t) : nuR .all ls t u true = some (1, some (lstN t u true - 1)) := (if_neg h).trans (if_pos ⟨rfl, h2⟩)
theorem nr_all3 {ls up : Bool} {t u : Nat} (h : t ≠ u) (h2 : ¬ (up = true ∧ 0 < t)) : nuR .all ls t u up = none := (if_neg h).trans (if_neg h2)
theorem nr_k1 {ls up : Bool} {t u : Nat} (h : t = u) : nuR .kept ls t u up = none := if_pos h
theorem nr_k2 {ls up : Bool} {t u : Nat} (h : t ≠ u) : nuR .kept ls t u up = some (lstN t u up, none) := if_neg h
theorem nr_s1 {ls up : Bool} {t u : Nat} (h : t = u ∨ t = 0 ∨ ls = false) : nuR .swap ls t u up = none := if_pos h
theorem nr_s2 {t u : Nat} (h : t ≠ u) (h2 : t ≠ 0) : nuR .swap true t u true = some (lstN t u true, none) := if_neg (by rintro (h | h | h); exact absurd h ‹_›; exact absurd h h2; cases h)
theorem nr_s3 {t u : Nat} (h : t ≠ u) (h2 : t ≠ 0) : nuR .swap true t u false = some ((u + t - 1) / t, none) := if_neg (by rintro (h | h | h); exact absurd h ‹_›; exact absurd h h2; cases h)
theorem isNon_nu (x : Option (Nat × Option Nat)) : (!isNon (nuD x)) = x.isSome := by rcases x with _ | ⟨a, _ | b⟩ <;> rfl
local macro_rules | `(tactic| fail) => `(tactic| (first | ((with_reducible refine w_and_t ?_ ?_); exact rfl) | ((with_reducible refine w_and_f ?_ ?_); exact rfl) | ((with_reducible refine w_or_t ?_ ?_); exact rfl) | ((with_reducible refine w_or_f ?_ ?_); exact rfl) | ((with_reducible refine Kn.fdiv ?_ ?_); exact ⟨by decide, by decide⟩) | ((with_reducible refine Kn.mod ?_ ?_); decide) | ((with_reducible refine And.intro (a := (_ && _) = true) ?_ ?_); exact rfl) | ((with_reducible refine And.intro (a := List.length _ = List.length _) ?_ ?_); exact rfl; dsimp only [setMany, List.set_cons_succ, List.set_cons_zero]) | ((with_reducible refine ⟨wsz ?_, ?_⟩); first | decide | (show (_ : Nat) ≤ 1000; simp only [List.length_cons, List.length_nil]; decide)) | with_reducible refine ⟨_, rfl, ?_⟩))
local macro_rules | `(tactic| fail) => `(tactic| (first | ((with_reducible refine WG.nm ?_); dsimp only [setMany, List.set_cons_succ, List.set_cons_zero]) | ((with_reducible refine WG.one ?_); dsimp only [setMany, List.set_cons_succ, List.set_cons_zero]) | ((with_reducible refine WG.tup ?_ ?_); exact rfl; dsimp only [setMany, List.set_cons_succ, List.set_cons_zero]) | ((with_reducible apply WE.var); exact rfl) | ((with_reducible apply WE.upP); exact rfl) | ((with_reducible apply WE.upT); exact rfl) | ((with_reducible apply WE.upL); exact rfl) | ((with_reducible apply WE.upN); exact rfl) | ((with_reducible apply WS.aug); exact rfl) | ((with_reducible apply WE.newPL); exact rfl) | ((with_reducible refine WS.ite_t ?_ ?_); exact rfl) | ((with_reducible refine WS.ite_f ?_ ?_); exact rfl) | ((with_reducible refine WE.ite_t ?_ ?_); exact rfl) | ((with_reducible refine WE.ite_f ?_ ?_); exact rfl)))
local macro_rules | `(tactic| fail) => `(tactic| with_reducible (first | refine Kn.it_l ?_ | refine Kn.it_s ?_ | refine Kn.str_s ?_ | refine Kn.sl_t ?_ | refine Kn.sl_l ?_ | refine Kn.kx_need ?_ | refine Kn.kx_of ?_ | refine Kn.kx_base ?_ | refine Kn.kx_more ?_ | refine Kn.kx_most ?_ | refine Kn.kx_calm ?_ | refine Kn.kx_back ?_ | refine Kn.kx_under ?_ | refine Kn.kx_top ?_ | refine Kn.kx_up ?_ | refine Kn.kx_hears ?_ | refine Fld.need ?_ | refine Fld.of ?_ | refine Fld.base ?_ | refine Fld.more ?_ | refine Fld.most ?_ | refine Fld.calm ?_ | refine Fld.back ?_ | refine Fld.top ?_ | refine Fld.under ?_ | refine Fld.up ?_ | refine Fld.hears ?_ | refine Fld.cap ?_ | refine Mth.time ?_))
local macro_rules | `(tactic| fail) => `(tactic| with_reducible (first | refine WE.tupL ?_ | refine WE.dicP ?_ | refine WP.nil ?_ | refine WP.cons ?_ | refine WE.upd ?_ | refine WA.nil ?_ | refine WA.cons ?_ | refine WA.star ?_ | refine WO.no ?_ | refine WO.yes ?_ | refine WT.val ?_ | refine WT.and ?_ | refine WT.or ?_ | refine WT.not ?_ | refine WT.tt ?_ | refine WI.it ?_ | refine Kn.add_i ?_ | refine Kn.sub ?_ | refine Kn.neg ?_ | refine Kn.eq_i ?_ | refine Kn.ne_i ?_ | refine Kn.lt ?_ | refine Kn.le ?_ | refine Kn.gt ?_ | refine Kn.ge ?_ | refine Kn.int_i ?_ | refine Kn.int_b ?_ | refine Kn.abs ?_ | refine Kn.min2 ?_ | refine Kn.max2 ?_ | refine Kn.len_t ?_ | refine Kn.len_l ?_ | refine Kn.len_s ?_ | refine Kn.tup_t ?_ | refine Kn.tup_l ?_ | refine Kn.lis_t ?_ | refine Kn.lis_l ?_ | refine Kn.seq_t ?_ | refine Kn.seq_l ?_ | refine Kn.it_t ?_))
local macro_rules | `(tactic| fail) => `(tactic| with_reducible (first | refine WS.seq ?_ | refine WS.nx ?_ | refine WS.rt ?_ | refine WS.asg ?_ | refine WS.drop ?_ | refine WS.ret ?_ | refine WS.nop ?_ | refine WS.retN ?_ | refine WS.brk ?_ | refine WS.cont ?_ | refine WS.sif ?_ | refine WS.par ?_ | refine WG.setA ?_ | refine WE.c ?_ | refine WE.op ?_ | refine WE.call ?_ | refine WE.callM ?_ | refine WE.un ?_ | refine WE.tup ?_ | refine WE.lst ?_ | refine WE.newL ?_ | refine WE.eif ?_ | refine WE.sl ?_ | refine WE.isN ?_ | refine WE.notN ?_ | refine WE.not ?_ | refine WE.and ?_ | refine WE.or ?_ | refine WE.app ?_ | refine WE.tupR ?_ | refine WE.lisR ?_ | refine WE.m1 ?_ | refine WE.tbl ?_ | refine WE.tblNin ?_ | refine WE.chain ?_ | refine WE.fldF ?_ | refine WE.mth ?_ | refine WE.disp ?_ | refine WE.dicC ?_ | refine WE.tupA ?_))
local macro_rules | `(tactic| trivial) => `(tactic| (repeat fail))
theorem up_to_ok {a b : Nat} (hb : 0 < b) (hb2 : b < 1000) : F_up_to [.int (a : Nat), .int (b : Nat)] = some (.int (((a + b - 1) / b : Nat) : Nat)) := by
  refine WS.runP (n := 2) (b := f_up_to) ?_ rfl
  show WS _ [some (.int (a : Nat)), some (.int (b : Nat))] [] _
  trivial
  refine Kn.fdiv ⟨by omega, by omega⟩ ?_
  trivial
  rw [ceil_nat hb]
  exact frz_i
theorem short_ok (h : Sh r) (hlt : r.top.toNat < r.under.toNat) : F_least_short [r.d] = some (.int (lstN r.top.toNat r.under.toNat r.up : Nat)) := by
  refine WS.runP (n := 1) (b := f_least_short) ?_ rfl
  show WS _ [some r.d] [] _
  have hu2 := h.u2
  unfold lstN
  trivial
  cases hu : r.up
  · trivial
    exact frz_i
  · trivial
    rw [← h.u, ← h.t]
    have e : ((r.under.toNat : Nat) : Int) - ((r.top.toNat : Nat) : Int) = ((r.under.toNat - r.top.toNat : Nat) : Int) := by omega
    rw [e]
    refine Kn.call pure2ii (up_to_ok (by omega) (by omega)) ?_
    trivial
    exact frz_i
theorem lasting_ok (h : r.Ok) : F_is_lasting [r.d] = some (.bl (r.back.tr || decide (1 < r.time r.cap))) := by
  refine WS.runP (n := 1) (b := f_is_lasting) ?_ rfl
  show WS _ [some r.d] [] _
  trivial
  refine Kn.mk (eq_tr r.back) ?_
  trivial
  refine ⟨fun hx => ?_, fun hx => ?_⟩
  · rw [hx]
    trivial
    refine Kn.call pure2ri (time_ok h r.cap) ?_
    trivial
    exact frz_b
  · rw [hx]
    trivial
    exact frz_b
theorem missable_ok (h : r.Ok) : F_is_missable [r.d] = some (.bl r.lasts) := by
  refine WS.runP (n := 1) (b := f_is_missable) ?_ rfl
  show WS _ [some r.d] [] _
  unfold Ru.lasts
  trivial
  refine Kn.call pure1r (lasting_ok h) ?_
  trivial
  rw [← Bool.or_assoc]
  refine ⟨fun hx => ?_, fun hx => ?_⟩
  · rw [hx]
    trivial
    refine Kn.mk (ne_hears r.hears) ?_
    trivial
    exact frz_b
  · rw [hx]
    trivial
    exact frz_b
theorem numbers_g (h : Sh r) (hok : r.Ok) (g : Gl) : F_numbers [r.d, .str g.s] = some (nuD (nuR g r.lasts r.top.toNat r.under.toNat r.up)) := by
  refine WS.runP (n := 4) (b := f_numbers) ?_ rfl
  show WS _ [some r.d, some (.str g.s), none, none] [] _
  have hu1 := h.u1
  have hu2 := h.u2
  have htu := h.tu
  have et : (r.top == r.under) = decide (r.top.toNat = r.under.toNat) := by
    have := h.t; have := h.u
    by_cases hh : r.top = r.under
    · rw [hh]; simp
    · have h2 : ¬ r.top.toNat = r.under.toNat := by omega
      simp [hh, h2]
  have e0 : (r.top == 0) = decide (r.top.toNat = 0) := by
    have := h.t
    by_cases hh : r.top = 0
    · rw [hh]; rfl
    · have h2 : ¬ r.top.toNat = 0 := by omega
      simp [hh, h2]
  have e1 : decide (0 < r.top) = decide (0 < r.top.toNat) := by
    have := h.t
    by_cases hh : 0 < r.top
    · have h2 : 0 < r.top.toNat := by omega
      simp [hh, h2]
    · have h2 : ¬ 0 < r.top.toNat := by omega
      simp only [hh, h2]
  have el : ∀ {a : Nat}, 1 ≤ a → ((a : Nat) : Int) - 1 = ((a - 1 : Nat) : Int) := fun {a} ha => by omega
  trivial
  refine Kn.call (pure1s) (need_goal_ok g) ?_
  trivial
  rw [et]
  refine Kn.mk (eq_goal g).1 ?_
  trivial
  cases hg : g
  · trivial
    cases hd : decide (r.top.toNat = r.under.toNat)
    · have hd := of_decide_eq_false hd
      trivial
      cases hu : r.up
      · trivial
        rw [nr_all3 hd (by simp)]
        exact frz_p rfl
      · trivial
        rw [e1]
        cases h0 : decide (0 < r.top.toNat)
        · have h0 := of_decide_eq_false h0
          trivial
          rw [nr_all3 hd (fun hh => h0 hh.2)]
          exact frz_p rfl
        · have h0 := of_decide_eq_true h0
          trivial
          refine Kn.call pure1r (short_ok h (by omega)) ?_
          trivial
          rw [hu, nr_all2 hd h0, el (lstN_pos (by omega))]
          exact frz_p rfl
    · have hd := of_decide_eq_true hd
      trivial
      rw [nr_all1 hd]
      exact frz_p rfl
  · trivial
    refine ⟨fun hd => ?_, fun hd => ?_⟩
    · rw [hd]
      have hd := of_decide_eq_false hd
      trivial
      refine Kn.mk (eq_goal Gl.kept).2.2 ?_
      trivial
      refine Kn.call pure1r (short_ok h (by omega)) ?_
      trivial
      refine Kn.mk (eq_goal Gl.kept).2.1 ?_
      trivial
      rw [nr_k2 hd]
      exact frz_p rfl
    · rw [hd]
      have hd := of_decide_eq_true hd
      trivial
      rw [nr_k1 hd]
      exact frz_p rfl
  · trivial
    refine ⟨fun hd => ?_, fun hd => ?_⟩
    · rw [hd]
      have hd := of_decide_eq_false hd
      trivial
      refine Kn.mk (eq_goal Gl.swap).2.2 ?_
      trivial
      rw [e0]
      refine ⟨fun h0 => ?_, fun h0 => ?_⟩
      · have h0 := of_decide_eq_false h0
        trivial
        refine Kn.call pure1r (missable_ok hok) ?_
        trivial
        cases hl : r.lasts
        · trivial
          rw [nr_s1 (.inr (.inr rfl))]
          exact frz_p rfl
        · trivial
          refine Kn.call pure1r (short_ok h (by omega)) ?_
          trivial
          refine Kn.mk (eq_goal Gl.swap).2.1 ?_
          trivial
          cases hu : r.up
          · trivial
            rw [nr_s3 hd h0, ← h.u, ← h.t]
            refine Kn.call pure2ii (up_to_ok (by omega) (by omega)) ?_
            trivial
            exact frz_p rfl
          · trivial
            rw [nr_s2 hd h0]
            exact frz_p rfl
      · have h0 := of_decide_eq_true h0
        trivial
        rw [nr_s1 (.inr (.inl h0))]
        exact frz_p rfl
    · rw [hd]
      have hd := of_decide_eq_true hd
      trivial
      rw [nr_s1 (.inl hd)]
      exact frz_p rfl
theorem happens_g (h : Sh r) (hok : r.Ok) (g : Gl) : F_happens [r.d, .str g.s] = some (.bl (nuR g r.lasts r.top.toNat r.under.toNat r.up).isSome) := by
  refine WS.runP (n := 2) (b := f_happens) ?_ rfl
  show WS _ [some r.d, some (.str g.s)] [] _
  trivial
  refine Kn.call pure2rs (numbers_g h hok g) ?_
  trivial
  rw [isNon_nu]
  exact frz_b
end
end L4
namespace L4
open PySem
section
variable {m m0 : M} {ρ : Ss} {r : Ru} {most : Int} {w : Wo} {nc ns n b : Nat} {c : Ca} {e : Ev} {B : List Sd} {met : List (Nat × Go)} {many : Nat}
def Sd.tag : Sd → Str
  | .inn _ _ _ => "in"
  | .out _ _ => "out"
  | .trial _ => "trial"
theorem ix_tag (s : Sd) : ixA m s.d (.int 0) = some (.str s.tag) := by cases s <;> rfl
theorem ne_tag (s : Sd) : neD m (.str s.tag) (.str "in") = some (.bl (!s.isIn)) := by cases s <;> first | exact ne_in_in | exact ne_out_in | exact ne_trial_in
theorem ne_tago (s : Sd) : neD m (.str s.tag) (.str "out") = some (.bl (!s.isOut)) := by cases s <;> exact eqB (by kernel_rfl)
theorem ixN_nat {n j : Nat} (h : j < n) : L2.ixN n ((j : Nat) : Int) = some j := by
  unfold L2.ixN
  rw [if_pos (by omega), if_pos (by omega)]
  rfl
theorem set_r {n j : Nat} {ds : List D} {x : D} (h : m[n]? = some (.lst ds)) (hj : j < ds.length) : setM m (.ref n) (.int (j : Nat)) x = some (m.set n (.lst (ds.set j x))) := by
  show ((m[n]?).bind fun o => setO o (.int (j : Nat)) x).map (fun o => m.set n o) = _
  rw [h]
  show ((L2.ixN ds.length ((j : Nat) : Int)).map fun j => O.lst (ds.set j x)).map (fun o => m.set n o) = _
  rw [ixN_nat hj]
  rfl
theorem lstR_r {n : Nat} {ds : List D} (h : m[n]? = some (.lst ds)) : lstR m (.ref n) = some ds := by
  show lstOf m (.ref n) = _
  exact lstOf_r h
theorem ix_r {n j : Nat} {ds : List D} {x : D} (h : m[n]? = some (.lst ds)) (hj : ds[j]? = some x) : ixA m (.ref n) (.int (j : Nat)) = some x := by
  have e1 : dicOf m (.ref n) = none := by
    show (m[n]?).bind dicO = _
    rw [h]
    rfl
  unfold ixA
  rw [e1]
  show (lstR m (.ref n)).bind (fun ds => L2.atI ds ((j : Nat) : Int)) = _
  rw [lstR_r h]
  exact L2.atI_nat hj
theorem ca_ix {α : Type} {l : List α} {f : α → D} {j : Nat} {x : α} (h : l[j]? = some x) : (l.map f)[j]? = some (f x) := by rw [List.getElem?_map, h]; rfl
theorem map_set {α : Type} (f : α → D) (l : List α) (j : Nat) (x : α) : (l.map f).set j (f x) = (l.set j x).map f := by rw [List.map_set]
def Ru.lim (r : Ru) (n : Int) : Int := (n * r.top + (if r.up then r.under - 1 else 0)) / r.under
theorem put_st {x : Sd} {s : Nat} {v : Option Wh} : (c.put s x v).st = c.st.set s x := by cases v <;> rfl
end
end L4
namespace L4
open PySem
section
variable {m m0 : M} {ρ : Ss} {r : Ru} {most : Int} {w : Wo} {nc ns k : Nat} {c : Ca} {e : Ev}
theorem WS.fldMw {cs : List Str} {f : Str} {o v : EF} {Q : Fl → M → Prop} (h : WE v ρ m fun y m1 => WE o ρ m1 fun x m2 => ∃ n c ns vs ns2 vs2, x = .ref n ∧ m2[n]? = some (.ins c ns vs) ∧ cs.contains c = true ∧ vs.length < 1000 ∧ putD f y ns vs = (ns2, vs2) ∧ Q (.nx ρ) (m2.set n (.ins c ns2 vs2))) : WS (sFldM cs f o v) ρ m Q := by
  obtain ⟨y, m1, e1, x, m2, e2, n, c, ns, vs, ns2, vs2, rfl, h1, h2, h3, h4, q⟩ := h
  refine ⟨_, _, ?_, q⟩
  unfold sFldM
  rw [e1, bd_go, e2, bd_go]
  dsimp only
  rw [h1]
  dsimp only
  rw [if_pos ⟨h2, h3⟩, h4]
theorem WE.lcMw {nw : Bool} {it : AF} {i : Nat} {e : EF} {α : Type} {Q : D → M → Prop} (enc f : α → D) {xs : List α} (hi : WI it ρ m fun ys m1 => ys = xs.map enc ∧ m1 = m) (hl : xs.length ≤ 1000000) (h : ∀ x ∈ xs, WE e (ρ.set i (some (enc x))) m fun v m1 => v = f x ∧ m1 = m) (q : Q (bif nw then .ref m.length else .lst (xs.map f)) (bif nw then m ++ [.lst (xs.map f)] else m)) : WE (eLcK nw it (.one i) tTrue e) ρ m Q := by
  obtain ⟨ys, m1, e1, rfl, rfl⟩ := hi
  refine WE.lcK ⟨_, m1, e1, by simpa using hl, ?_⟩
  have := comp_pure (t := .one i) (c := tTrue) (e := e) (ρ := ρ) (m := m1) enc (fun _ => true) f xs fun x hx => by
    obtain ⟨v, m2, e2, rfl, rfl⟩ := h x hx
    exact ⟨[enc x], rfl, rfl, fun _ => e2⟩
  rw [List.filter_eq_self.mpr (fun _ _ => rfl)] at this
  exact ⟨_, m1, this, q⟩
theorem rngW_len (i : Int) (k : Nat) : (rngD i k).length = k := by simp [rngD]
theorem begun_d : F_begun [] = some begun.d := by kernel_rfl
theorem rep_flat1 {α : Type} (n : Nat) (f : α → D) (x : α) : (List.replicate n [f x]).flatten = (List.replicate n x).map f := by
  rw [List.map_replicate]
  induction n with
  | zero => rfl
  | succ n ih => rw [List.replicate_succ, List.replicate_succ, List.flatten_cons, ih]; rfl
def rdNames : List Str := ["told_events", "callers", "servers", "events"]
def roadD (nc ns : Nat) (es : List Ev) (ts : List D) : D := .obj "Road" rdNames [.tup (es.map Ev.d), .int (nc : Nat), .int (ns : Nat), .tup ts]
theorem rd_c1 : (["Road"] : List Str).contains "Road" = true := by decide +kernel
theorem frz_tupE {n : Nat} {ds : List D} (h : ∀ e ∈ ds, frzGo m n e = some e) : frzGo m (n + 1) (.tup ds) = some (.tup ds) := by
  unfold frzGo
  rw [mapO_self h]
  rfl
theorem ev_ix0t {c s : Nat} {f : Bool} : ixA m (Ev.turn c s f).d (.int 0) = some (.str "turn") := rfl
theorem ev_ix0w {c d s : Nat} : ixA m (Ev.told c d s).d (.int 0) = some (.str "told") := rfl
theorem eq_turn_turn : eqD m (.str "turn") (.str "turn") = some (.bl true) := eqB (by kernel_rfl)
theorem eq_told_turn : eqD m (.str "told") (.str "turn") = some (.bl false) := eqB (by kernel_rfl)
theorem ev_ix1 (e : Ev) : ixA m e.d (.int 1) = some (.int (e.c : Nat)) := by cases e <;> rfl
theorem ev_ix2t {c s : Nat} {f : Bool} : ixA m (Ev.turn c s f).d (.int 2) = some (.int (s : Nat)) := rfl
theorem ev_ix2w {c d s : Nat} : ixA m (Ev.told c d s).d (.int 2) = some (.int (d : Nat)) := rfl
theorem ev_ix3w {c d s : Nat} : ixA m (Ev.told c d s).d (.int 3) = some (.int (s : Nat)) := rfl
theorem ru_nlim : ruNames.contains "limit" = false := by kernel_rfl
theorem bnd64 {n : Nat} (hn : n ≤ 1000000) : -(2 ^ 64) < ((n : Nat) : Int) ∧ ((n : Nat) : Int) < 2 ^ 64 := ⟨Int.lt_of_lt_of_le (by decide) (Int.natCast_nonneg n), Int.lt_of_le_of_lt (Int.ofNat_le.mpr hn) (by decide)⟩
local macro_rules | `(tactic| fail) => `(tactic| (first | ((with_reducible refine w_and_t ?_ ?_); exact rfl) | ((with_reducible refine w_and_f ?_ ?_); exact rfl) | ((with_reducible refine w_or_t ?_ ?_); exact rfl) | ((with_reducible refine w_or_f ?_ ?_); exact rfl) | ((with_reducible refine Kn.fdiv ?_ ?_); exact ⟨by decide, by decide⟩) | ((with_reducible refine Kn.mod ?_ ?_); decide) | ((with_reducible refine And.intro (a := (_ && _) = true) ?_ ?_); exact rfl) | ((with_reducible refine And.intro (a := List.length _ = List.length _) ?_ ?_); exact rfl; dsimp only [setMany, List.set_cons_succ, List.set_cons_zero]) | ((with_reducible refine ⟨wsz ?_, ?_⟩); first | decide | (show (_ : Nat) ≤ 1000; simp only [List.length_cons, List.length_nil]; decide)) | with_reducible refine ⟨_, rfl, ?_⟩))
local macro_rules | `(tactic| fail) => `(tactic| (first | ((with_reducible refine WG.nm ?_); dsimp only [setMany, List.set_cons_succ, List.set_cons_zero]) | ((with_reducible refine WG.one ?_); dsimp only [setMany, List.set_cons_succ, List.set_cons_zero]) | ((with_reducible refine WG.tup ?_ ?_); exact rfl; dsimp only [setMany, List.set_cons_succ, List.set_cons_zero]) | ((with_reducible apply WE.var); exact rfl) | ((with_reducible apply WE.upP); exact rfl) | ((with_reducible apply WE.upT); exact rfl) | ((with_reducible apply WE.upL); exact rfl) | ((with_reducible apply WE.upN); exact rfl) | ((with_reducible apply WS.aug); exact rfl) | ((with_reducible apply WE.newPL); exact rfl) | ((with_reducible refine WS.ite_t ?_ ?_); exact rfl) | ((with_reducible refine WS.ite_f ?_ ?_); exact rfl) | ((with_reducible refine WE.ite_t ?_ ?_); exact rfl) | ((with_reducible refine WE.ite_f ?_ ?_); exact rfl)))
local macro_rules | `(tactic| fail) => `(tactic| with_reducible (first | refine Kn.it_l ?_ | refine Kn.it_s ?_ | refine Kn.str_s ?_ | refine Kn.sl_t ?_ | refine Kn.sl_l ?_ | refine Kn.kx_need ?_ | refine Kn.kx_of ?_ | refine Kn.kx_base ?_ | refine Kn.kx_more ?_ | refine Kn.kx_most ?_ | refine Kn.kx_calm ?_ | refine Kn.kx_back ?_ | refine Kn.kx_under ?_ | refine Kn.kx_top ?_ | refine Kn.kx_up ?_ | refine Kn.kx_hears ?_ | refine Fld.need ?_ | refine Fld.of ?_ | refine Fld.base ?_ | refine Fld.more ?_ | refine Fld.most ?_ | refine Fld.calm ?_ | refine Fld.back ?_ | refine Fld.top ?_ | refine Fld.under ?_ | refine Fld.up ?_ | refine Fld.hears ?_ | refine Fld.cap ?_ | refine Mth.time ?_))
local macro_rules | `(tactic| fail) => `(tactic| with_reducible (first | refine WE.tupL ?_ | refine WE.dicP ?_ | refine WP.nil ?_ | refine WP.cons ?_ | refine WE.upd ?_ | refine WA.nil ?_ | refine WA.cons ?_ | refine WA.star ?_ | refine WO.no ?_ | refine WO.yes ?_ | refine WT.val ?_ | refine WT.and ?_ | refine WT.or ?_ | refine WT.not ?_ | refine WT.tt ?_ | refine WI.it ?_ | refine Kn.add_i ?_ | refine Kn.sub ?_ | refine Kn.neg ?_ | refine Kn.eq_i ?_ | refine Kn.ne_i ?_ | refine Kn.lt ?_ | refine Kn.le ?_ | refine Kn.gt ?_ | refine Kn.ge ?_ | refine Kn.int_i ?_ | refine Kn.int_b ?_ | refine Kn.abs ?_ | refine Kn.min2 ?_ | refine Kn.max2 ?_ | refine Kn.len_t ?_ | refine Kn.len_l ?_ | refine Kn.len_s ?_ | refine Kn.tup_t ?_ | refine Kn.tup_l ?_ | refine Kn.lis_t ?_ | refine Kn.lis_l ?_ | refine Kn.seq_t ?_ | refine Kn.seq_l ?_ | refine Kn.it_t ?_))
local macro_rules | `(tactic| fail) => `(tactic| with_reducible (first | refine WS.seq ?_ | refine WS.nx ?_ | refine WS.rt ?_ | refine WS.asg ?_ | refine WS.drop ?_ | refine WS.ret ?_ | refine WS.nop ?_ | refine WS.retN ?_ | refine WS.brk ?_ | refine WS.cont ?_ | refine WS.sif ?_ | refine WS.par ?_ | refine WG.setA ?_ | refine WE.c ?_ | refine WE.op ?_ | refine WE.call ?_ | refine WE.callM ?_ | refine WE.un ?_ | refine WE.tup ?_ | refine WE.lst ?_ | refine WE.newL ?_ | refine WE.eif ?_ | refine WE.sl ?_ | refine WE.isN ?_ | refine WE.notN ?_ | refine WE.not ?_ | refine WE.and ?_ | refine WE.or ?_ | refine WE.app ?_ | refine WE.tupR ?_ | refine WE.lisR ?_ | refine WE.m1 ?_ | refine WE.tbl ?_ | refine WE.tblNin ?_ | refine WE.chain ?_ | refine WE.fldF ?_ | refine WE.mth ?_ | refine WE.disp ?_ | refine WE.dicC ?_ | refine WE.tupA ?_))
local macro_rules | `(tactic| trivial) => `(tactic| (repeat fail))
theorem limit_w (hu : 1 ≤ r.under ∧ r.under < 1073741824) {n : Nat} (hn : n ≤ 1000000) : F_Rule_limit [r.d, .int (n : Nat)] = some (.int (r.lim (n : Nat))) := by
  refine WS.runP (n := 2) (b := f_Rule_limit) ?_ rfl
  show WS _ [some r.d, some (.int (n : Nat))] [] _
  trivial
  refine Kn.mul_i (.inl (bnd64 hn)) ?_
  trivial
  cases hup : r.up
  · trivial
    refine Kn.fdiv ⟨by omega, hu.2⟩ ?_
    trivial
    unfold Ru.lim
    rw [hup]
    exact frz_p rfl
  · trivial
    trivial
    refine Kn.fdiv ⟨by omega, hu.2⟩ ?_
    trivial
    unfold Ru.lim
    rw [hup]
    exact frz_p rfl
end
end L4
namespace L4
open PySem
section
variable {m m0 : M} {ρ : Ss} {nc ns : Nat} {e : Ev} {es : List Ev}
def ansS (f : Bool) : Str := if f then "fault" else "ok"
def Ev.w : Ev → List Str
  | .turn c s f => ["turn", nS (c : Nat), nS (s : Nat), ansS f]
  | .told c d s => ["told", nS (c : Nat), nS (d : Nat), nS (s : Nat)]
def Ev.t (e : Ev) : Str := joinT " " e.w
theorem i100 {n : Nat} (h : n < 100) : (0 : Int) ≤ (n : Nat) ∧ ((n : Nat) : Int) < 100 := ⟨by omega, by omega⟩
theorem nob_n {n : Nat} (h : n < 100) : 32 ∉ (nS (n : Nat)).cps.toList := (nsg_ok (i100 h).1 (i100 h).2).b
theorem nob_ev : 32 ∉ ("turn" : Str).cps.toList ∧ 32 ∉ ("told" : Str).cps.toList ∧ 32 ∉ ("ok" : Str).cps.toList ∧ 32 ∉ ("fault" : Str).cps.toList := by decide +kernel
theorem nob_ans (f : Bool) : 32 ∉ (ansS f).cps.toList := by cases f <;> decide +kernel
theorem ev_nob (h : e.In nc ns) (hc : nc ≤ 100) (hs : ns ≤ 100) : ∀ w ∈ e.w, 32 ∉ w.cps.toList := by
  obtain ⟨n1, n2, n3, n4⟩ := nob_ev
  cases e with
  | turn c s f =>
    obtain ⟨h1, h2⟩ := h
    intro w hw
    simp only [Ev.w, List.mem_cons, List.not_mem_nil, or_false] at hw
    rcases hw with rfl | rfl | rfl | rfl
    · exact n1
    · exact nob_n (by omega)
    · exact nob_n (by omega)
    · exact nob_ans f
  | told c d s =>
    obtain ⟨h1, h2, h3, _⟩ := h
    intro w hw
    simp only [Ev.w, List.mem_cons, List.not_mem_nil, or_false] at hw
    rcases hw with rfl | rfl | rfl | rfl
    · exact n2
    · exact nob_n (by omega)
    · exact nob_n (by omega)
    · exact nob_n (by omega)
theorem ev_wlen : e.w.length = 4 := by cases e <;> rfl
theorem split_ev (h : e.In nc ns) (hc : nc ≤ 100) (hs : ns ≤ 100) : splitS e.t 32 = e.w := split_join one_blank (by cases e <;> simp [Ev.w]) (ev_nob h hc hs)
theorem len_n {n : Nat} (h : n < 100) : (nS (n : Nat)).length ≤ 2 := len_nS (i100 h)
theorem len_ev4 : ("turn" : Str).length = 4 ∧ ("told" : Str).length = 4 ∧ (" " : Str).length = 1 := by decide +kernel
theorem len_ans (f : Bool) : (ansS f).length ≤ 5 := by cases f <;> decide +kernel
theorem ev_sum (h : e.In nc ns) (hc : nc ≤ 100) (hs : ns ≤ 100) : (e.w.map (·.length)).sum ≤ 15 := by
  obtain ⟨l1, l2, _⟩ := len_ev4
  cases e with
  | turn c s f =>
    obtain ⟨h1, h2⟩ := h
    have a1 := len_n (show c < 100 by omega)
    have a2 := len_n (show s < 100 by omega)
    have a3 := len_ans f
    simp only [Ev.w, List.map_cons, List.map_nil, List.sum_cons, List.sum_nil, l1]
    omega
  | told c d s =>
    obtain ⟨h1, h2, h3, _⟩ := h
    have a1 := len_n (show c < 100 by omega)
    have a2 := len_n (show s < 100 by omega)
    have a3 := len_n (show d < 100 by omega)
    simp only [Ev.w, List.map_cons, List.map_nil, List.sum_cons, List.sum_nil, l2]
    omega
theorem ev_tlen (h : e.In nc ns) (hc : nc ≤ 100) (hs : ns ≤ 100) : e.t.length ≤ 100 := by
  have h1 := ev_sum h hc hs
  have h2 := joinL_len 32 (e.w.map fun y => y.cps.toList)
  unfold Ev.t
  rw [slen, joinT_l, one_blank]
  refine Nat.le_trans h2 ?_
  rw [List.map_map]
  have e1 : (e.w.map ((fun w : List Nat => w.length + 1) ∘ fun y : Str => y.cps.toList)).sum = (e.w.map (·.length)).sum + e.w.length := by
    have : ∀ l : List Str, (l.map ((fun w : List Nat => w.length + 1) ∘ fun y : Str => y.cps.toList)).sum = (l.map (·.length)).sum + l.length := fun l => by
      induction l with
      | nil => rfl
      | cons a l ih =>
        rw [List.map_cons, List.sum_cons, ih, List.map_cons, List.sum_cons, List.length_cons]
        show a.cps.toList.length + 1 + _ = _
        rw [slen a]
        omega
    exact this _
  rw [e1, ev_wlen]
  omega
theorem nin_ans (f : Bool) : F_number_in [.str (ansS f), .int 2] = some .non := by cases f <;> kernel_rfl
theorem eq_tt : eqD m (.str "turn") (.str "turn") = some (.bl true) ∧ eqD m (.str "told") (.str "turn") = some (.bl false) ∧ eqD m (.str "told") (.str "told") = some (.bl true) := ⟨eqB (by kernel_rfl), eqB (by kernel_rfl), eqB (by kernel_rfl)⟩
theorem in_ans (f : Bool) : inA m (.str (ansS f)) (.tup [.str "ok", .str "fault"]) = some (.bl true) := by cases f <;> exact eqB (by kernel_rfl)
theorem eq_ansf (f : Bool) : eqD m (.str (ansS f)) (.str "fault") = some (.bl f) := by cases f <;> exact eqB (by kernel_rfl)
theorem nin_non {is : List Int} : ninA m .non (.lst (is.map .int)) = some (.bl true) := by
  have h := in_non (m := m) (is := is)
  unfold inA at h
  unfold ninA
  obtain ⟨b, hb, e⟩ := Option.map_eq_some_iff.mp h
  rw [hb]
  cases e
  rfl
theorem pure2sa {x : Str} {i : Int} : pureL [.str x, .int i] = true := rfl
theorem ix4 {a b c d : D} : ixA m (.lst [a, b, c, d]) (.int 0) = some a ∧ ixA m (.lst [a, b, c, d]) (.int 3) = some d := ⟨by rw [ixA_lst]; rfl, by rw [ixA_lst]; rfl⟩
theorem ix3 {a b c : D} : ixA m (.lst [a, b, c]) (.int 0) = some a ∧ ixA m (.lst [a, b, c]) (.int 1) = some b := ⟨by rw [ixA_lst]; rfl, by rw [ixA_lst]; rfl⟩
theorem frz_pW {x : D} (h : pureD x = true) : frz m x = some x := by unfold frz; rw [if_pos h]
theorem frz_ev : frz m e.d = some e.d := frz_pW (by cases e <;> rfl)
local macro_rules | `(tactic| fail) => `(tactic| (first | ((with_reducible refine w_and_t ?_ ?_); exact rfl) | ((with_reducible refine w_and_f ?_ ?_); exact rfl) | ((with_reducible refine w_or_t ?_ ?_); exact rfl) | ((with_reducible refine w_or_f ?_ ?_); exact rfl) | ((with_reducible refine Kn.fdiv ?_ ?_); exact ⟨by decide, by decide⟩) | ((with_reducible refine Kn.mod ?_ ?_); decide) | ((with_reducible refine And.intro (a := (_ && _) = true) ?_ ?_); exact rfl) | ((with_reducible refine And.intro (a := List.length _ = List.length _) ?_ ?_); exact rfl; dsimp only [setMany, List.set_cons_succ, List.set_cons_zero]) | ((with_reducible refine ⟨wsz ?_, ?_⟩); first | decide | (show (_ : Nat) ≤ 1000; simp only [List.length_cons, List.length_nil]; decide)) | with_reducible refine ⟨_, rfl, ?_⟩))
local macro_rules | `(tactic| fail) => `(tactic| (first | ((with_reducible refine WG.nm ?_); dsimp only [setMany, List.set_cons_succ, List.set_cons_zero]) | ((with_reducible refine WG.one ?_); dsimp only [setMany, List.set_cons_succ, List.set_cons_zero]) | ((with_reducible refine WG.tup ?_ ?_); exact rfl; dsimp only [setMany, List.set_cons_succ, List.set_cons_zero]) | ((with_reducible apply WE.var); exact rfl) | ((with_reducible apply WE.upP); exact rfl) | ((with_reducible apply WE.upT); exact rfl) | ((with_reducible apply WE.upL); exact rfl) | ((with_reducible apply WE.upN); exact rfl) | ((with_reducible apply WS.aug); exact rfl) | ((with_reducible apply WE.newPL); exact rfl) | ((with_reducible refine WS.ite_t ?_ ?_); exact rfl) | ((with_reducible refine WS.ite_f ?_ ?_); exact rfl) | ((with_reducible refine WE.ite_t ?_ ?_); exact rfl) | ((with_reducible refine WE.ite_f ?_ ?_); exact rfl)))
local macro_rules | `(tactic| fail) => `(tactic| with_reducible (first | refine Kn.it_l ?_ | refine Kn.it_s ?_ | refine Kn.str_s ?_ | refine Kn.sl_t ?_ | refine Kn.sl_l ?_ | refine Kn.kx_need ?_ | refine Kn.kx_of ?_ | refine Kn.kx_base ?_ | refine Kn.kx_more ?_ | refine Kn.kx_most ?_ | refine Kn.kx_calm ?_ | refine Kn.kx_back ?_ | refine Kn.kx_under ?_ | refine Kn.kx_top ?_ | refine Kn.kx_up ?_ | refine Kn.kx_hears ?_ | refine Fld.need ?_ | refine Fld.of ?_ | refine Fld.base ?_ | refine Fld.more ?_ | refine Fld.most ?_ | refine Fld.calm ?_ | refine Fld.back ?_ | refine Fld.top ?_ | refine Fld.under ?_ | refine Fld.up ?_ | refine Fld.hears ?_ | refine Fld.cap ?_ | refine Mth.time ?_))
local macro_rules | `(tactic| fail) => `(tactic| with_reducible (first | refine WE.tupL ?_ | refine WE.dicP ?_ | refine WP.nil ?_ | refine WP.cons ?_ | refine WE.upd ?_ | refine WA.nil ?_ | refine WA.cons ?_ | refine WA.star ?_ | refine WO.no ?_ | refine WO.yes ?_ | refine WT.val ?_ | refine WT.and ?_ | refine WT.or ?_ | refine WT.not ?_ | refine WT.tt ?_ | refine WI.it ?_ | refine Kn.add_i ?_ | refine Kn.sub ?_ | refine Kn.neg ?_ | refine Kn.eq_i ?_ | refine Kn.ne_i ?_ | refine Kn.lt ?_ | refine Kn.le ?_ | refine Kn.gt ?_ | refine Kn.ge ?_ | refine Kn.int_i ?_ | refine Kn.int_b ?_ | refine Kn.abs ?_ | refine Kn.min2 ?_ | refine Kn.max2 ?_ | refine Kn.len_t ?_ | refine Kn.len_l ?_ | refine Kn.len_s ?_ | refine Kn.tup_t ?_ | refine Kn.tup_l ?_ | refine Kn.lis_t ?_ | refine Kn.lis_l ?_ | refine Kn.seq_t ?_ | refine Kn.seq_l ?_ | refine Kn.it_t ?_))
local macro_rules | `(tactic| fail) => `(tactic| with_reducible (first | refine WS.seq ?_ | refine WS.nx ?_ | refine WS.rt ?_ | refine WS.asg ?_ | refine WS.drop ?_ | refine WS.ret ?_ | refine WS.nop ?_ | refine WS.retN ?_ | refine WS.brk ?_ | refine WS.cont ?_ | refine WS.sif ?_ | refine WS.par ?_ | refine WG.setA ?_ | refine WE.c ?_ | refine WE.op ?_ | refine WE.call ?_ | refine WE.callM ?_ | refine WE.un ?_ | refine WE.tup ?_ | refine WE.lst ?_ | refine WE.newL ?_ | refine WE.eif ?_ | refine WE.sl ?_ | refine WE.isN ?_ | refine WE.notN ?_ | refine WE.not ?_ | refine WE.and ?_ | refine WE.or ?_ | refine WE.app ?_ | refine WE.tupR ?_ | refine WE.lisR ?_ | refine WE.m1 ?_ | refine WE.tbl ?_ | refine WE.tblNin ?_ | refine WE.chain ?_ | refine WE.fldF ?_ | refine WE.mth ?_ | refine WE.disp ?_ | refine WE.dicC ?_ | refine WE.tupA ?_))
local macro_rules | `(tactic| trivial) => `(tactic| (repeat fail))
theorem evin_w (h : e.In nc ns) (hc : nc ≤ 100) (hs : ns ≤ 100) : F_event_in [.str e.t] = some e.d := by
  have hsp := split_ev h hc hs
  have htl := ev_tlen h hc hs
  refine WS.runP (n := 4) (b := f_event_in) ?_ rfl
  show WS _ [some (.str e.t), none, none, none] [] _
  trivial
  refine Kn.split one_blank (by decide) (by rw [sizeLine_eq]; omega) hsp ?_
  trivial
  have e4 : (e.w.map D.str).length = 4 := by rw [List.length_map]; exact ev_wlen
  rw [e4]
  trivial
  cases e with
  | turn c s f =>
    obtain ⟨h1, h2⟩ := h
    have n1 := nin_ok (i := ((c : Nat) : Int)) (by omega) (by omega)
    have n2 := nin_ok (i := ((s : Nat) : Int)) (by omega) (by omega)
    dsimp only [Ev.w, List.map_cons, List.map_nil]
    refine WE.lcMw (nw := false) (fun p : Str × D => .str p.1) (fun p => p.2) (xs := [(nS (c : Nat), .int (c : Nat)), (nS (s : Nat), .int (s : Nat)), (ansS f, .non)]) ?_ (by show 3 ≤ 1000000; decide) ?_ ?_
    · refine WI.it ?_
      trivial
      exact ⟨rfl, rfl⟩
    · intro p hp
      simp only [List.mem_cons, List.not_mem_nil, or_false] at hp
      rcases hp with rfl | rfl | rfl
      · trivial
        refine Kn.call pure2sa n1 ?_
        exact ⟨rfl, rfl⟩
      · trivial
        refine Kn.call pure2sa n2 ?_
        exact ⟨rfl, rfl⟩
      · trivial
        refine Kn.call pure2sa (nin_ans f) ?_
        exact ⟨rfl, rfl⟩
    dsimp only [cond_false, List.map_cons, List.map_nil]
    trivial
    unfold f_event_in_2
    trivial
    refine Kn.mk ix4.1 ?_
    trivial
    refine Kn.mk eq_tt.1 ?_
    trivial
    refine Kn.mk (nin_non (is := [(c : Nat), (s : Nat)])) ?_
    trivial
    refine Kn.mk ix4.2 ?_
    trivial
    refine Kn.mk (in_ans f) ?_
    trivial
    refine Kn.mk ix3.1 ?_
    trivial
    refine Kn.mk ix3.2 ?_
    trivial
    refine Kn.mk ix4.2 ?_
    trivial
    refine Kn.mk (eq_ansf f) ?_
    trivial
    exact frz_pW rfl
  | told c d s =>
    obtain ⟨h1, h2, h3, hne⟩ := h
    have n1 := nin_ok (i := ((c : Nat) : Int)) (by omega) (by omega)
    have n2 := nin_ok (i := ((s : Nat) : Int)) (by omega) (by omega)
    have n3 := nin_ok (i := ((d : Nat) : Int)) (by omega) (by omega)
    dsimp only [Ev.w, List.map_cons, List.map_nil]
    refine WE.lcMw (nw := false) (fun p : Str × D => .str p.1) (fun p => p.2) (xs := [(nS (c : Nat), .int (c : Nat)), (nS (d : Nat), .int (d : Nat)), (nS (s : Nat), .int (s : Nat))]) ?_ (by show 3 ≤ 1000000; decide) ?_ ?_
    · refine WI.it ?_
      trivial
      exact ⟨rfl, rfl⟩
    · intro p hp
      simp only [List.mem_cons, List.not_mem_nil, or_false] at hp
      rcases hp with rfl | rfl | rfl
      · trivial
        refine Kn.call pure2sa n1 ?_
        exact ⟨rfl, rfl⟩
      · trivial
        refine Kn.call pure2sa n3 ?_
        exact ⟨rfl, rfl⟩
      · trivial
        refine Kn.call pure2sa n2 ?_
        exact ⟨rfl, rfl⟩
    dsimp only [cond_false, List.map_cons, List.map_nil]
    trivial
    unfold f_event_in_2
    trivial
    refine Kn.mk ix4.1 ?_
    trivial
    refine Kn.mk eq_tt.2.1 ?_
    trivial
    unfold f_event_in_1
    trivial
    refine Kn.mk ix4.1 ?_
    trivial
    refine Kn.mk eq_tt.2.2 ?_
    trivial
    refine Kn.mk (nin_non (is := [(c : Nat), (d : Nat), (s : Nat)])) ?_
    trivial
    refine Kn.mk ix3.1 ?_
    trivial
    refine Kn.mk ix3.2 ?_
    trivial
    have hb : (((c : Nat) : Int) == ((d : Nat) : Int)) = false := beq_eq_false_iff_ne.mpr (by omega)
    rw [hb]
    trivial
    refine ⟨wsz (by show 4 ≤ 1000; decide), ?_⟩
    trivial
    exact frz_ev (e := Ev.told c d s)
theorem evof_w (h : e.In nc ns) (hc : nc ≤ 100) (hs : ns ≤ 100) : F_event_of [.str e.t, .int (nc : Nat), .int (ns : Nat)] = some e.d := by
  refine WS.runP (n := 4) (b := f_event_of) ?_ rfl
  show WS _ [some (.str e.t), some (.int (nc : Nat)), some (.int (ns : Nat)), none] [] _
  trivial
  refine Kn.isi (b := true) (by kernel_rfl) ?_
  trivial
  refine Kn.call rfl (evin_w h hc hs) ?_
  trivial
  unfold f_event_of_3
  trivial
  have hn : isNon e.d = false := by cases e <;> rfl
  rw [hn]
  trivial
  unfold f_event_of_2
  trivial
  cases e with
  | turn c s f =>
    obtain ⟨h1, h2⟩ := h
    refine Kn.mk ev_ix0t ?_
    trivial
    refine Kn.mk eq_turn_turn ?_
    trivial
    refine Kn.mk (ev_ix1 _) ?_
    trivial
    refine ⟨fun _ => ?_, fun hx => absurd (of_decide_eq_false hx) (by simp [Ev.c]; omega)⟩
    trivial
    refine Kn.mk ev_ix2t ?_
    trivial
    have hb : decide (((s : Nat) : Int) < (ns : Nat)) = true := decide_eq_true (by omega)
    rw [hb]
    trivial
    exact frz_ev
  | told c d s =>
    obtain ⟨h1, h2, h3, hne⟩ := h
    refine Kn.mk ev_ix0w ?_
    trivial
    refine Kn.mk eq_told_turn ?_
    trivial
    refine Kn.mk (ev_ix1 _) ?_
    trivial
    refine ⟨fun _ => ?_, fun hx => absurd (of_decide_eq_false hx) (by simp [Ev.c]; omega)⟩
    trivial
    refine Kn.mk ev_ix2w ?_
    trivial
    refine ⟨fun _ => ?_, fun hx => absurd (of_decide_eq_false hx) (by omega)⟩
    trivial
    refine Kn.mk ev_ix3w ?_
    trivial
    have hb : decide (((s : Nat) : Int) < (ns : Nat)) = true := decide_eq_true (by omega)
    rw [hb]
    trivial
    exact frz_ev
theorem in_nonEv (es : List Ev) : inA m .non (.lst (es.map Ev.d)) = some (.bl false) := by
  have pv : ∀ es : List Ev, ∃ ps : List PyData, pdL (es.map Ev.d) = some ps ∧ pureL (es.map Ev.d) = true ∧ PyData.canLayAll0 ps = true ∧ PyData.depthAll ps ≤ 3 ∧ ∀ p ∈ ps, PyData.eqv p .none = false := fun es => by
    induction es with
    | nil => exact ⟨[], rfl, rfl, rfl, by simp [PyData.depthAll], fun p h => nomatch h⟩
    | cons e es ih =>
      obtain ⟨ps, h1, h2, h3, h4, h5⟩ := ih
      obtain ⟨q, k1, k2, k3, k4, k5⟩ : ∃ q : PyData, pd e.d = some q ∧ pureD e.d = true ∧ q.canLay0 = true ∧ q.depth ≤ 2 ∧ PyData.eqv q .none = false := by
        cases e with
        | turn c s f => exact ⟨.tuple [.str "turn", .int (c : Nat), .int (s : Nat), .bool f], rfl, rfl, by simp [PyData.canLay0, PyData.canLayAll0]; decide +kernel, by simp [PyData.depth, PyData.depthAll], rfl⟩
        | told c d s => exact ⟨.tuple [.str "told", .int (c : Nat), .int (d : Nat), .int (s : Nat)], rfl, rfl, by simp [PyData.canLay0, PyData.canLayAll0]; decide +kernel, by simp [PyData.depth, PyData.depthAll], rfl⟩
      refine ⟨q :: ps, by rw [List.map_cons, pdL, k1, h1], by rw [List.map_cons, pureL, k2, h2]; rfl, by simp [PyData.canLayAll0, k3, h3], by simp only [PyData.depthAll]; omega, fun p hp => ?_⟩
      rcases List.mem_cons.mp hp with rfl | hp
      · exact k5
      · exact h5 p hp
  obtain ⟨ps, h1, h2, h3, h4, h5⟩ := pv es
  have h0 : pdM m .non = some .none := pdM_pure rfl rfl rfl
  have hl : pdM m (.lst (es.map Ev.d)) = some (.list ps) := by
    have hd : (PyData.list ps).depth ≤ 64 := by simp only [PyData.depth]; omega
    exact pdM_pure h2 (by rw [pd, h1]; rfl) (by simp [SeqAt.shaped, PyData.canLay0, h3, hd])
  have e : inAB m .non (.lst (es.map Ev.d)) = some false := by
    show inB m .non (.lst (es.map Ev.d)) = _
    show (match pdM m .non, pdM m (.lst (es.map Ev.d)) with
      | some a, some (.tuple ds) => some (ds.any fun z => PyData.eqv z a)
      | some a, some (.list ds) => some (ds.any fun z => PyData.eqv z a)
      | _, _ => none) = _
    rw [hl, h0]
    show some (ps.any fun z => PyData.eqv z .none) = _
    congr 1
    exact List.any_eq_false.mpr fun p hp => by rw [h5 p hp]; decide
  unfold inA
  rw [e]
  rfl
theorem evts_pure (es : List Ev) : pureL (es.map fun e => D.str e.t) = true := pureL_map (fun _ => rfl) es
def Sqe (x : D) (es : List Ev) : Prop := x = .lst (es.map fun e => D.str e.t) ∨ x = .tup (es.map fun e => D.str e.t)
theorem sqe_pure {x : D} (h : Sqe x es) : pureD x = true := by rcases h with rfl | rfl <;> exact evts_pure es
theorem isseq_ok {x : D} (h : Sqe x es) : F_is_sequence [x] = some (.bl true) := by rcases h with rfl | rfl <;> kernel_rfl
theorem pl_evof {x : Str} {a b : Int} : pureL [.str x, .int a, .int b] = true := rfl
theorem put_r1 {a : D} : putD "told_events" a ([] : List Str) [] = ((["told_events"] : List Str), [a]) := by kernel_rfl
theorem put_r2 {a b : D} : putD "callers" b (["told_events"] : List Str) [a] = ((["told_events", "callers"] : List Str), [a, b]) := by kernel_rfl
theorem put_r3 {a b c : D} : putD "servers" c (["told_events", "callers"] : List Str) [a, b] = ((["told_events", "callers", "servers"] : List Str), [a, b, c]) := by kernel_rfl
theorem put_r4 {a b c d : D} : putD "events" d (["told_events", "callers", "servers"] : List Str) [a, b, c] = (rdNames, [a, b, c, d]) := by kernel_rfl
theorem evd_pure (es : List Ev) : pureL (es.map Ev.d) = true := pureL_map (fun e => by cases e <;> rfl) es
theorem isfrom1 {n : Nat} (h : 1 ≤ n) : F_is_from [.int (n : Nat), .int 1] = some (.bl true) := by
  rw [isfrom_ok]
  rw [decide_eq_true (by omega)]
theorem evsof_w {x : D} (hx : Sqe x es) (hin : ∀ e ∈ es, e.In nc ns) (hc : nc ≤ 100) (hs : ns ≤ 100) (hl : es.length ≤ 100000) : F_events_of [x, .int (nc : Nat), .int (ns : Nat)] = some (.tup (es.map Ev.d)) := by
  refine WS.runP (n := 5) (b := f_events_of) ?_ rfl
  show WS _ [some x, some (.int (nc : Nat)), some (.int (ns : Nat)), none, none] [] _
  trivial
  refine WE.lcMw (nw := false) (fun e : Ev => .str e.t) Ev.d (xs := es) ?_ (by omega) (fun e he => ?_) ?_
  · refine WI.it ?_
    trivial
    rcases hx with rfl | rfl
    · trivial
      exact ⟨rfl, rfl⟩
    · trivial
      exact ⟨rfl, rfl⟩
  · trivial
    refine Kn.call pl_evof (evof_w (hin e he) hc hs) ?_
    exact ⟨rfl, rfl⟩
  dsimp only [cond_false]
  trivial
  unfold f_events_of_1
  trivial
  refine Kn.mk (in_nonEv es) ?_
  trivial
  exact frz_pW (evd_pure es)
theorem road_new {x : D} (hx : Sqe x es) (h1 : 1 ≤ nc) (h2 : 1 ≤ ns) (hin : ∀ e ∈ es, e.In nc ns) (hc : nc ≤ 100) (hs : ns ≤ 100) (hl : es.length ≤ 100000) : newP "Road" F_Road___init__ [.int (nc : Nat), .int (ns : Nat), x] = some (roadD nc ns es (es.map fun e => D.str e.t)) := by
  obtain ⟨d, m', e, rfl, em⟩ : Wr (F_Road___init__ [.ref 0, .int (nc : Nat), .int (ns : Nat), x] [.ins "Road" [] []]) fun d m' => d = .non ∧ m' = [.ins "Road" rdNames [.tup (es.map Ev.d), .int (nc : Nat), .int (ns : Nat), .tup (es.map fun e => D.str e.t)]] := by
    refine WS.runM (n := 4) (b := f_Road___init__) ?_ rfl
    show WS _ [some (.ref 0), some (.int (nc : Nat)), some (.int (ns : Nat)), some x] _ _
    have hp := sqe_pure hx
    have c1 := rd_c1
    trivial
    refine Kn.call rfl (isfrom1 h1) ?_
    trivial
    refine Kn.call rfl (isfrom1 h2) ?_
    trivial
    first | refine Kn.call (by simp [pureL, hp]) (isseq_ok hx) ?_ | refine Kn.callKw (by simp [pureL, hp]) (isseq_ok hx) ?_
    trivial
    unfold f_Road___init___4
    refine WS.seq (WS.fldMw ?_)
    trivial
    first | refine Kn.call (by simp [pureL, hp, pureD]) (evsof_w hx hin hc hs hl) ?_ | refine Kn.callKw (by simp [pureL, hp, pureD]) (evsof_w hx hin hc hs hl) ?_
    trivial
    refine ⟨0, "Road", [], [], _, _, rfl, rfl, c1, by decide, put_r1, ?_⟩
    refine WS.nx (WS.seq (WS.fldMw ?_))
    trivial
    refine ⟨0, "Road", _, _, _, _, rfl, rfl, c1, by show 1 < 1000; decide, put_r2, ?_⟩
    refine WS.nx (WS.seq (WS.fldMw ?_))
    trivial
    refine ⟨0, "Road", _, _, _, _, rfl, rfl, c1, by show 2 < 1000; decide, put_r3, ?_⟩
    refine WS.nx ?_
    unfold f_Road___init___1
    refine WS.fldMw ?_
    rcases hx with rfl | rfl
    · trivial
      refine ⟨0, "Road", _, _, _, _, rfl, rfl, c1, by show 3 < 1000; decide, put_r4, ?_⟩
      exact .inr ⟨_, rfl, rfl, rfl⟩
    · trivial
      refine ⟨0, "Road", _, _, _, _, rfl, rfl, c1, by show 3 < 1000; decide, put_r4, ?_⟩
      exact .inr ⟨_, rfl, rfl, rfl⟩
  unfold newP
  rw [e]
  subst em
  show frz _ (.ref 0) = _
  unfold frz
  rw [if_neg (by simp [pureD])]
  have e1 : mapO (frzGo [.ins "Road" rdNames [.tup (es.map Ev.d), .int (nc : Nat), .int (ns : Nat), .tup (es.map fun e => D.str e.t)]] 39) [.tup (es.map Ev.d), .int (nc : Nat), .int (ns : Nat), .tup (es.map fun e => D.str e.t)] = some [.tup (es.map Ev.d), .int (nc : Nat), .int (ns : Nat), .tup (es.map fun e => D.str e.t)] := by
    refine mapO_self fun d hd => ?_
    simp only [List.mem_cons, List.not_mem_nil, or_false] at hd
    rcases hd with rfl | rfl | rfl | rfl
    · refine frz_tupE fun x hx => ?_
      obtain ⟨e, _, rfl⟩ := List.mem_map.mp hx
      cases e <;> rfl
    · rfl
    · rfl
    · refine frz_tupE fun x hx => ?_
      obtain ⟨e, _, rfl⟩ := List.mem_map.mp hx
      rfl
  show (mapO (frzGo _ 39) _).map (D.obj "Road" rdNames) = _
  rw [e1]
  rfl
end
end L4
namespace L4
open PySem
section
variable {m : M} {r : Ru} {Q : D → Prop}
theorem lim_up {t u n : Nat} (hu : 1 ≤ u) (ht : t ≤ u) : limN t u true n ≤ n := by
  unfold limN
  rw [if_pos rfl]
  have : n * t + (u - 1) < u * (n + 1) := by
    have h1 : n * t ≤ n * u := Nat.mul_le_mul_left _ ht
    have h2 : u * (n + 1) = n * u + u := by rw [Nat.mul_add, Nat.mul_one, Nat.mul_comm]
    omega
  have := (Nat.div_lt_iff_lt_mul (by omega)).mpr (by rw [Nat.mul_comm (n + 1)]; exact this : n * t + (u - 1) < (n + 1) * u)
  omega
theorem lim_dn {t u n : Nat} (hu : 1 ≤ u) (ht : t ≤ u) : limN t u false n ≤ n := by
  unfold limN
  rw [if_neg (by decide), Nat.add_zero]
  have h1 : n * t ≤ n * u := Nat.mul_le_mul_left _ ht
  exact Nat.div_le_of_le_mul (by rw [Nat.mul_comm u n]; exact h1)
theorem rng_at {i n : Nat} {a : Int} {x : D} (h : (rngD a n)[i]? = some x) : i < n ∧ x = .int (a + i) := by
  unfold rngD at h
  rw [List.getElem?_map] at h
  obtain ⟨j, h1, rfl⟩ := Option.map_eq_some_iff.mp h
  have h2 : i < n := by
    have := (List.getElem?_eq_some_iff.mp h1).1
    simpa using this
  rw [List.getElem?_range h2] at h1
  cases h1
  exact ⟨h2, rfl⟩
theorem lim_nat (h : Sh r) (n : Nat) : ((limN r.top.toNat r.under.toNat r.up n : Nat) : Int) = r.lim (n : Nat) := by
  have e1 := h.t
  have e2 := h.u
  have u1 := h.u1
  unfold limN Ru.lim
  rw [Int.natCast_ediv, e2]
  congr 1
  cases r.up
  · simp [e1]
  · have e3 : ((r.under.toNat - 1 : Nat) : Int) = r.under - 1 := by omega
    simp only [if_true]
    rw [Int.natCast_add, Int.natCast_mul, e1, e3]
end
end L4
namespace L4
open PySem
section
variable {r : Ru} {most : Int} {w : Wo} {nc n s : Nat} {c : Ca} {e : Ev} {B : List Sd}
/-- a window that ends with faults -/
theorem cut_suf {v : List Bool} {i : Nat} (h : ((i + 1 : Nat) : Int) ≤ r.of) : ∃ v', r.cut (v ++ List.replicate i true) true = v' ++ List.replicate (i + 1) true := by
  refine ⟨v.drop ((v.length + (i + 1)) - r.of.toNat), ?_⟩
  unfold Ru.cut cutD
  rw [List.append_assoc, ← List.replicate_succ']
  have hl : (v ++ List.replicate (i + 1) true).length = v.length + (i + 1) := by simp
  have e0 : HT.sIx (v ++ List.replicate (i + 1) true).length 0 (some (-r.of)) = (v.length + (i + 1)) - r.of.toNat := by
    unfold HT.sIx
    rw [hl]
    dsimp only
    repeat' split
    all_goals omega
  have e1 : HT.sIx (v ++ List.replicate (i + 1) true).length (v ++ List.replicate (i + 1) true).length none = v.length + (i + 1) := by
    rw [hl]
    rfl
  rw [e0, e1, List.drop_append]
  have h2 : v.length + (i + 1) - r.of.toNat - v.length = 0 := by omega
  rw [h2, List.drop_zero, List.take_of_length_le]
  rw [List.length_append, List.length_drop, List.length_replicate]
  omega
theorem nTrue_suf (v : List Bool) (i : Nat) : ((i : Nat) : Int) ≤ nTrue (v ++ List.replicate i true) := by
  unfold nTrue
  rw [List.filter_append, List.filter_replicate]
  simp
  omega
/-- behind so many faults in a row: still in, or out -/
theorem fault_room {v : List Bool} {i : Nat} {t : Int} (ho : r.Ok) (hi : ((i : Nat) : Int) < r.need) : (∃ v', (r.afterFault (v ++ List.replicate i true) t true).1 = .inn (v' ++ List.replicate (i + 1) true) t 0 ∧ ((i + 1 : Nat) : Int) < r.need) ∨ (r.afterFault (v ++ List.replicate i true) t true).1 = r.leftOut t := by
  have h2 := ho.n2
  obtain ⟨v', e⟩ := cut_suf (r := r) (v := v) (i := i) (by omega)
  have h3 := nTrue_suf v' (i + 1)
  unfold Ru.afterFault Ru.atTry
  rw [e]
  by_cases h : nTrue (v' ++ List.replicate (i + 1) true) < r.need
  · rw [if_pos h]
    exact .inl ⟨v', rfl, by omega⟩
  · rw [if_neg h]
    exact .inr rfl
/-- no room: kept at the last one that is needed -/
theorem fault_full {i : Nat} {t c : Int} (ho : r.Ok) (hi : ((i : Nat) : Int) < r.need) : r.afterTurn (.inn (List.replicate i true) t c) true false = (.inn (List.replicate (i + 1) true) t 0, .felt, decide (((i + 1 : Nat) : Int) = r.need)) := by
  have h2 := ho.n2
  have e : r.cut (List.replicate i true) true = List.replicate (i + 1) true := by
    unfold Ru.cut cutD
    rw [← List.replicate_succ']
    have e0 : HT.sIx (List.replicate (i + 1) true).length 0 (some (-r.of)) = 0 := by
      unfold HT.sIx
      rw [List.length_replicate]
      dsimp only
      repeat' split
      all_goals omega
    have e1 : HT.sIx (List.replicate (i + 1) true).length (List.replicate (i + 1) true).length none = i + 1 := by
      rw [List.length_replicate]
      rfl
    rw [e0, e1, List.drop_zero]
    simp
  have e3 : nTrue (List.replicate (i + 1) true) = ((i + 1 : Nat) : Int) := by
    unfold nTrue
    rw [List.filter_replicate]
    simp
  show ((r.afterFault (List.replicate i true) t false).1, Wh.felt, (r.afterFault (List.replicate i true) t false).2) = _
  unfold Ru.afterFault Ru.atTry
  rw [e, e3]
  by_cases h : ((i + 1 : Nat) : Int) < r.need
  · rw [if_pos h, decide_eq_false (by omega)]
  · rw [if_neg h, decide_eq_true (by omega)]
    rfl
/-- the first servers are out or on trial, the others as at first -/
def RowB (n s : Nat) (B : List Sd) : Prop := B.length = n ∧ ∀ i, i < n → if i < s then (B.getD i begun).isIn = false else B.getD i begun = begun
theorem outs_row : ∀ (B : List Sd) (s : Nat), s ≤ B.length → (∀ i, i < B.length → if i < s then (B.getD i begun).isIn = false else B.getD i begun = begun) → (B.filter fun x => !x.isIn).length = s
  | [], s, h, _ => by
    have : s = 0 := by simpa using h
    rw [this]
    rfl
  | x :: B, 0, _, h => by
    have h0 := h 0 (by simp)
    rw [if_neg (by omega)] at h0
    have hx : x = begun := h0
    have ih := outs_row B 0 (Nat.zero_le _) fun i hi => by
      have := h (i + 1) (by simp; omega)
      rw [if_neg (by omega)] at this
      rw [if_neg (by omega)]
      exact this
    rw [List.filter_cons, hx]
    exact ih
  | x :: B, s + 1, hs, h => by
    have h0 := h 0 (by simp)
    rw [if_pos (by omega)] at h0
    have hx : x.isIn = false := h0
    have ih := outs_row B s (by simpa using hs) fun i hi => by
      have := h (i + 1) (by simp; omega)
      by_cases his : i < s
      · rw [if_pos (by omega)] at this
        rw [if_pos his]
        exact this
      · rw [if_neg (by omega)] at this
        rw [if_neg his]
        exact this
    rw [List.filter_cons, hx]
    show _ + 1 = _
    rw [ih]
theorem RowB.outs (h : RowB n s c.st) (hs : s ≤ n) : c.outs = s := outs_row c.st s (by rw [h.1]; exact hs) (by rw [h.1]; exact h.2)
theorem getD_setB {l : List Sd} {i j : Nat} {x : Sd} (hi : i < l.length) : (l.set i x).getD j begun = if i = j then x else l.getD j begun := by
  rw [List.getD_eq_getElem?_getD, List.getD_eq_getElem?_getD, List.getElem?_set]
  by_cases h : i = j
  · subst h; rw [if_pos rfl, if_pos hi, if_pos rfl]; rfl
  · rw [if_neg h, if_neg h]
/-- one more is out -/
theorem RowB.more (h : RowB n s B) (hs : s < n) {x : Sd} (hx : x.isIn = false) : RowB n (s + 1) (B.set s x) := by
  refine ⟨by rw [List.length_set]; exact h.1, fun i hi => ?_⟩
  rw [getD_setB (by rw [h.1]; exact hs)]
  by_cases e : s = i
  · rw [if_pos e, if_pos (by omega)]; exact hx
  · rw [if_neg e]
    have := h.2 i hi
    by_cases hl : i < s
    · rw [if_pos hl] at this
      rw [if_pos (by omega)]; exact this
    · rw [if_neg hl] at this
      rw [if_neg (by omega)]; exact this
/-- one that is out or on trial is so still -/
theorem RowB.same (h : RowB n s B) {i : Nat} (hi : i < s) (hs : s ≤ n) {x : Sd} (hx : x.isIn = false) : RowB n s (B.set i x) := by
  refine ⟨by rw [List.length_set]; exact h.1, fun j hj => ?_⟩
  have hin : i < n := by omega
  rw [getD_setB (by rw [h.1]; exact hin)]
  by_cases e : i = j
  · subst e
    rw [if_pos rfl, if_pos hi]; exact hx
  · rw [if_neg e]; exact h.2 j hj
theorem rowB_0 : RowB n 0 (List.replicate n begun) := ⟨List.length_replicate .., fun i hi => by
  rw [if_neg (by omega), List.getD_eq_getElem?_getD, List.getElem?_replicate, if_pos hi]; rfl⟩
theorem goals_eq : r.goals most w e = ((w.at_ e.c).put e.s (r.hap most w e).1 (r.hap most w e).2.1).goals e.s (r.hap most w e).2.2 := rfl
theorem goal_all {c : Ca} {s : Nat} {k : Bool} (h : c.st.all Sd.isOut = true) : Go.all ∈ c.goals s k := by
  unfold Ca.goals
  rw [h]
  simp
theorem goal_kept {c : Ca} {s : Nat} : Go.kept ∈ c.goals s true := by
  unfold Ca.goals
  simp
theorem goal_swap {c : Ca} {s : Nat} (h : c.better s = true) : Go.swap ∈ c.goals s true := by
  unfold Ca.goals
  rw [h]
  simp
theorem mem_spots {s : Nat} : ∀ (i : Nat) (B : List Sd) (j : Nat) (x : Sd), B[j]? = some x → x.isIn = false → i + j ≠ s → i + j ∈ spots s i B
  | _, [], _, _, h, _, _ => nomatch h
  | i, y :: B, 0, x, h, hx, hn => by
    cases h
    unfold spots
    rw [hx, show (i == s) = false from beq_eq_false_iff_ne.mpr hn]
    simp
  | i, y :: B, j + 1, x, h, hx, hn => by
    have := mem_spots (s := s) (i + 1) B j x h hx (by omega)
    unfold spots
    rw [show i + (j + 1) = i + 1 + j by omega]
    exact List.mem_append_right _ this
theorem better_of {c : Ca} {s j : Nat} {x : Sd} (h : c.st[j]? = some x) (hx : x.isIn = false) (hj : j ≠ s) (hl : c.la.getD j Str.empty = ("missed" : Str)) : c.better s = true := by
  unfold Ca.better
  refine List.any_eq_true.mpr ⟨j, ?_, decide_eq_true hl⟩
  have := mem_spots (s := s) 0 c.st j x h hx (by omega)
  rwa [Nat.zero_add] at this
end
end L4
namespace L4
open PySem
section
variable {m : M} {ρ : Ss} {r q : Ru}
/-- parts of an f-string, one after another -/
inductive JW (ρ : Ss) (m : M) : List EF → List Str → Prop where
  | nil : JW ρ m [] []
  | cons {f : EF} {w : Str} {fs : List EF} {ws : List Str} (h : f ρ m = some (.str w, m)) (t : JW ρ m fs ws) : JW ρ m (f :: fs) (w :: ws)
def lsum (ws : List Str) : Nat := (ws.map fun w => w.cps.toList.length).sum
theorem join_all {fs : List EF} {ws : List Str} (h : JW ρ m fs ws) : ∀ acc : Str, acc.cps.toList.length + lsum ws ≤ 1000 → joinF fs acc ρ m = some (.str (ws.foldl catS acc), m) := by
  induction h with
  | nil => exact fun acc _ => rfl
  | @cons f w fs ws h t ih =>
    intro acc hl
    have e : (catS acc w).cps.toList.length = acc.cps.toList.length + w.cps.toList.length := by rw [catS_l, List.length_append]
    have hs : lsum (w :: ws) = w.cps.toList.length + lsum ws := rfl
    show bd (f ρ m) _ = _
    rw [h]
    show (if (catS acc w).length ≤ sizeLine then joinF fs (catS acc w) ρ m else none) = _
    rw [if_pos (wsz (by rw [slen]; omega))]
    exact ih (catS acc w) (by omega)
theorem fmt_n {e : EF} {i : Int} (h : e ρ m = some (.int i, m)) (h0 : 0 ≤ i ∧ i < 100) : eFmt e ρ m = some (.str (nS i), m) := by
  have hz : i.natAbs.log2 < 1920 := by
    have : i.natAbs.log2 ≤ i.natAbs := Nat.log2_le_self _
    omega
  have e1 : fmtD (.int i) = some (nS i) := if_pos hz
  unfold eFmt
  rw [h]
  show pu ((fmtD (.int i)).map D.str) m = _
  rw [e1]
  rfl
local macro_rules | `(tactic| fail) => `(tactic| (first | ((with_reducible refine w_and_t ?_ ?_); exact rfl) | ((with_reducible refine w_and_f ?_ ?_); exact rfl) | ((with_reducible refine w_or_t ?_ ?_); exact rfl) | ((with_reducible refine w_or_f ?_ ?_); exact rfl) | ((with_reducible refine Kn.fdiv ?_ ?_); exact ⟨by decide, by decide⟩) | ((with_reducible refine Kn.mod ?_ ?_); decide) | ((with_reducible refine And.intro (a := (_ && _) = true) ?_ ?_); exact rfl) | ((with_reducible refine And.intro (a := List.length _ = List.length _) ?_ ?_); exact rfl; dsimp only [setMany, List.set_cons_succ, List.set_cons_zero]) | ((with_reducible refine ⟨wsz ?_, ?_⟩); first | decide | (show (_ : Nat) ≤ 1000; simp only [List.length_cons, List.length_nil]; decide)) | with_reducible refine ⟨_, rfl, ?_⟩))
local macro_rules | `(tactic| fail) => `(tactic| (first | ((with_reducible refine WG.nm ?_); dsimp only [setMany, List.set_cons_succ, List.set_cons_zero]) | ((with_reducible refine WG.one ?_); dsimp only [setMany, List.set_cons_succ, List.set_cons_zero]) | ((with_reducible refine WG.tup ?_ ?_); exact rfl; dsimp only [setMany, List.set_cons_succ, List.set_cons_zero]) | ((with_reducible apply WE.var); exact rfl) | ((with_reducible apply WE.upP); exact rfl) | ((with_reducible apply WE.upT); exact rfl) | ((with_reducible apply WE.upL); exact rfl) | ((with_reducible apply WE.upN); exact rfl) | ((with_reducible apply WS.aug); exact rfl) | ((with_reducible apply WE.newPL); exact rfl) | ((with_reducible refine WS.ite_t ?_ ?_); exact rfl) | ((with_reducible refine WS.ite_f ?_ ?_); exact rfl) | ((with_reducible refine WE.ite_t ?_ ?_); exact rfl) | ((with_reducible refine WE.ite_f ?_ ?_); exact rfl)))
local macro_rules | `(tactic| fail) => `(tactic| with_reducible (first | refine Kn.it_l ?_ | refine Kn.it_s ?_ | refine Kn.str_s ?_ | refine Kn.sl_t ?_ | refine Kn.sl_l ?_ | refine Kn.kx_need ?_ | refine Kn.kx_of ?_ | refine Kn.kx_base ?_ | refine Kn.kx_more ?_ | refine Kn.kx_most ?_ | refine Kn.kx_calm ?_ | refine Kn.kx_back ?_ | refine Kn.kx_under ?_ | refine Kn.kx_top ?_ | refine Kn.kx_up ?_ | refine Kn.kx_hears ?_ | refine Fld.need ?_ | refine Fld.of ?_ | refine Fld.base ?_ | refine Fld.more ?_ | refine Fld.most ?_ | refine Fld.calm ?_ | refine Fld.back ?_ | refine Fld.top ?_ | refine Fld.under ?_ | refine Fld.up ?_ | refine Fld.hears ?_ | refine Fld.cap ?_ | refine Mth.time ?_))
local macro_rules | `(tactic| fail) => `(tactic| with_reducible (first | refine WE.tupL ?_ | refine WE.dicP ?_ | refine WP.nil ?_ | refine WP.cons ?_ | refine WE.upd ?_ | refine WA.nil ?_ | refine WA.cons ?_ | refine WA.star ?_ | refine WO.no ?_ | refine WO.yes ?_ | refine WT.val ?_ | refine WT.and ?_ | refine WT.or ?_ | refine WT.not ?_ | refine WT.tt ?_ | refine WI.it ?_ | refine Kn.add_i ?_ | refine Kn.sub ?_ | refine Kn.neg ?_ | refine Kn.eq_i ?_ | refine Kn.ne_i ?_ | refine Kn.lt ?_ | refine Kn.le ?_ | refine Kn.gt ?_ | refine Kn.ge ?_ | refine Kn.int_i ?_ | refine Kn.int_b ?_ | refine Kn.abs ?_ | refine Kn.min2 ?_ | refine Kn.max2 ?_ | refine Kn.len_t ?_ | refine Kn.len_l ?_ | refine Kn.len_s ?_ | refine Kn.tup_t ?_ | refine Kn.tup_l ?_ | refine Kn.lis_t ?_ | refine Kn.lis_l ?_ | refine Kn.seq_t ?_ | refine Kn.seq_l ?_ | refine Kn.it_t ?_))
local macro_rules | `(tactic| fail) => `(tactic| with_reducible (first | refine WS.seq ?_ | refine WS.nx ?_ | refine WS.rt ?_ | refine WS.asg ?_ | refine WS.drop ?_ | refine WS.ret ?_ | refine WS.nop ?_ | refine WS.retN ?_ | refine WS.brk ?_ | refine WS.cont ?_ | refine WS.sif ?_ | refine WS.par ?_ | refine WG.setA ?_ | refine WE.c ?_ | refine WE.op ?_ | refine WE.call ?_ | refine WE.callM ?_ | refine WE.un ?_ | refine WE.tup ?_ | refine WE.lst ?_ | refine WE.newL ?_ | refine WE.eif ?_ | refine WE.sl ?_ | refine WE.isN ?_ | refine WE.notN ?_ | refine WE.not ?_ | refine WE.and ?_ | refine WE.or ?_ | refine WE.app ?_ | refine WE.tupR ?_ | refine WE.lisR ?_ | refine WE.m1 ?_ | refine WE.tbl ?_ | refine WE.tblNin ?_ | refine WE.chain ?_ | refine WE.fldF ?_ | refine WE.mth ?_ | refine WE.disp ?_ | refine WE.dicC ?_ | refine WE.tupA ?_))
local macro_rules | `(tactic| trivial) => `(tactic| (repeat fail))
end
section
variable {m : M} {r q : Ru}
local macro_rules | `(tactic| fail) => `(tactic| (first | ((with_reducible refine w_and_t ?_ ?_); exact rfl) | ((with_reducible refine w_and_f ?_ ?_); exact rfl) | ((with_reducible refine w_or_t ?_ ?_); exact rfl) | ((with_reducible refine w_or_f ?_ ?_); exact rfl) | ((with_reducible refine Kn.fdiv ?_ ?_); exact ⟨by decide, by decide⟩) | ((with_reducible refine Kn.mod ?_ ?_); decide) | ((with_reducible refine And.intro (a := (_ && _) = true) ?_ ?_); exact rfl) | ((with_reducible refine And.intro (a := List.length _ = List.length _) ?_ ?_); exact rfl; dsimp only [setMany, List.set_cons_succ, List.set_cons_zero]) | ((with_reducible refine ⟨wsz ?_, ?_⟩); first | decide | (show (_ : Nat) ≤ 1000; simp only [List.length_cons, List.length_nil]; decide)) | with_reducible refine ⟨_, rfl, ?_⟩))
local macro_rules | `(tactic| fail) => `(tactic| (first | ((with_reducible refine WG.nm ?_); dsimp only [setMany, List.set_cons_succ, List.set_cons_zero]) | ((with_reducible refine WG.one ?_); dsimp only [setMany, List.set_cons_succ, List.set_cons_zero]) | ((with_reducible refine WG.tup ?_ ?_); exact rfl; dsimp only [setMany, List.set_cons_succ, List.set_cons_zero]) | ((with_reducible apply WE.var); exact rfl) | ((with_reducible apply WE.upP); exact rfl) | ((with_reducible apply WE.upT); exact rfl) | ((with_reducible apply WE.upL); exact rfl) | ((with_reducible apply WE.upN); exact rfl) | ((with_reducible apply WS.aug); exact rfl) | ((with_reducible apply WE.newPL); exact rfl) | ((with_reducible refine WS.ite_t ?_ ?_); exact rfl) | ((with_reducible refine WS.ite_f ?_ ?_); exact rfl) | ((with_reducible refine WE.ite_t ?_ ?_); exact rfl) | ((with_reducible refine WE.ite_f ?_ ?_); exact rfl)))
local macro_rules | `(tactic| fail) => `(tactic| with_reducible (first | refine Kn.it_l ?_ | refine Kn.it_s ?_ | refine Kn.str_s ?_ | refine Kn.sl_t ?_ | refine Kn.sl_l ?_ | refine Kn.kx_need ?_ | refine Kn.kx_of ?_ | refine Kn.kx_base ?_ | refine Kn.kx_more ?_ | refine Kn.kx_most ?_ | refine Kn.kx_calm ?_ | refine Kn.kx_back ?_ | refine Kn.kx_under ?_ | refine Kn.kx_top ?_ | refine Kn.kx_up ?_ | refine Kn.kx_hears ?_ | refine Fld.need ?_ | refine Fld.of ?_ | refine Fld.base ?_ | refine Fld.more ?_ | refine Fld.most ?_ | refine Fld.calm ?_ | refine Fld.back ?_ | refine Fld.top ?_ | refine Fld.under ?_ | refine Fld.up ?_ | refine Fld.hears ?_ | refine Fld.cap ?_ | refine Mth.time ?_))
local macro_rules | `(tactic| fail) => `(tactic| with_reducible (first | refine WE.tupL ?_ | refine WE.dicP ?_ | refine WP.nil ?_ | refine WP.cons ?_ | refine WE.upd ?_ | refine WA.nil ?_ | refine WA.cons ?_ | refine WA.star ?_ | refine WO.no ?_ | refine WO.yes ?_ | refine WT.val ?_ | refine WT.and ?_ | refine WT.or ?_ | refine WT.not ?_ | refine WT.tt ?_ | refine WI.it ?_ | refine Kn.add_i ?_ | refine Kn.sub ?_ | refine Kn.neg ?_ | refine Kn.eq_i ?_ | refine Kn.ne_i ?_ | refine Kn.lt ?_ | refine Kn.le ?_ | refine Kn.gt ?_ | refine Kn.ge ?_ | refine Kn.int_i ?_ | refine Kn.int_b ?_ | refine Kn.abs ?_ | refine Kn.min2 ?_ | refine Kn.max2 ?_ | refine Kn.len_t ?_ | refine Kn.len_l ?_ | refine Kn.len_s ?_ | refine Kn.tup_t ?_ | refine Kn.tup_l ?_ | refine Kn.lis_t ?_ | refine Kn.lis_l ?_ | refine Kn.seq_t ?_ | refine Kn.seq_l ?_ | refine Kn.it_t ?_))
local macro_rules | `(tactic| fail) => `(tactic| with_reducible (first | refine WS.seq ?_ | refine WS.nx ?_ | refine WS.rt ?_ | refine WS.asg ?_ | refine WS.drop ?_ | refine WS.ret ?_ | refine WS.nop ?_ | refine WS.retN ?_ | refine WS.brk ?_ | refine WS.cont ?_ | refine WS.sif ?_ | refine WS.par ?_ | refine WG.setA ?_ | refine WE.c ?_ | refine WE.op ?_ | refine WE.call ?_ | refine WE.callM ?_ | refine WE.un ?_ | refine WE.tup ?_ | refine WE.lst ?_ | refine WE.newL ?_ | refine WE.eif ?_ | refine WE.sl ?_ | refine WE.isN ?_ | refine WE.notN ?_ | refine WE.not ?_ | refine WE.and ?_ | refine WE.or ?_ | refine WE.app ?_ | refine WE.tupR ?_ | refine WE.lisR ?_ | refine WE.m1 ?_ | refine WE.tbl ?_ | refine WE.tblNin ?_ | refine WE.chain ?_ | refine WE.fldF ?_ | refine WE.mth ?_ | refine WE.disp ?_ | refine WE.dicC ?_ | refine WE.tupA ?_))
local macro_rules | `(tactic| trivial) => `(tactic| (repeat fail))
end
end L4
namespace L4
open PySem
section
variable {m m' : M} {ρ : Ss} {r : Ru} {most : Int} {w : Wo} {nc n s k a b : Nat} {es : List Ev} {e : Ev} {Q : D → M → Prop}
/-- the world behind events -/
def WoB (r : Ru) (nc n : Nat) (es : List Ev) : Wo := (r.go (r.lim (n : Nat)) 0 (wo0 nc n) es).1
theorem go_snoc (e : Ev) : ∀ (es : List Ev) (i : Nat) (w : Wo), (r.go most i w (es ++ [e])).1 = r.nxt most (r.go most i w es).1 e
  | [], _, _ => rfl
  | x :: es, i, w => go_snoc e es (i + 1) (r.nxt most w x)
theorem wb_snoc : WoB r nc n (es ++ [e]) = r.nxt (r.lim (n : Nat)) (WoB r nc n es) e := go_snoc e es 0 _
theorem poss_snoc (e : Ev) : ∀ (es : List Ev) (i : Nat) (w : Wo), r.poss most w (es ++ [e]) ↔ r.poss most w es ∧ (r.go most i w es).1.can e
  | [], _, w => ⟨fun h => ⟨trivial, h.1⟩, fun h => ⟨h.2, trivial⟩⟩
  | x :: es, i, w => by
    have := poss_snoc e es (i + 1) (r.nxt most w x)
    exact ⟨fun h => ⟨⟨h.1, (this.mp h.2).1⟩, (this.mp h.2).2⟩, fun h => ⟨h.1.1, this.mpr ⟨h.1.2, h.2⟩⟩⟩
theorem go_okB (h : r.Ok) : ∀ (es : List Ev) (w : Wo) (i : Nat), w.Ok r nc n → (∀ e ∈ es, e.In nc n) → (r.go most i w es).1.Ok r nc n
  | [], _, _, W, _ => W
  | e :: es, w, i, W, hi => go_okB h es _ (i + 1) (nxt_ok h W (hi e (by simp))) fun y hy => hi y (by simp [hy])
/-- rows of events that are possible -/
structure Bv (r : Ru) (nc n : Nat) (es : List Ev) : Prop where
  mem : ∀ e ∈ es, e.In nc n
  po : r.poss (r.lim (n : Nat)) (wo0 nc n) es
theorem Bv.nil : Bv r nc n [] := ⟨(fun e he => nomatch he), trivial⟩
theorem Bv.ok (h : Bv r nc n es) (ho : r.Ok) : (WoB r nc n es).Ok r nc n := go_okB ho es _ 0 (wo0_ok ho) h.mem
theorem Bv.snoc (h : Bv r nc n es) (he : e.In nc n) (hc : (WoB r nc n es).can e) : Bv r nc n (es ++ [e]) := ⟨fun x hx => (List.mem_append.mp hx).elim (h.mem x) fun hx => by rw [List.mem_singleton.mp hx]; exact he, (poss_snoc e es 0 _).mpr ⟨h.po, hc⟩⟩
/-- the first caller -/
def C0 (r : Ru) (nc n : Nat) (es : List Ev) : Ca := (WoB r nc n es).at_ 0
theorem Bv.ca (h : Bv r nc n es) (ho : r.Ok) (hn : 1 ≤ nc) : (C0 r nc n es).Ok r n := (h.ok ho).at_ hn
theorem c0_turn (h : Bv r nc n es) (ho : r.Ok) (hn : 1 ≤ nc) (hs : s < n) (f : Bool) : C0 r nc n (es ++ [.turn 0 s f]) = (C0 r nc n es).put s (r.afterTurn ((C0 r nc n es).st.getD s begun) f (decide (((C0 r nc n es).outs : Int) < r.lim (n : Nat)))).1 (some (r.afterTurn ((C0 r nc n es).st.getD s begun) f (decide (((C0 r nc n es).outs : Int) < r.lim (n : Nat)))).2.1) := by
  unfold C0
  rw [wb_snoc, nxt_at (h.ok ho) (e := .turn 0 s f) ⟨hn, hs⟩ 0]
  exact if_pos rfl
theorem c0_told (h : Bv r nc n es) (ho : r.Ok) (hn : 2 ≤ nc) (hs : s < n) : C0 r nc n (es ++ [.told 0 1 s]) = (C0 r nc n es).put s (r.afterWord ((C0 r nc n es).st.getD s begun) (decide (((C0 r nc n es).outs : Int) < r.lim (n : Nat)))).1 none := by
  unfold C0
  rw [wb_snoc, nxt_at (h.ok ho) (e := .told 0 1 s) ⟨by show 0 < nc; omega, by show 1 < nc; omega, hs, by decide⟩ 0]
  exact if_pos rfl
def tsL (es : List Ev) : List D := es.map fun e => D.str e.t
def bdNames : List Str := ["by", "now", "events"]
/-- a builder lies at k, its lists at a and b -/
structure Bd (r : Ru) (nc n k a b : Nat) (es : List Ev) (m : M) : Prop where
  o : m[k]? = some (.ins "Builder" bdNames [r.d, .ref a, .ref b])
  A : m[a]? = some (.lst ((C0 r nc n es).st.map Sd.d))
  E : m[b]? = some (.lst (tsL es))
  ab : a ≠ b
  ka : k ≠ a
  kb : k ≠ b
  v : Bv r nc n es
theorem bd_c1 : (["Builder"] : List Str).contains "Builder" = true := by decide +kernel
theorem bd_f1 {x y z : D} : fldAt bdNames [x, y, z] "by" = some x := by kernel_rfl
theorem bd_f2 {x y z : D} : fldAt bdNames [x, y, z] "now" = some y := by kernel_rfl
theorem bd_f3 {x y z : D} : fldAt bdNames [x, y, z] "events" = some z := by kernel_rfl
theorem bd_n : bdNames.contains "is_room" = false ∧ bdNames.contains "turn" = false ∧ bdNames.contains "leave_out" = false ∧ bdNames.contains "leave_out_long" = false ∧ bdNames.contains "leave_out_missed" = false ∧ bdNames.contains "keep" = false := ⟨by kernel_rfl, by kernel_rfl, by kernel_rfl, by kernel_rfl, by kernel_rfl, by kernel_rfl⟩
theorem bt_tbl : ((List.range 20).all fun s => [true, false].all fun f => decide (catS (([("turn 0 " : Str), nS (s : Nat), " "]).foldl catS Str.empty) (if f then "fault" else "ok") = (Ev.turn 0 s f).t) && decide (((([("turn 0 " : Str), nS (s : Nat), " "]).foldl catS Str.empty).length ≤ 20))) = true := by decide +kernel
theorem bw_tbl : ((List.range 20).all fun s => decide (([("told 0 1 " : Str), nS (s : Nat)]).foldl catS Str.empty = (Ev.told 0 1 s).t) && decide ((([("turn 1 " : Str), nS (s : Nat), " fault"]).foldl catS Str.empty) = (Ev.turn 1 s true).t)) = true := by decide +kernel
theorem bt_text (hs : s < 20) (f : Bool) : catS (([("turn 0 " : Str), nS (s : Nat), " "]).foldl catS Str.empty) (if f then "fault" else "ok") = (Ev.turn 0 s f).t ∧ (([("turn 0 " : Str), nS (s : Nat), " "]).foldl catS Str.empty).length ≤ 20 := by
  have h1 := List.all_eq_true.mp bt_tbl s (List.mem_range.mpr hs)
  have h2 := List.all_eq_true.mp h1 f (by cases f <;> simp)
  rw [Bool.and_eq_true] at h2
  exact ⟨of_decide_eq_true h2.1, of_decide_eq_true h2.2⟩
theorem bw_text (hs : s < 20) : ([("told 0 1 " : Str), nS (s : Nat)]).foldl catS Str.empty = (Ev.told 0 1 s).t ∧ (([("turn 1 " : Str), nS (s : Nat), " fault"]).foldl catS Str.empty) = (Ev.turn 1 s true).t := by
  have h1 := List.all_eq_true.mp bw_tbl s (List.mem_range.mpr hs)
  rw [Bool.and_eq_true] at h1
  exact ⟨of_decide_eq_true h1.1, of_decide_eq_true h1.2⟩
theorem lsum_tbl : ((List.range 20).all fun s => decide (Str.empty.cps.toList.length + lsum ["turn 0 ", nS (s : Nat), " "] ≤ 1000) && (decide (Str.empty.cps.toList.length + lsum ["told 0 1 ", nS (s : Nat)] ≤ 1000) && decide (Str.empty.cps.toList.length + lsum ["turn 1 ", nS (s : Nat), " fault"] ≤ 1000))) = true := by decide +kernel
theorem lsumA (hs : s < 20) : Str.empty.cps.toList.length + lsum ["turn 0 ", nS (s : Nat), " "] ≤ 1000 ∧ Str.empty.cps.toList.length + lsum ["told 0 1 ", nS (s : Nat)] ≤ 1000 ∧ Str.empty.cps.toList.length + lsum ["turn 1 ", nS (s : Nat), " fault"] ≤ 1000 := by
  have h1 := List.all_eq_true.mp lsum_tbl s (List.mem_range.mpr hs)
  rw [Bool.and_eq_true, Bool.and_eq_true] at h1
  exact ⟨of_decide_eq_true h1.1, of_decide_eq_true h1.2.1, of_decide_eq_true h1.2.2⟩
theorem lsum3 (hs : s < 20) : Str.empty.cps.toList.length + lsum ["turn 0 ", nS (s : Nat), " "] ≤ 1000 := (lsumA hs).1
theorem tsL_snoc : tsL (es ++ [e]) = tsL es ++ [D.str e.t] := by simp [tsL]
local macro_rules | `(tactic| fail) => `(tactic| (first | ((with_reducible refine w_and_t ?_ ?_); exact rfl) | ((with_reducible refine w_and_f ?_ ?_); exact rfl) | ((with_reducible refine w_or_t ?_ ?_); exact rfl) | ((with_reducible refine w_or_f ?_ ?_); exact rfl) | ((with_reducible refine Kn.fdiv ?_ ?_); exact ⟨by decide, by decide⟩) | ((with_reducible refine Kn.mod ?_ ?_); decide) | ((with_reducible refine And.intro (a := (_ && _) = true) ?_ ?_); exact rfl) | ((with_reducible refine And.intro (a := List.length _ = List.length _) ?_ ?_); exact rfl; dsimp only [setMany, List.set_cons_succ, List.set_cons_zero]) | ((with_reducible refine ⟨wsz ?_, ?_⟩); first | decide | (show (_ : Nat) ≤ 1000; simp only [List.length_cons, List.length_nil]; decide)) | with_reducible refine ⟨_, rfl, ?_⟩))
local macro_rules | `(tactic| fail) => `(tactic| (first | ((with_reducible refine WG.nm ?_); dsimp only [setMany, List.set_cons_succ, List.set_cons_zero]) | ((with_reducible refine WG.one ?_); dsimp only [setMany, List.set_cons_succ, List.set_cons_zero]) | ((with_reducible refine WG.tup ?_ ?_); exact rfl; dsimp only [setMany, List.set_cons_succ, List.set_cons_zero]) | ((with_reducible apply WE.var); exact rfl) | ((with_reducible apply WE.upP); exact rfl) | ((with_reducible apply WE.upT); exact rfl) | ((with_reducible apply WE.upL); exact rfl) | ((with_reducible apply WE.upN); exact rfl) | ((with_reducible apply WS.aug); exact rfl) | ((with_reducible apply WE.newPL); exact rfl) | ((with_reducible refine WS.ite_t ?_ ?_); exact rfl) | ((with_reducible refine WS.ite_f ?_ ?_); exact rfl) | ((with_reducible refine WE.ite_t ?_ ?_); exact rfl) | ((with_reducible refine WE.ite_f ?_ ?_); exact rfl)))
local macro_rules | `(tactic| fail) => `(tactic| with_reducible (first | refine Kn.it_l ?_ | refine Kn.it_s ?_ | refine Kn.str_s ?_ | refine Kn.sl_t ?_ | refine Kn.sl_l ?_ | refine Kn.kx_need ?_ | refine Kn.kx_of ?_ | refine Kn.kx_base ?_ | refine Kn.kx_more ?_ | refine Kn.kx_most ?_ | refine Kn.kx_calm ?_ | refine Kn.kx_back ?_ | refine Kn.kx_under ?_ | refine Kn.kx_top ?_ | refine Kn.kx_up ?_ | refine Kn.kx_hears ?_ | refine Fld.need ?_ | refine Fld.of ?_ | refine Fld.base ?_ | refine Fld.more ?_ | refine Fld.most ?_ | refine Fld.calm ?_ | refine Fld.back ?_ | refine Fld.top ?_ | refine Fld.under ?_ | refine Fld.up ?_ | refine Fld.hears ?_ | refine Fld.cap ?_ | refine Mth.time ?_))
local macro_rules | `(tactic| fail) => `(tactic| with_reducible (first | refine WE.tupL ?_ | refine WE.dicP ?_ | refine WP.nil ?_ | refine WP.cons ?_ | refine WE.upd ?_ | refine WA.nil ?_ | refine WA.cons ?_ | refine WA.star ?_ | refine WO.no ?_ | refine WO.yes ?_ | refine WT.val ?_ | refine WT.and ?_ | refine WT.or ?_ | refine WT.not ?_ | refine WT.tt ?_ | refine WI.it ?_ | refine Kn.add_i ?_ | refine Kn.sub ?_ | refine Kn.neg ?_ | refine Kn.eq_i ?_ | refine Kn.ne_i ?_ | refine Kn.lt ?_ | refine Kn.le ?_ | refine Kn.gt ?_ | refine Kn.ge ?_ | refine Kn.int_i ?_ | refine Kn.int_b ?_ | refine Kn.abs ?_ | refine Kn.min2 ?_ | refine Kn.max2 ?_ | refine Kn.len_t ?_ | refine Kn.len_l ?_ | refine Kn.len_s ?_ | refine Kn.tup_t ?_ | refine Kn.tup_l ?_ | refine Kn.lis_t ?_ | refine Kn.lis_l ?_ | refine Kn.seq_t ?_ | refine Kn.seq_l ?_ | refine Kn.it_t ?_))
local macro_rules | `(tactic| fail) => `(tactic| with_reducible (first | refine WS.seq ?_ | refine WS.nx ?_ | refine WS.rt ?_ | refine WS.asg ?_ | refine WS.drop ?_ | refine WS.ret ?_ | refine WS.nop ?_ | refine WS.retN ?_ | refine WS.brk ?_ | refine WS.cont ?_ | refine WS.sif ?_ | refine WS.par ?_ | refine WG.setA ?_ | refine WE.c ?_ | refine WE.op ?_ | refine WE.call ?_ | refine WE.callM ?_ | refine WE.un ?_ | refine WE.tup ?_ | refine WE.lst ?_ | refine WE.newL ?_ | refine WE.eif ?_ | refine WE.sl ?_ | refine WE.isN ?_ | refine WE.notN ?_ | refine WE.not ?_ | refine WE.and ?_ | refine WE.or ?_ | refine WE.app ?_ | refine WE.tupR ?_ | refine WE.lisR ?_ | refine WE.m1 ?_ | refine WE.tbl ?_ | refine WE.tblNin ?_ | refine WE.chain ?_ | refine WE.fldF ?_ | refine WE.mth ?_ | refine WE.disp ?_ | refine WE.dicC ?_ | refine WE.tupA ?_))
local macro_rules | `(tactic| trivial) => `(tactic| (repeat fail))
theorem isroom_w (ho : r.Ok) (hu : 1 ≤ r.under ∧ r.under < 1073741824) (hnc : 1 ≤ nc) (hn : n ≤ 20) (B : Bd r nc n k a b es m) (q : Q (.bl (decide (((C0 r nc n es).outs : Int) < r.lim (n : Nat)))) m) : Wr (F_Builder_is_room [.ref k] m) Q := by
  have hst := (B.v.ca ho hnc).st
  refine WS.runM (n := 3) (b := f_Builder_is_room) ?_ rfl
  show WS _ [some (.ref k), none, none] m _
  unfold f_Builder_is_room
  trivial
  refine WE.lcR (enc := Sd.d) (xs := (C0 r nc n es).st) (n := a) (fun x => !x.isIn) (fun x => x.d) ?_ B.A (by omega) (fun x hx => ⟨[x.d], rfl, ?_, fun _ => ?_⟩) ?_
  · trivial
    refine Fld.ref B.o bd_c1 bd_f2 ?_
    exact ⟨rfl, rfl⟩
  · dsimp only [Tgt.is, setMany, List.set_cons_succ, List.set_cons_zero]
    trivial
    refine Kn.mk (ix_tag x) ?_
    trivial
    refine Kn.mk (ne_tag x) ?_
    exact ⟨_, rfl, rfl, rfl⟩
  · dsimp only [Tgt.is, setMany, List.set_cons_succ, List.set_cons_zero]
    trivial
    exact ⟨rfl, rfl⟩
  trivial
  unfold f_Builder_is_room_1
  trivial
  refine Fld.ref B.o bd_c1 bd_f1 ?_
  refine ⟨_, _, ru_ins, ru_nlim, ?_⟩
  trivial
  refine Fld.ref B.o bd_c1 bd_f2 ?_
  trivial
  refine Kn.len_r B.A ?_
  trivial
  rw [List.length_map, hst]
  refine Kn.call rfl (limit_w hu (by omega)) ?_
  trivial
  refine .inl ⟨_, rfl, ?_⟩
  rw [List.length_map]
  exact q
theorem turn_w (ho : r.Ok) (hu : 1 ≤ r.under ∧ r.under < 1073741824) (hnc : 1 ≤ nc) (hn : n ≤ 20) (hs : s < n) (hl : es.length < 100000) (f : Bool) (B : Bd r nc n k a b es m) (q : ∀ m', Bd r nc n k a b (es ++ [.turn 0 s f]) m' → Q .non m') : Wr (F_Builder_turn [.ref k, .int (s : Nat), .bl f] m) Q := by
  have C := B.v.ca ho hnc
  have hst := C.st
  have hsx : (C0 r nc n es).st[s]? = some ((C0 r nc n es).st.getD s begun) := by
    rw [List.getD_eq_getElem?_getD, List.getElem?_eq_getElem (by omega)]
    rfl
  have hin := C.sn _ (List.mem_of_getElem? hsx)
  refine WS.runM (n := 3) (b := f_Builder_turn) ?_ rfl
  show WS _ [some (.ref k), some (.int (s : Nat)), some (.bl f)] m _
  unfold f_Builder_turn
  trivial
  refine Fld.ref B.o bd_c1 bd_f1 ?_
  trivial
  refine Fld.ref B.o bd_c1 bd_f2 ?_
  trivial
  refine Kn.mk (ix_r B.A (ca_ix hsx)) ?_
  trivial
  refine WE.mthM ?_
  trivial
  refine ⟨_, _, insOf_ref B.o, bd_n.1, ?_⟩
  trivial
  refine isroom_w ho hu hnc hn B ?_
  trivial
  refine Kn.callKw (by simp [pureL, pureD, ru_pure, sd_pure]) (turn_ok ho _ f _ (hin.wl ho)) ?_
  trivial
  refine Kn.mk rfl ?_
  trivial
  refine Fld.ref B.o bd_c1 bd_f2 ?_
  trivial
  refine Kn.mk (set_r B.A (by rw [List.length_map]; omega)) ?_
  trivial
  unfold f_Builder_turn_1
  trivial
  refine Fld.ref (n := k) (by rw [List.getElem?_set_ne (Ne.symm B.ka)]; exact B.o) bd_c1 bd_f3 ?_
  refine ⟨b, rfl, ⟨_, by rw [List.getElem?_set_ne B.ab]; exact B.E⟩, ?_⟩
  obtain ⟨t1, t2⟩ := bt_text (s := s) (by omega) f
  refine WE.op ⟨_, _, join_all (ws := ["turn 0 ", nS (s : Nat), " "]) (.cons rfl (.cons (fmt_n rfl (by omega)) (.cons rfl .nil))) _ ?_, ?_⟩
  · exact lsum3 (by omega)
  generalize hX : (["turn 0 ", nS (s : Nat), " "] : List Str).foldl catS Str.empty = X at *
  have fin : ∀ m2, m2 = m.set a (.lst (((C0 r nc n es).st.map Sd.d).set s (r.afterTurn ((C0 r nc n es).st.getD s begun) f (decide (((C0 r nc n es).outs : Int) < r.lim (n : Nat)))).1.d)) → m2[b]? = some (.lst (tsL es)) ∧ (tsL es).length < sizeLine ∧ Q .non (m2.set b (.lst (tsL es ++ [.str (Ev.turn 0 s f).t]))) := by
    rintro m2 rfl
    have hal := (List.getElem?_eq_some_iff.mp B.A).1
    have hbl := (List.getElem?_eq_some_iff.mp B.E).1
    refine ⟨by rw [List.getElem?_set_ne B.ab]; exact B.E, by rw [sizeLine_eq]; simp [tsL]; omega, q _ ⟨?_, ?_, ?_, B.ab, B.ka, B.kb, B.v.snoc ⟨hnc, hs⟩ trivial⟩⟩
    · rw [List.getElem?_set_ne (Ne.symm B.kb), List.getElem?_set_ne (Ne.symm B.ka)]
      exact B.o
    · rw [List.getElem?_set_ne (Ne.symm B.ab), List.getElem?_set_self hal, c0_turn B.v ho hnc hs f, map_set, put_st]
    · rw [List.getElem?_set_self (by simpa using hbl), tsL_snoc]
  cases f
  · trivial
    refine Kn.add_s (wsz (by rw [show ("ok" : Str).length = 2 by decide +kernel]; omega)) ?_
    obtain ⟨f1, f2, f3⟩ := fin _ rfl
    exact ⟨_, f1, f2, .inr ⟨_, rfl, by rw [show catS X "ok" = _ from t1]; exact f3⟩⟩
  · trivial
    refine Kn.add_s (wsz (by rw [show ("fault" : Str).length = 5 by decide +kernel]; omega)) ?_
    obtain ⟨f1, f2, f3⟩ := fin _ rfl
    exact ⟨_, f1, f2, .inr ⟨_, rfl, by rw [show catS X "fault" = _ from t1]; exact f3⟩⟩
end
end L4
namespace L4
open PySem
section
variable {m m' : M} {ρ : Ss} {r : Ru} {most : Int} {w : Wo} {nc n s k a b : Nat} {es : List Ev} {e : Ev} {Q : D → M → Prop}
def cntN (B : List Sd) : Nat := (B.filter fun x => !x.isIn).length
theorem cnt_set : ∀ (B : List Sd) (s : Nat) (y : Sd), (B.getD s begun).isIn = true → y.isIn = true → cntN (B.set s y) = cntN B
  | [], _, _, _, _ => rfl
  | x :: B, 0, y, h, hy => by
    have hx : x.isIn = true := h
    show cntN (y :: B) = cntN (x :: B)
    unfold cntN
    rw [List.filter_cons, List.filter_cons, hx, hy]
    rfl
  | x :: B, s + 1, y, h, hy => by
    have ih := cnt_set B s y h hy
    show cntN (x :: B.set s y) = cntN (x :: B)
    unfold cntN at *
    rw [List.filter_cons, List.filter_cons]
    split
    · rw [List.length_cons, List.length_cons, ih]
    · exact ih
theorem set_selfB {B : List Sd} (h : s < B.length) : B.set s (B.getD s begun) = B := by
  refine List.ext_getElem? fun j => ?_
  rw [List.getElem?_set]
  by_cases e : s = j
  · subst e
    rw [if_pos rfl, if_pos h, List.getD_eq_getElem?_getD, List.getElem?_eq_getElem h]
    rfl
  · rw [if_neg e]
/-- the lasts of the others stay -/
def LaE (s : Nat) (c c' : Ca) : Prop := ∀ j, j ≠ s → c'.la.getD j Str.empty = c.la.getD j Str.empty
theorem LaE.refl {c : Ca} : LaE s c c := fun _ _ => rfl
theorem LaE.put {c c' : Ca} (h : LaE s c c') (C : c'.Ok r n) (hs : s < n) (x : Sd) (v : Option Wh) : LaE s c (c'.put s x v) := fun j hj => by
  rw [put_la_at C hs, if_neg (Ne.symm hj)]
  exact h j hj
def flt (s : Nat) (i : Nat) : List Ev := List.replicate i (.turn 0 s true)
theorem flt_snoc {i : Nat} : es ++ flt s i ++ [.turn 0 s true] = es ++ flt s (i + 1) := by
  unfold flt
  rw [List.append_assoc, ← List.replicate_succ']
theorem now_ix (B : Bd r nc n k a b es m) (ho : r.Ok) (hnc : 1 ≤ nc) (hs : s < n) : ixA m (.ref a) (.int (s : Nat)) = some ((C0 r nc n es).st.getD s begun).d := by
  have hst := (B.v.ca ho hnc).st
  exact ix_r B.A (ca_ix (by rw [List.getD_eq_getElem?_getD, List.getElem?_eq_getElem (by omega)]; rfl))
local macro_rules | `(tactic| fail) => `(tactic| (first | ((with_reducible refine w_and_t ?_ ?_); exact rfl) | ((with_reducible refine w_and_f ?_ ?_); exact rfl) | ((with_reducible refine w_or_t ?_ ?_); exact rfl) | ((with_reducible refine w_or_f ?_ ?_); exact rfl) | ((with_reducible refine Kn.fdiv ?_ ?_); exact ⟨by decide, by decide⟩) | ((with_reducible refine Kn.mod ?_ ?_); decide) | ((with_reducible refine And.intro (a := (_ && _) = true) ?_ ?_); exact rfl) | ((with_reducible refine And.intro (a := List.length _ = List.length _) ?_ ?_); exact rfl; dsimp only [setMany, List.set_cons_succ, List.set_cons_zero]) | ((with_reducible refine ⟨wsz ?_, ?_⟩); first | decide | (show (_ : Nat) ≤ 1000; simp only [List.length_cons, List.length_nil]; decide)) | with_reducible refine ⟨_, rfl, ?_⟩))
local macro_rules | `(tactic| fail) => `(tactic| (first | ((with_reducible refine WG.nm ?_); dsimp only [setMany, List.set_cons_succ, List.set_cons_zero]) | ((with_reducible refine WG.one ?_); dsimp only [setMany, List.set_cons_succ, List.set_cons_zero]) | ((with_reducible refine WG.tup ?_ ?_); exact rfl; dsimp only [setMany, List.set_cons_succ, List.set_cons_zero]) | ((with_reducible apply WE.var); exact rfl) | ((with_reducible apply WE.upP); exact rfl) | ((with_reducible apply WE.upT); exact rfl) | ((with_reducible apply WE.upL); exact rfl) | ((with_reducible apply WE.upN); exact rfl) | ((with_reducible apply WS.aug); exact rfl) | ((with_reducible apply WE.newPL); exact rfl) | ((with_reducible refine WS.ite_t ?_ ?_); exact rfl) | ((with_reducible refine WS.ite_f ?_ ?_); exact rfl) | ((with_reducible refine WE.ite_t ?_ ?_); exact rfl) | ((with_reducible refine WE.ite_f ?_ ?_); exact rfl)))
local macro_rules | `(tactic| fail) => `(tactic| with_reducible (first | refine Kn.it_l ?_ | refine Kn.it_s ?_ | refine Kn.str_s ?_ | refine Kn.sl_t ?_ | refine Kn.sl_l ?_ | refine Kn.kx_need ?_ | refine Kn.kx_of ?_ | refine Kn.kx_base ?_ | refine Kn.kx_more ?_ | refine Kn.kx_most ?_ | refine Kn.kx_calm ?_ | refine Kn.kx_back ?_ | refine Kn.kx_under ?_ | refine Kn.kx_top ?_ | refine Kn.kx_up ?_ | refine Kn.kx_hears ?_ | refine Fld.need ?_ | refine Fld.of ?_ | refine Fld.base ?_ | refine Fld.more ?_ | refine Fld.most ?_ | refine Fld.calm ?_ | refine Fld.back ?_ | refine Fld.top ?_ | refine Fld.under ?_ | refine Fld.up ?_ | refine Fld.hears ?_ | refine Fld.cap ?_ | refine Mth.time ?_))
local macro_rules | `(tactic| fail) => `(tactic| with_reducible (first | refine WE.tupL ?_ | refine WE.dicP ?_ | refine WP.nil ?_ | refine WP.cons ?_ | refine WE.upd ?_ | refine WA.nil ?_ | refine WA.cons ?_ | refine WA.star ?_ | refine WO.no ?_ | refine WO.yes ?_ | refine WT.val ?_ | refine WT.and ?_ | refine WT.or ?_ | refine WT.not ?_ | refine WT.tt ?_ | refine WI.it ?_ | refine Kn.add_i ?_ | refine Kn.sub ?_ | refine Kn.neg ?_ | refine Kn.eq_i ?_ | refine Kn.ne_i ?_ | refine Kn.lt ?_ | refine Kn.le ?_ | refine Kn.gt ?_ | refine Kn.ge ?_ | refine Kn.int_i ?_ | refine Kn.int_b ?_ | refine Kn.abs ?_ | refine Kn.min2 ?_ | refine Kn.max2 ?_ | refine Kn.len_t ?_ | refine Kn.len_l ?_ | refine Kn.len_s ?_ | refine Kn.tup_t ?_ | refine Kn.tup_l ?_ | refine Kn.lis_t ?_ | refine Kn.lis_l ?_ | refine Kn.seq_t ?_ | refine Kn.seq_l ?_ | refine Kn.it_t ?_))
local macro_rules | `(tactic| fail) => `(tactic| with_reducible (first | refine WS.seq ?_ | refine WS.nx ?_ | refine WS.rt ?_ | refine WS.asg ?_ | refine WS.drop ?_ | refine WS.ret ?_ | refine WS.nop ?_ | refine WS.retN ?_ | refine WS.brk ?_ | refine WS.cont ?_ | refine WS.sif ?_ | refine WS.par ?_ | refine WG.setA ?_ | refine WE.c ?_ | refine WE.op ?_ | refine WE.call ?_ | refine WE.callM ?_ | refine WE.un ?_ | refine WE.tup ?_ | refine WE.lst ?_ | refine WE.newL ?_ | refine WE.eif ?_ | refine WE.sl ?_ | refine WE.isN ?_ | refine WE.notN ?_ | refine WE.not ?_ | refine WE.and ?_ | refine WE.or ?_ | refine WE.app ?_ | refine WE.tupR ?_ | refine WE.lisR ?_ | refine WE.m1 ?_ | refine WE.tbl ?_ | refine WE.tblNin ?_ | refine WE.chain ?_ | refine WE.fldF ?_ | refine WE.mth ?_ | refine WE.disp ?_ | refine WE.dicC ?_ | refine WE.tupA ?_))
local macro_rules | `(tactic| trivial) => `(tactic| (repeat fail))
theorem leave_w (ho : r.Ok) (hu : 1 ≤ r.under ∧ r.under < 1073741824) (hnc : 1 ≤ nc) (hn : n ≤ 20) (hs : s < n) (hl : es.length < 90000) {v : List Bool} {t cc : Int} (hx : (C0 r nc n es).st.getD s begun = .inn v t cc) (hroom : ((C0 r nc n es).outs : Int) < r.lim (n : Nat)) (B : Bd r nc n k a b es m)
    (q : ∀ i m', 1 ≤ i → i ≤ r.need.toNat → Bd r nc n k a b (es ++ flt s i) m' → (C0 r nc n (es ++ flt s i)).st = (C0 r nc n es).st.set s (r.leftOut t) → LaE s (C0 r nc n es) (C0 r nc n (es ++ flt s i)) → Q .non m') : Wr (F_Builder_leave_out [.ref k, .int (s : Nat)] m) Q := by
  have h1 := ho.n1
  have h3 := ho.n3
  have h2 := ho.n2
  have hst := (B.v.ca ho hnc).st
  refine WS.runM (n := 2) (b := f_Builder_leave_out) ?_ rfl
  show WS _ [some (.ref k), some (.int (s : Nat))] m _
  unfold f_Builder_leave_out
  refine WS.whileI (fun d ρ m => ρ = [some (.ref k), some (.int (s : Nat))] ∧ ((∃ i v cc, d = r.need.toNat - i ∧ ((i : Nat) : Int) < r.need ∧ Bd r nc n k a b (es ++ flt s i) m ∧ (C0 r nc n (es ++ flt s i)).st = (C0 r nc n es).st.set s (.inn (v ++ List.replicate i true) t cc) ∧ LaE s (C0 r nc n es) (C0 r nc n (es ++ flt s i))) ∨
    (d = 0 ∧ ∃ i, 1 ≤ i ∧ i ≤ r.need.toNat ∧ Bd r nc n k a b (es ++ flt s i) m ∧ (C0 r nc n (es ++ flt s i)).st = (C0 r nc n es).st.set s (r.leftOut t) ∧ LaE s (C0 r nc n es) (C0 r nc n (es ++ flt s i))))) r.need.toNat _ _ _ (by unfold big; omega) ?_ ?_
  · refine ⟨rfl, .inl ⟨0, v, cc, by omega, by omega, ?_, ?_, ?_⟩⟩
    · rw [show es ++ flt s 0 = es from List.append_nil _]; exact B
    · rw [show es ++ flt s 0 = es from List.append_nil _, List.replicate_zero, List.append_nil, ← hx, set_selfB (by omega)]
    · rw [show es ++ flt s 0 = es from List.append_nil _]; exact LaE.refl
  · rintro d ρ m1 ⟨rfl, ⟨i, v', c', rfl, hi, B1, st1, la1⟩ | ⟨rfl, i, i1, i2, B1, st1, la1⟩⟩
    · have hg : (C0 r nc n (es ++ flt s i)).st.getD s begun = .inn (v' ++ List.replicate i true) t c' := by rw [st1, getD_setB (by omega), if_pos rfl]
      have hli : (es ++ flt s i).length < 100000 := by unfold flt; simp; omega
      have hro : (((C0 r nc n (es ++ flt s i)).outs : Nat) : Int) < r.lim (n : Nat) := by
        have : (C0 r nc n (es ++ flt s i)).outs = (C0 r nc n es).outs := by
          show cntN (C0 r nc n (es ++ flt s i)).st = cntN (C0 r nc n es).st
          rw [st1, cnt_set _ _ _ (by rw [hx]; rfl) rfl]
        rw [this]
        exact hroom
      have hct := c0_turn B1.v ho hnc hs true
      rw [hg, decide_eq_true hro, flt_snoc] at hct
      have CO := B1.v.ca ho hnc
      trivial
      refine Fld.ref B1.o bd_c1 bd_f2 ?_
      trivial
      refine Kn.mk (now_ix B1 ho hnc hs) ?_
      rw [hg]
      trivial
      refine Kn.mk (ix_tag _) ?_
      trivial
      refine Kn.mk (ne_tago _) ?_
      refine ⟨_, rfl, fun _ => ?_, fun h => nomatch h⟩
      unfold f_Builder_leave_out_1
      trivial
      refine WE.mthM ?_
      trivial
      refine ⟨_, _, insOf_ref B1.o, bd_n.2.1, ?_⟩
      trivial
      refine turn_w ho hu hnc hn hs hli true B1 fun m2 B2 => ?_
      rw [flt_snoc] at B2
      have la2 : LaE s (C0 r nc n es) (C0 r nc n (es ++ flt s (i + 1))) := by rw [hct]; exact la1.put CO hs _ _
      rcases fault_room (v := v') (i := i) (t := t) ho hi with ⟨v2, e1, e2⟩ | e1
      · refine .inl ⟨_, r.need.toNat - (i + 1), .inl rfl, by omega, rfl, .inl ⟨i + 1, v2, 0, rfl, e2, B2, ?_, la2⟩⟩
        rw [hct, put_st, st1, List.set_set]
        show _ = _
        rw [show (r.afterTurn (.inn (v' ++ List.replicate i true) t c') true true).1 = (r.afterFault (v' ++ List.replicate i true) t true).1 from rfl, e1]
      · refine .inl ⟨_, 0, .inl rfl, by omega, rfl, .inr ⟨rfl, i + 1, by omega, by omega, B2, ?_, la2⟩⟩
        rw [hct, put_st, st1, List.set_set]
        rw [show (r.afterTurn (.inn (v' ++ List.replicate i true) t c') true true).1 = (r.afterFault (v' ++ List.replicate i true) t true).1 from rfl, e1]
    · have hg : (C0 r nc n (es ++ flt s i)).st.getD s begun = r.leftOut t := by rw [st1, getD_setB (by omega), if_pos rfl]
      trivial
      refine Fld.ref B1.o bd_c1 bd_f2 ?_
      trivial
      refine Kn.mk (now_ix B1 ho hnc hs) ?_
      rw [hg]
      trivial
      refine Kn.mk (ix_tag _) ?_
      trivial
      refine Kn.mk (ne_tago _) ?_
      exact ⟨_, rfl, (fun h => nomatch h), fun _ => .inr ⟨_, rfl, q i m1 i1 i2 B1 st1 la1⟩⟩
/-- a server that is out: nothing is done -/
theorem leave_no (ho : r.Ok) (hnc : 1 ≤ nc) (hs : s < n) (hx : ((C0 r nc n es).st.getD s begun).isOut = true) (B : Bd r nc n k a b es m) (q : Q .non m) : Wr (F_Builder_leave_out [.ref k, .int (s : Nat)] m) Q := by
  refine WS.runM (n := 2) (b := f_Builder_leave_out) ?_ rfl
  show WS _ [some (.ref k), some (.int (s : Nat))] m _
  unfold f_Builder_leave_out
  refine WS.whileI (fun d ρ m1 => d = 0 ∧ ρ = [some (.ref k), some (.int (s : Nat))] ∧ m1 = m) 0 _ _ _ (by unfold big; omega) ⟨rfl, rfl, rfl⟩ ?_
  rintro d ρ m1 ⟨rfl, rfl, rfl⟩
  trivial
  refine Fld.ref B.o bd_c1 bd_f2 ?_
  trivial
  refine Kn.mk (now_ix B ho hnc hs) ?_
  trivial
  refine Kn.mk (ix_tag _) ?_
  trivial
  refine Kn.mk (ne_tago _) ?_
  rw [hx]
  exact ⟨_, rfl, (fun h => nomatch h), fun _ => .inr ⟨_, rfl, q⟩⟩
/-- faults where there is no room: kept by the last one -/
theorem keep_w (ho : r.Ok) (hu : 1 ≤ r.under ∧ r.under < 1073741824) (hnc : 1 ≤ nc) (hn : n ≤ 20) (hs : s < n) (hl : es.length < 90000) (hx : (C0 r nc n es).st.getD s begun = begun) (hfull : ¬ ((C0 r nc n es).outs : Int) < r.lim (n : Nat)) (B : Bd r nc n k a b es m)
    (q : ∀ i m', ((i + 1 : Nat) : Int) = r.need → Bd r nc n k a b (es ++ flt s (i + 1)) m' → (∃ cc, (C0 r nc n (es ++ flt s i)).st = (C0 r nc n es).st.set s (.inn (List.replicate i true) 0 cc)) → ¬ ((C0 r nc n (es ++ flt s i)).outs : Int) < r.lim (n : Nat) → LaE s (C0 r nc n es) (C0 r nc n (es ++ flt s i)) → Bv r nc n (es ++ flt s i) → Q .non m') : Wr (F_Builder_keep [.ref k, .int (s : Nat)] m) Q := by
  have h1 := ho.n1
  have h3 := ho.n3
  have h2 := ho.n2
  have hst := (B.v.ca ho hnc).st
  refine WS.runM (n := 3) (b := f_Builder_keep) ?_ rfl
  show WS _ [some (.ref k), some (.int (s : Nat)), none] m _
  unfold f_Builder_keep
  refine WS.forI (fun i ρ m => (∃ x2, ρ = [some (.ref k), some (.int (s : Nat)), x2]) ∧ Bd r nc n k a b (es ++ flt s i) m ∧ i ≤ r.need.toNat ∧ (∃ cc, (C0 r nc n (es ++ flt s i)).st = (C0 r nc n es).st.set s (.inn (List.replicate i true) 0 cc)) ∧ LaE s (C0 r nc n es) (C0 r nc n (es ++ flt s i)) ∧
    (0 < i → (∃ cc, (C0 r nc n (es ++ flt s (i - 1))).st = (C0 r nc n es).st.set s (.inn (List.replicate (i - 1) true) 0 cc)) ∧ LaE s (C0 r nc n es) (C0 r nc n (es ++ flt s (i - 1))) ∧ Bv r nc n (es ++ flt s (i - 1)))) ?_
  have out1 : ∀ i cc, (C0 r nc n (es ++ flt s i)).st = (C0 r nc n es).st.set s (.inn (List.replicate i true) 0 cc) → ¬ ((C0 r nc n (es ++ flt s i)).outs : Int) < r.lim (n : Nat) := by
    intro i cc st1
    have : (C0 r nc n (es ++ flt s i)).outs = (C0 r nc n es).outs := by
      show cntN (C0 r nc n (es ++ flt s i)).st = cntN (C0 r nc n es).st
      rw [st1, cnt_set _ _ _ (by rw [hx]; rfl) rfl]
    rw [this]
    exact hfull
  refine WI.r1 ?_
  trivial
  refine Fld.ref B.o bd_c1 bd_f1 ?_
  trivial
  refine ⟨⟨by omega, by omega⟩, ⟨⟨_, rfl⟩, ?_, by omega, ⟨0, ?_⟩, ?_, fun h => absurd h (by decide)⟩, ?_, ?_⟩
  · rw [show es ++ flt s 0 = es from List.append_nil _]; exact B
  · rw [show es ++ flt s 0 = es from List.append_nil _]
    show _ = (C0 r nc n es).st.set s begun
    rw [← hx, set_selfB (by omega)]
  · rw [show es ++ flt s 0 = es from List.append_nil _]; exact LaE.refl
  · rintro i x ρ m1 hi ⟨⟨x2, rfl⟩, B1, hin, ⟨cc, st1⟩, la1, _⟩
    have hil := (List.getElem?_eq_some_iff.mp hi).1
    rw [rngW_len] at hil
    have hg : (C0 r nc n (es ++ flt s i)).st.getD s begun = .inn (List.replicate i true) 0 cc := by rw [st1, getD_setB (by omega), if_pos rfl]
    have hli : (es ++ flt s i).length < 100000 := by unfold flt; simp; omega
    have hro := out1 i cc st1
    have hct := c0_turn B1.v ho hnc hs true
    rw [hg, decide_eq_false hro, flt_snoc, fault_full ho (by omega)] at hct
    have CO := B1.v.ca ho hnc
    trivial
    unfold f_Builder_keep_1
    trivial
    refine WE.mthM ?_
    trivial
    refine ⟨_, _, insOf_ref B1.o, bd_n.2.1, ?_⟩
    trivial
    refine turn_w ho hu hnc hn hs hli true B1 fun m2 B2 => ?_
    rw [flt_snoc] at B2
    refine ⟨_, .inl rfl, ⟨_, rfl⟩, B2, by omega, ⟨0, ?_⟩, by rw [hct]; exact la1.put CO hs _ _, fun _ => ⟨⟨cc, st1⟩, la1, B1.v⟩⟩
    rw [hct, put_st, st1, List.set_set]
  · rintro ρ m1 ⟨⟨x2, rfl⟩, B1, hin, _, _, hp⟩
    rw [rngW_len] at *
    obtain ⟨i, hi⟩ : ∃ i, r.need.toNat = i + 1 := ⟨r.need.toNat - 1, by omega⟩
    rw [hi] at B1 hp
    obtain ⟨⟨cc, st1⟩, la1, v1⟩ := hp (by omega)
    exact .inr ⟨_, rfl, q i m1 (by omega) B1 ⟨cc, st1⟩ (out1 i cc st1) la1 v1⟩
end
end L4
namespace L4
open PySem
section
variable {m m' : M} {ρ : Ss} {r : Ru} {most : Int} {w : Wo} {nc n s k a b : Nat} {es fs : List Ev} {e : Ev} {Q : D → M → Prop}
theorem ne_tr (x : Bk) : neD m (.str x.s) (.str "trial") = some (.bl (!x.tr)) := by cases x <;> exact eqB (by kernel_rfl)
theorem left_0 (ho : r.Ok) : r.leftOut 0 = .out (r.time 1) 1 := by
  have := ho.k1
  unfold Ru.leftOut
  rw [if_neg (by omega)]
  rfl
theorem left_j {j : Int} (hj : j < r.cap) : r.leftOut j = .out (r.time (j + 1)) (j + 1) := by
  unfold Ru.leftOut
  rw [if_neg (by omega)]
theorem come_in {j : Int} (h : r.back.tr = false) : ∃ v, r.comeBack j = .inn v j 0 := by
  unfold Ru.comeBack
  cases hb : r.back
  · exact ⟨_, rfl⟩
  · exact ⟨_, rfl⟩
  · rw [hb] at h
    cases h
theorem row0_get (h : RowB n 0 (C0 r nc n es).st) (hn : 1 ≤ n) : (C0 r nc n es).st.getD 0 begun = begun := by
  have := h.2 0 hn
  rwa [if_neg (by decide)] at this
theorem set_outs0 (h : RowB n 0 (C0 r nc n es).st) (hn : 1 ≤ n) {es2 : List Ev} {y : Sd} (hy : y.isIn = true) (e : (C0 r nc n es2).st = (C0 r nc n es).st.set 0 y) : (C0 r nc n es2).outs = 0 := by
  show cntN (C0 r nc n es2).st = 0
  rw [e, cnt_set _ _ _ (by rw [row0_get h hn]; rfl) hy]
  exact h.outs (Nat.zero_le _)
theorem flt_len {i : Nat} : (flt s i).length = i := by simp [flt]
theorem out_ix1 {l t : Int} : ixA m (Sd.out l t).d (.int 1) = some (.int l) := rfl
local macro_rules | `(tactic| fail) => `(tactic| (first | ((with_reducible refine w_and_t ?_ ?_); exact rfl) | ((with_reducible refine w_and_f ?_ ?_); exact rfl) | ((with_reducible refine w_or_t ?_ ?_); exact rfl) | ((with_reducible refine w_or_f ?_ ?_); exact rfl) | ((with_reducible refine Kn.fdiv ?_ ?_); exact ⟨by decide, by decide⟩) | ((with_reducible refine Kn.mod ?_ ?_); decide) | ((with_reducible refine And.intro (a := (_ && _) = true) ?_ ?_); exact rfl) | ((with_reducible refine And.intro (a := List.length _ = List.length _) ?_ ?_); exact rfl; dsimp only [setMany, List.set_cons_succ, List.set_cons_zero]) | ((with_reducible refine ⟨wsz ?_, ?_⟩); first | decide | (show (_ : Nat) ≤ 1000; simp only [List.length_cons, List.length_nil]; decide)) | with_reducible refine ⟨_, rfl, ?_⟩))
local macro_rules | `(tactic| fail) => `(tactic| (first | ((with_reducible refine WG.nm ?_); dsimp only [setMany, List.set_cons_succ, List.set_cons_zero]) | ((with_reducible refine WG.one ?_); dsimp only [setMany, List.set_cons_succ, List.set_cons_zero]) | ((with_reducible refine WG.tup ?_ ?_); exact rfl; dsimp only [setMany, List.set_cons_succ, List.set_cons_zero]) | ((with_reducible apply WE.var); exact rfl) | ((with_reducible apply WE.upP); exact rfl) | ((with_reducible apply WE.upT); exact rfl) | ((with_reducible apply WE.upL); exact rfl) | ((with_reducible apply WE.upN); exact rfl) | ((with_reducible apply WS.aug); exact rfl) | ((with_reducible apply WE.newPL); exact rfl) | ((with_reducible refine WS.ite_t ?_ ?_); exact rfl) | ((with_reducible refine WS.ite_f ?_ ?_); exact rfl) | ((with_reducible refine WE.ite_t ?_ ?_); exact rfl) | ((with_reducible refine WE.ite_f ?_ ?_); exact rfl)))
local macro_rules | `(tactic| fail) => `(tactic| with_reducible (first | refine Kn.it_l ?_ | refine Kn.it_s ?_ | refine Kn.str_s ?_ | refine Kn.sl_t ?_ | refine Kn.sl_l ?_ | refine Kn.kx_need ?_ | refine Kn.kx_of ?_ | refine Kn.kx_base ?_ | refine Kn.kx_more ?_ | refine Kn.kx_most ?_ | refine Kn.kx_calm ?_ | refine Kn.kx_back ?_ | refine Kn.kx_under ?_ | refine Kn.kx_top ?_ | refine Kn.kx_up ?_ | refine Kn.kx_hears ?_ | refine Fld.need ?_ | refine Fld.of ?_ | refine Fld.base ?_ | refine Fld.more ?_ | refine Fld.most ?_ | refine Fld.calm ?_ | refine Fld.back ?_ | refine Fld.top ?_ | refine Fld.under ?_ | refine Fld.up ?_ | refine Fld.hears ?_ | refine Fld.cap ?_ | refine Mth.time ?_))
local macro_rules | `(tactic| fail) => `(tactic| with_reducible (first | refine WE.tupL ?_ | refine WE.dicP ?_ | refine WP.nil ?_ | refine WP.cons ?_ | refine WE.upd ?_ | refine WA.nil ?_ | refine WA.cons ?_ | refine WA.star ?_ | refine WO.no ?_ | refine WO.yes ?_ | refine WT.val ?_ | refine WT.and ?_ | refine WT.or ?_ | refine WT.not ?_ | refine WT.tt ?_ | refine WI.it ?_ | refine Kn.add_i ?_ | refine Kn.sub ?_ | refine Kn.neg ?_ | refine Kn.eq_i ?_ | refine Kn.ne_i ?_ | refine Kn.lt ?_ | refine Kn.le ?_ | refine Kn.gt ?_ | refine Kn.ge ?_ | refine Kn.int_i ?_ | refine Kn.int_b ?_ | refine Kn.abs ?_ | refine Kn.min2 ?_ | refine Kn.max2 ?_ | refine Kn.len_t ?_ | refine Kn.len_l ?_ | refine Kn.len_s ?_ | refine Kn.tup_t ?_ | refine Kn.tup_l ?_ | refine Kn.lis_t ?_ | refine Kn.lis_l ?_ | refine Kn.seq_t ?_ | refine Kn.seq_l ?_ | refine Kn.it_t ?_))
local macro_rules | `(tactic| fail) => `(tactic| with_reducible (first | refine WS.seq ?_ | refine WS.nx ?_ | refine WS.rt ?_ | refine WS.asg ?_ | refine WS.drop ?_ | refine WS.ret ?_ | refine WS.nop ?_ | refine WS.retN ?_ | refine WS.brk ?_ | refine WS.cont ?_ | refine WS.sif ?_ | refine WS.par ?_ | refine WG.setA ?_ | refine WE.c ?_ | refine WE.op ?_ | refine WE.call ?_ | refine WE.callM ?_ | refine WE.un ?_ | refine WE.tup ?_ | refine WE.lst ?_ | refine WE.newL ?_ | refine WE.eif ?_ | refine WE.sl ?_ | refine WE.isN ?_ | refine WE.notN ?_ | refine WE.not ?_ | refine WE.and ?_ | refine WE.or ?_ | refine WE.app ?_ | refine WE.tupR ?_ | refine WE.lisR ?_ | refine WE.m1 ?_ | refine WE.tbl ?_ | refine WE.tblNin ?_ | refine WE.chain ?_ | refine WE.fldF ?_ | refine WE.mth ?_ | refine WE.disp ?_ | refine WE.dicC ?_ | refine WE.tupA ?_))
local macro_rules | `(tactic| trivial) => `(tactic| (repeat fail))
theorem long_w (ho : r.Ok) (hu : 1 ≤ r.under ∧ r.under < 1073741824) (hc : r.cap ≤ 100) (hnc : 1 ≤ nc) (hn : 1 ≤ n ∧ n ≤ 20) (hl : es.length ≤ 1000) (hrow : RowB n 0 (C0 r nc n es).st) (hlim : 0 < r.lim (n : Nat)) (hla : r.back.tr = true ∨ 1 < r.time r.cap) (B : Bd r nc n k a b es m)
    (q : ∀ fs m' l t, Bd r nc n k a b (es ++ fs) m' → (C0 r nc n (es ++ fs)).st = (C0 r nc n es).st.set 0 (.out l t) → (l ≠ 1 ∨ r.back.tr = true) → fs.length ≤ r.cap.toNat * (r.need.toNat + 1) → Q .non m') : Wr (F_Builder_leave_out_long [.ref k, .int 0] m) Q := by
  have h1 := ho.n1
  have h3 := ho.n3
  have h2 := ho.n2
  have hk1 := ho.k1
  have hst := (B.v.ca ho hnc).st
  have hnd : r.need.toNat ≤ 100 := by omega
  have hcd : r.cap.toNat ≤ 100 := by omega
  have hmul : r.cap.toNat * (r.need.toNat + 1) ≤ 100 * 101 := Nat.mul_le_mul hcd (by omega)
  refine WS.runM (n := 2) (b := f_Builder_leave_out_long) ?_ rfl
  show WS _ [some (.ref k), some (.int ((0 : Nat) : Int))] m _
  unfold f_Builder_leave_out_long
  trivial
  refine WE.mthM ?_
  trivial
  refine ⟨_, _, insOf_ref B.o, bd_n.2.2.1, ?_⟩
  trivial
  refine leave_w (v := []) (t := 0) (cc := 0) ho hu hnc hn.2 hn.1 (by omega) (row0_get hrow hn.1) (by rw [hrow.outs (Nat.zero_le _)]; exact hlim) B fun i m1 i1 i2 B1 st1 _ => ?_
  trivial
  unfold f_Builder_leave_out_long_3
  rw [left_0 ho] at st1
  refine WS.whileI (fun d ρ m => ρ = [some (.ref k), some (.int ((0 : Nat) : Int))] ∧ ∃ fs j, d = r.cap.toNat - j ∧ 1 ≤ j ∧ j ≤ r.cap.toNat ∧ Bd r nc n k a b (es ++ fs) m ∧ (C0 r nc n (es ++ fs)).st = (C0 r nc n es).st.set 0 (.out (r.time (j : Nat)) (j : Nat)) ∧ fs.length ≤ j * (r.need.toNat + 1)) (r.cap.toNat - 1) _ _ _ (by unfold big; omega) ⟨rfl, flt 0 i, 1, rfl, Nat.le_refl _, by omega, B1, st1, by rw [flt_len]; omega⟩ ?_
  rintro d ρ m2 ⟨rfl, fs, j, rfl, j1, j2, B2, st2, hfs⟩
  have hmul2 : j * (r.need.toNat + 1) ≤ r.cap.toNat * (r.need.toNat + 1) := Nat.mul_le_mul_right _ j2
  have hg : (C0 r nc n (es ++ fs)).st.getD 0 begun = .out (r.time (j : Nat)) (j : Nat) := by rw [st2, getD_setB (by omega), if_pos rfl]
  trivial
  refine Fld.ref B2.o bd_c1 bd_f2 ?_
  trivial
  refine Kn.mk (now_ix B2 ho hnc hn.1) ?_
  rw [hg]
  trivial
  refine Kn.mk out_ix1 ?_
  trivial
  by_cases ht : r.time (j : Nat) = 1
  · rw [beq_iff_eq.mpr ht]
    trivial
    refine Fld.ref B2.o bd_c1 bd_f1 ?_
    trivial
    refine Kn.mk (ne_tr _) ?_
    cases hb : r.back.tr with
    | true =>
      exact ⟨_, rfl, (fun h => nomatch h), fun _ => .inr ⟨_, rfl, q fs m2 _ _ B2 st2 (.inr hb) (by omega)⟩⟩
    | false =>
      have hjc : j < r.cap.toNat := by
        rcases Nat.lt_or_ge j r.cap.toNat with h | h
        · exact h
        · have : j = r.cap.toNat := by omega
          rcases hla with h | h
          · rw [hb] at h; cases h
          · rw [show r.cap = ((j : Nat) : Int) by omega, ht] at h
            omega
      refine ⟨_, rfl, fun _ => ?_, fun h => nomatch h⟩
      unfold f_Builder_leave_out_long_2
      trivial
      refine WE.mthM ?_
      trivial
      refine ⟨_, _, insOf_ref B2.o, bd_n.2.1, ?_⟩
      trivial
      have hl2 : (es ++ fs).length ≤ 20000 := by rw [List.length_append]; omega
      refine turn_w ho hu hnc hn.2 hn.1 (by omega) true B2 fun m3 B3 => ?_
      have hct := c0_turn B2.v ho hnc hn.1 true
      obtain ⟨v, hv⟩ := come_in (r := r) (j := (j : Nat)) hb
      have ht2 : (r.afterTurn (.out (r.time (j : Nat)) (j : Nat)) true (decide (((C0 r nc n (es ++ fs)).outs : Int) < r.lim (n : Nat)))).1 = .inn v (j : Nat) 0 := by
        show (if r.time (j : Nat) == 1 then r.comeBack (j : Nat) else _) = _
        rw [beq_iff_eq.mpr ht]
        exact hv
      rw [hg, ht2] at hct
      have st3 : (C0 r nc n (es ++ fs ++ [.turn 0 0 true])).st = (C0 r nc n es).st.set 0 (.inn v (j : Nat) 0) := by rw [hct, put_st, st2, List.set_set]
      have hg3 : (C0 r nc n (es ++ fs ++ [.turn 0 0 true])).st.getD 0 begun = .inn v (j : Nat) 0 := by rw [st3, getD_setB (by omega), if_pos rfl]
      trivial
      unfold f_Builder_leave_out_long_1
      trivial
      refine WE.mthM ?_
      trivial
      refine ⟨_, _, insOf_ref B3.o, bd_n.2.2.1, ?_⟩
      trivial
      refine leave_w ho hu hnc hn.2 hn.1 (by simp at hl2 ⊢; omega) hg3 (by rw [set_outs0 hrow hn.1 rfl st3]; exact hlim) B3 fun i4 m4 i41 i42 B4 st4 _ => ?_
      rw [left_j (by omega), st3, List.set_set] at st4
      refine .inl ⟨_, r.cap.toNat - (j + 1), .inl rfl, by omega, rfl, fs ++ [.turn 0 0 true] ++ flt 0 i4, j + 1, rfl, by omega, hjc, ?_, ?_, ?_⟩
      · rw [← List.append_assoc, ← List.append_assoc]; exact B4
      · rw [← List.append_assoc, ← List.append_assoc]; exact st4
      · rw [List.length_append, List.length_append, flt_len, Nat.add_mul, Nat.one_mul]
        simp only [List.length_singleton]
        omega
  · rw [beq_eq_false_iff_ne.mpr ht]
    trivial
    exact .inr ⟨_, rfl, q fs m2 _ _ B2 st2 (.inl ht) (by omega)⟩
theorem c0_other (h : Bv r 2 n es) (ho : r.Ok) (hs : s < n) (f : Bool) : C0 r 2 n (es ++ [.turn 1 s f]) = C0 r 2 n es := by
  unfold C0
  rw [wb_snoc, nxt_at (h.ok ho) (e := .turn 1 s f) ⟨by show 1 < 2; decide, hs⟩ 0]
  exact if_neg (by show ¬ (1 = 0); decide)
def oth (s i : Nat) : List Ev := List.replicate i (.turn 1 s true)
theorem oth_snoc {i : Nat} : oth s (i + 1) = oth s i ++ [.turn 1 s true] := List.replicate_succ'
theorem oth_bv (ho : r.Ok) (hs : s < n) : ∀ i, Bv r 2 n (oth s i) ∧ C0 r 2 n (oth s i) = C0 r 2 n []
  | 0 => ⟨Bv.nil, rfl⟩
  | i + 1 => by
    obtain ⟨h1, h2⟩ := oth_bv ho hs i
    rw [oth_snoc]
    exact ⟨h1.snoc ⟨by show 1 < 2; decide, hs⟩ trivial, (c0_other h1 ho hs true).trans h2⟩
theorem lo_keep {x : Nat × Nat} (h : x ∈ w.lo) : x ∈ (r.nxt most w e).lo := (nxt_lo x).mpr (.inl h)
theorem lo_need (ho : r.Ok) (hn : 1 ≤ n) (hm : 0 < most) : ∀ (d i j : Nat) (w : Wo) (v : List Bool) (t cc : Int), r.need ≤ ((i + d : Nat) : Int) → ((i : Nat) : Int) < r.need → w.Ok r 2 n → (w.at_ 1).st.getD 0 begun = .inn (v ++ List.replicate i true) t cc → cntN (w.at_ 1).st = 0 → (1, 0) ∈ (r.go most j w (oth 0 d)).1.lo
  | 0, i, _, _, _, _, _, h1, h2, _, _, _ => absurd h2 (by rw [Nat.add_zero] at h1; omega)
  | d + 1, i, j, w, v, t, cc, h1, h2, W, hx, h0 => by
    have he : (Ev.turn 1 0 true).In 2 n := ⟨by decide, hn⟩
    have C := W.at_ (i := 1) (by decide)
    have hh : (r.hap most w (.turn 1 0 true)).1 = (r.afterFault (v ++ List.replicate i true) t true).1 := by
      show (r.afterTurn ((w.at_ 1).st.getD 0 begun) true (decide (((w.at_ 1).outs : Int) < most))).1 = _
      rw [hx, show (w.at_ 1).outs = 0 from h0]
      rw [decide_eq_true (show ((0 : Nat) : Int) < most by omega)]
      rfl
    have step : r.go most j w (oth 0 (d + 1)) = ((r.go most (j + 1) (r.nxt most w (.turn 1 0 true)) (oth 0 d)).1, (r.goals most w (.turn 1 0 true)).map (fun g => (j, g)) ++ (r.go most (j + 1) (r.nxt most w (.turn 1 0 true)) (oth 0 d)).2) := by
      unfold oth
      rw [List.replicate_succ]
      rfl
    rw [step]
    show (1, 0) ∈ (r.go most (j + 1) (r.nxt most w (.turn 1 0 true)) (oth 0 d)).1.lo
    rcases fault_room (v := v) (i := i) (t := t) ho h2 with ⟨v2, e1, e2⟩ | e1
    · have hat : (r.nxt most w (.turn 1 0 true)).at_ 1 = (w.at_ 1).put 0 (.inn (v2 ++ List.replicate (i + 1) true) t 0) (r.hap most w (.turn 1 0 true)).2.1 := by
        rw [nxt_at W he 1, hh, e1]
        exact if_pos rfl
      refine lo_need ho hn hm d (i + 1) (j + 1) _ v2 t 0 (by omega) e2 (nxt_ok ho W he) ?_ ?_
      · rw [hat, put_st, getD_setB (by rw [C.st]; exact hn), if_pos rfl]
      · rw [hat, put_st, cnt_set _ _ _ (by rw [hx]; rfl) rfl]
        exact h0
    · have hlo : (1, 0) ∈ (r.nxt most w (.turn 1 0 true)).lo := (nxt_lo (1, 0)).mpr (.inr ⟨by rw [hh, e1]; rfl, rfl⟩)
      have mono : ∀ (es : List Ev) (j : Nat) (w : Wo), (1, 0) ∈ w.lo → (1, 0) ∈ (r.go most j w es).1.lo := by
        intro es
        induction es with
        | nil => exact fun _ _ h => h
        | cons e es ih => exact fun j w h => ih (j + 1) _ (lo_keep h)
      exact mono _ _ _ hlo
theorem wb_lo {x : Nat × Nat} : ∀ (fs es : List Ev), x ∈ (WoB r nc n es).lo → x ∈ (WoB r nc n (es ++ fs)).lo
  | [], es, h => by rw [List.append_nil]; exact h
  | e :: fs, es, h => by
    have := wb_lo fs (es ++ [e]) (by rw [wb_snoc]; exact lo_keep h)
    rwa [List.append_assoc] at this
end
end L4
namespace L4
open PySem
section
variable {m m' : M} {ρ : Ss} {r : Ru} {most : Int} {w : Wo} {nc n s k a b : Nat} {es fs : List Ev} {e : Ev} {Q : D → M → Prop}
theorem Kn.mul_l {m : M} {a : List D} {k : Int} {Q : D → Prop} (h : a.length ≤ 1000 ∧ 0 ≤ k ∧ k ≤ 1000) (q : Q (.lst (List.replicate k.toNat a).flatten)) : Kn (mulD m (.lst a) (.int k)) Q := ⟨_, if_pos h, q⟩
/-- a word, where there is room: still in, or out -/
theorem word_room {v : List Bool} {i : Nat} {t c : Int} (ho : r.Ok) (hi : ((i : Nat) : Int) < r.need) (hh : r.hears.isNo = false) : (∃ v', (r.afterWord (.inn (v ++ List.replicate i true) t c) true).1 = .inn (v' ++ List.replicate (i + 1) true) t 0 ∧ ((i + 1 : Nat) : Int) < r.need) ∨ (r.afterWord (.inn (v ++ List.replicate i true) t c) true).1 = r.leftOut t := by
  cases hb : r.hears with
  | no => rw [hb] at hh; cases hh
  | fault =>
    have e : r.afterWord (.inn (v ++ List.replicate i true) t c) true = r.afterFault (v ++ List.replicate i true) t true := by unfold Ru.afterWord; rw [hb]; rfl
    rw [e]
    exact fault_room ho hi
  | out =>
    have e : r.afterWord (.inn (v ++ List.replicate i true) t c) true = r.atTry (.inn (v ++ List.replicate i true) t c) t true := by unfold Ru.afterWord; rw [hb]; rfl
    rw [e]
    exact .inr rfl
def wrd (i : Nat) : List Ev := List.replicate i (.told 0 1 0)
theorem wrd_snoc {i : Nat} : es ++ wrd i ++ [.told 0 1 0] = es ++ wrd (i + 1) := by
  unfold wrd
  rw [List.append_assoc, ← List.replicate_succ']
theorem time_one (ho : r.Ok) (h : ¬ 1 < r.time r.cap) : r.time 1 = 1 := by
  have b1 := ho.b1
  have b2 := ho.b2
  have k1 := ho.k1
  have m1 := ho.m1
  have hm : 0 ≤ r.more * (r.cap - 1) := Int.mul_nonneg m1 (by omega)
  unfold Ru.time at *
  rw [show (1 : Int) - 1 = 0 by decide, Int.mul_zero, Int.add_zero]
  rw [if_neg (by omega)]
  split at h <;> omega
local macro_rules | `(tactic| fail) => `(tactic| (first | ((with_reducible refine w_and_t ?_ ?_); exact rfl) | ((with_reducible refine w_and_f ?_ ?_); exact rfl) | ((with_reducible refine w_or_t ?_ ?_); exact rfl) | ((with_reducible refine w_or_f ?_ ?_); exact rfl) | ((with_reducible refine Kn.fdiv ?_ ?_); exact ⟨by decide, by decide⟩) | ((with_reducible refine Kn.mod ?_ ?_); decide) | ((with_reducible refine And.intro (a := (_ && _) = true) ?_ ?_); exact rfl) | ((with_reducible refine And.intro (a := List.length _ = List.length _) ?_ ?_); exact rfl; dsimp only [setMany, List.set_cons_succ, List.set_cons_zero]) | ((with_reducible refine ⟨wsz ?_, ?_⟩); first | decide | (show (_ : Nat) ≤ 1000; simp only [List.length_cons, List.length_nil]; decide)) | with_reducible refine ⟨_, rfl, ?_⟩))
local macro_rules | `(tactic| fail) => `(tactic| (first | ((with_reducible refine WG.nm ?_); dsimp only [setMany, List.set_cons_succ, List.set_cons_zero]) | ((with_reducible refine WG.one ?_); dsimp only [setMany, List.set_cons_succ, List.set_cons_zero]) | ((with_reducible refine WG.tup ?_ ?_); exact rfl; dsimp only [setMany, List.set_cons_succ, List.set_cons_zero]) | ((with_reducible apply WE.var); exact rfl) | ((with_reducible apply WE.upP); exact rfl) | ((with_reducible apply WE.upT); exact rfl) | ((with_reducible apply WE.upL); exact rfl) | ((with_reducible apply WE.upN); exact rfl) | ((with_reducible apply WS.aug); exact rfl) | ((with_reducible apply WE.newPL); exact rfl) | ((with_reducible refine WS.ite_t ?_ ?_); exact rfl) | ((with_reducible refine WS.ite_f ?_ ?_); exact rfl) | ((with_reducible refine WE.ite_t ?_ ?_); exact rfl) | ((with_reducible refine WE.ite_f ?_ ?_); exact rfl)))
local macro_rules | `(tactic| fail) => `(tactic| with_reducible (first | refine Kn.it_l ?_ | refine Kn.it_s ?_ | refine Kn.str_s ?_ | refine Kn.sl_t ?_ | refine Kn.sl_l ?_ | refine Kn.kx_need ?_ | refine Kn.kx_of ?_ | refine Kn.kx_base ?_ | refine Kn.kx_more ?_ | refine Kn.kx_most ?_ | refine Kn.kx_calm ?_ | refine Kn.kx_back ?_ | refine Kn.kx_under ?_ | refine Kn.kx_top ?_ | refine Kn.kx_up ?_ | refine Kn.kx_hears ?_ | refine Fld.need ?_ | refine Fld.of ?_ | refine Fld.base ?_ | refine Fld.more ?_ | refine Fld.most ?_ | refine Fld.calm ?_ | refine Fld.back ?_ | refine Fld.top ?_ | refine Fld.under ?_ | refine Fld.up ?_ | refine Fld.hears ?_ | refine Fld.cap ?_ | refine Mth.time ?_))
local macro_rules | `(tactic| fail) => `(tactic| with_reducible (first | refine WE.tupL ?_ | refine WE.dicP ?_ | refine WP.nil ?_ | refine WP.cons ?_ | refine WE.upd ?_ | refine WA.nil ?_ | refine WA.cons ?_ | refine WA.star ?_ | refine WO.no ?_ | refine WO.yes ?_ | refine WT.val ?_ | refine WT.and ?_ | refine WT.or ?_ | refine WT.not ?_ | refine WT.tt ?_ | refine WI.it ?_ | refine Kn.add_i ?_ | refine Kn.sub ?_ | refine Kn.neg ?_ | refine Kn.eq_i ?_ | refine Kn.ne_i ?_ | refine Kn.lt ?_ | refine Kn.le ?_ | refine Kn.gt ?_ | refine Kn.ge ?_ | refine Kn.int_i ?_ | refine Kn.int_b ?_ | refine Kn.abs ?_ | refine Kn.min2 ?_ | refine Kn.max2 ?_ | refine Kn.len_t ?_ | refine Kn.len_l ?_ | refine Kn.len_s ?_ | refine Kn.tup_t ?_ | refine Kn.tup_l ?_ | refine Kn.lis_t ?_ | refine Kn.lis_l ?_ | refine Kn.seq_t ?_ | refine Kn.seq_l ?_ | refine Kn.it_t ?_))
local macro_rules | `(tactic| fail) => `(tactic| with_reducible (first | refine WS.seq ?_ | refine WS.nx ?_ | refine WS.rt ?_ | refine WS.asg ?_ | refine WS.drop ?_ | refine WS.ret ?_ | refine WS.nop ?_ | refine WS.retN ?_ | refine WS.brk ?_ | refine WS.cont ?_ | refine WS.sif ?_ | refine WS.par ?_ | refine WG.setA ?_ | refine WE.c ?_ | refine WE.op ?_ | refine WE.call ?_ | refine WE.callM ?_ | refine WE.un ?_ | refine WE.tup ?_ | refine WE.lst ?_ | refine WE.newL ?_ | refine WE.eif ?_ | refine WE.sl ?_ | refine WE.isN ?_ | refine WE.notN ?_ | refine WE.not ?_ | refine WE.and ?_ | refine WE.or ?_ | refine WE.app ?_ | refine WE.tupR ?_ | refine WE.lisR ?_ | refine WE.m1 ?_ | refine WE.tbl ?_ | refine WE.tblNin ?_ | refine WE.chain ?_ | refine WE.fldF ?_ | refine WE.mth ?_ | refine WE.disp ?_ | refine WE.dicC ?_ | refine WE.tupA ?_))
local macro_rules | `(tactic| trivial) => `(tactic| (repeat fail))
theorem told_w (ho : r.Ok) (hu : 1 ≤ r.under ∧ r.under < 1073741824) (hn : 1 ≤ n ∧ n ≤ 20) (hl : es.length < 90000) (hlo : (1, 0) ∈ (WoB r 2 n es).lo) (B : Bd r 2 n k a b es m) {R : Fl → M → Prop} (q : ∀ m', Bd r 2 n k a b (es ++ [.told 0 1 0]) m' → R (.nx [some (.ref k), some (.int ((0 : Nat) : Int))]) m') : WS f_Builder_leave_out_missed_2 [some (.ref k), some (.int ((0 : Nat) : Int))] m R := by
  have C := B.v.ca ho (by decide)
  have hst := C.st
  have hsx : (C0 r 2 n es).st[0]? = some ((C0 r 2 n es).st.getD 0 begun) := by
    rw [List.getD_eq_getElem?_getD, List.getElem?_eq_getElem (by omega)]
    rfl
  have hin := C.sn _ (List.mem_of_getElem? hsx)
  unfold f_Builder_leave_out_missed_2
  trivial
  refine Fld.ref B.o bd_c1 bd_f1 ?_
  trivial
  refine Fld.ref B.o bd_c1 bd_f2 ?_
  trivial
  refine Kn.mk (now_ix B ho (by decide) hn.1) ?_
  trivial
  refine WE.mthM ?_
  trivial
  refine ⟨_, _, insOf_ref B.o, bd_n.1, ?_⟩
  trivial
  refine isroom_w ho hu (by decide) hn.2 B ?_
  trivial
  refine Kn.callKw (by simp [pureL, pureD, ru_pure, sd_pure]) (word_ok ho _ _ (hin.wl ho)) ?_
  trivial
  refine Kn.mk rfl ?_
  trivial
  refine Fld.ref B.o bd_c1 bd_f2 ?_
  trivial
  refine Kn.mk (set_r B.A (by rw [List.length_map]; omega)) ?_
  trivial
  unfold f_Builder_leave_out_missed_1
  trivial
  refine Fld.ref (n := k) (by rw [List.getElem?_set_ne (Ne.symm B.ka)]; exact B.o) bd_c1 bd_f3 ?_
  refine ⟨b, rfl, ⟨_, by rw [List.getElem?_set_ne B.ab]; exact B.E⟩, ?_⟩
  obtain ⟨t1, _⟩ := bw_text (s := 0) (by decide)
  refine ⟨_, _, join_all (ws := ["told 0 1 ", nS ((0 : Nat) : Int)]) (.cons rfl (.cons (fmt_n rfl (by decide)) .nil)) _ (lsumA (by decide)).2.1, ?_⟩
  have hal := (List.getElem?_eq_some_iff.mp B.A).1
  have hbl := (List.getElem?_eq_some_iff.mp B.E).1
  rw [t1]
  refine ⟨_, by rw [List.getElem?_set_ne B.ab]; exact B.E, by rw [sizeLine_eq]; simp [tsL]; omega, q _ ⟨?_, ?_, ?_, B.ab, B.ka, B.kb, B.v.snoc ⟨by decide, by decide, hn.1, by decide⟩ hlo⟩⟩
  · rw [List.getElem?_set_ne (Ne.symm B.kb), List.getElem?_set_ne (Ne.symm B.ka)]
    exact B.o
  · rw [List.getElem?_set_ne (Ne.symm B.ab), List.getElem?_set_self hal, c0_told B.v ho (by decide) hn.1, map_set, put_st]
  · rw [List.getElem?_set_self (by simpa using hbl), tsL_snoc]
theorem missed_w (ho : r.Ok) (hu : 1 ≤ r.under ∧ r.under < 1073741824) (hn : 1 ≤ n ∧ n ≤ 20) (hlim : 0 < r.lim (n : Nat)) (htr : r.back.tr = false) (htc : ¬ 1 < r.time r.cap) (hh : r.hears.isNo = false) (B : Bd r 2 n k a b [] m)
    (q : ∀ fs m' l t, Bd r 2 n k a b fs m' → (C0 r 2 n fs).st = (C0 r 2 n []).st.set 0 (.out l t) → (C0 r 2 n fs).la.getD 0 Str.empty = ("missed" : Str) → fs.length ≤ 3 * r.need.toNat + 1 → Q .non m') : Wr (F_Builder_leave_out_missed [.ref k, .int 0] m) Q := by
  have h1 := ho.n1
  have h3 := ho.n3
  have h2 := ho.n2
  have hst := (B.v.ca ho (by decide)).st
  have hrow : RowB n 0 (C0 r 2 n []).st := rowB_0
  refine WS.runM (n := 2) (b := f_Builder_leave_out_missed) ?_ rfl
  show WS _ [some (.ref k), some (.int ((0 : Nat) : Int))] m _
  unfold f_Builder_leave_out_missed
  refine WS.seq (WS.drop (WE.ext ?_))
  trivial
  refine Fld.ref B.o bd_c1 bd_f3 ?_
  refine ⟨b, rfl, ⟨_, B.E⟩, ?_⟩
  obtain ⟨_, t1⟩ := bw_text (s := 0) (by decide)
  refine WE.op (WE.lst (WA.cons ⟨_, _, join_all (ws := ["turn 1 ", nS ((0 : Nat) : Int), " fault"]) (.cons rfl (.cons (fmt_n rfl (by decide)) (.cons rfl .nil))) _ (lsumA (by decide)).2.2, ?_⟩))
  rw [t1]
  trivial
  refine Fld.ref B.o bd_c1 bd_f1 ?_
  trivial
  refine Kn.mul_l ⟨by decide, by omega, by omega⟩ ?_
  rw [rep_flat1 r.need.toNat D.str]
  obtain ⟨v1, c1⟩ := oth_bv (r := r) (n := n) (s := 0) ho hn.1 r.need.toNat
  have hc0 : cntN (List.replicate n begun) = 0 := outs_row _ 0 (Nat.zero_le _) (by rw [List.length_replicate]; exact rowB_0.2)
  have hlo : (1, 0) ∈ (WoB r 2 n (oth 0 r.need.toNat)).lo := lo_need ho hn.1 hlim r.need.toNat 0 0 (wo0 2 n) [] 0 0 (by omega) (by omega) (wo0_ok ho) (row0_get (r := r) (nc := 2) (es := []) hrow hn.1) hc0
  have hol : (oth 0 r.need.toNat).length = r.need.toNat := List.length_replicate ..
  have hbl := (List.getElem?_eq_some_iff.mp B.E).1
  have B1 : Bd r 2 n k a b (oth 0 r.need.toNat) (m.set b (.lst (tsL [] ++ (List.replicate r.need.toNat (Ev.turn 1 0 true).t).map D.str))) := by
    refine ⟨by rw [List.getElem?_set_ne (Ne.symm B.kb)]; exact B.o, by rw [List.getElem?_set_ne (Ne.symm B.ab), c1]; exact B.A, ?_, B.ab, B.ka, B.kb, v1⟩
    rw [List.getElem?_set_self hbl]
    unfold tsL oth
    rw [List.map_replicate, List.map_replicate]
    rfl
  refine ⟨_, _, B.E, rfl, by rw [sizeLine_eq]; simp [tsL]; omega, ?_⟩
  generalize m.set b (.lst (tsL [] ++ (List.replicate r.need.toNat (Ev.turn 1 0 true).t).map D.str)) = m1 at *
  refine WS.nx ?_
  unfold f_Builder_leave_out_missed_5
  trivial
  refine WE.mthM ?_
  trivial
  refine ⟨_, _, insOf_ref B1.o, bd_n.2.2.1, ?_⟩
  trivial
  refine leave_w (v := []) (t := 0) (cc := 0) ho hu (by decide) hn.2 hn.1 (by omega) (by rw [c1]; exact row0_get hrow hn.1) (by rw [c1, hrow.outs (Nat.zero_le _)]; exact hlim) B1 fun i m2 i1 i2 B2 st2 _ => ?_
  rw [left_0 ho, time_one ho htc, c1] at st2
  trivial
  unfold f_Builder_leave_out_missed_4
  trivial
  refine WE.mthM ?_
  trivial
  refine ⟨_, _, insOf_ref B2.o, bd_n.2.1, ?_⟩
  trivial
  have hl2 : (oth 0 r.need.toNat ++ flt 0 i).length ≤ 2 * r.need.toNat := by rw [List.length_append, hol, flt_len]; omega
  refine turn_w ho hu (by decide) hn.2 hn.1 (by omega) false B2 fun m3 B3 => ?_
  have hg : (C0 r 2 n (oth 0 r.need.toNat ++ flt 0 i)).st.getD 0 begun = .out 1 1 := by rw [st2, getD_setB (by omega), if_pos rfl]
  have hct := c0_turn B2.v ho (by decide) hn.1 false
  obtain ⟨v, hv⟩ := come_in (r := r) (j := 1) htr
  rw [hg, show r.afterTurn (.out 1 1) false (decide (((C0 r 2 n (oth 0 r.need.toNat ++ flt 0 i)).outs : Int) < r.lim (n : Nat))) = (r.comeBack 1, .missed, false) from rfl, hv] at hct
  have st3 : (C0 r 2 n (oth 0 r.need.toNat ++ flt 0 i ++ [.turn 0 0 false])).st = (C0 r 2 n []).st.set 0 (.inn v 1 0) := by rw [hct, put_st, st2, List.set_set]
  have la3 : (C0 r 2 n (oth 0 r.need.toNat ++ flt 0 i ++ [.turn 0 0 false])).la.getD 0 Str.empty = ("missed" : Str) := by
    rw [hct, put_la_at (B2.v.ca ho (by decide)) hn.1, if_pos rfl]
    rfl
  have lo3 : (1, 0) ∈ (WoB r 2 n (oth 0 r.need.toNat ++ flt 0 i ++ [.turn 0 0 false])).lo := wb_lo _ _ (wb_lo _ _ hlo)
  have hl3 : (oth 0 r.need.toNat ++ flt 0 i ++ [Ev.turn 0 0 false]).length ≤ 2 * r.need.toNat + 1 := by rw [List.length_append]; simp only [List.length_singleton]; omega
  clear hct hg st2 B2 B1 hlo v1 c1
  generalize oth 0 r.need.toNat ++ flt 0 i ++ [Ev.turn 0 0 false] = es3 at *
  trivial
  unfold f_Builder_leave_out_missed_3
  refine WS.whileI (fun d ρ m => ρ = [some (.ref k), some (.int ((0 : Nat) : Int))] ∧ ((∃ i v cc, d = r.need.toNat - i ∧ ((i : Nat) : Int) < r.need ∧ Bd r 2 n k a b (es3 ++ wrd i) m ∧ (C0 r 2 n (es3 ++ wrd i)).st = (C0 r 2 n []).st.set 0 (.inn (v ++ List.replicate i true) 1 cc) ∧ (C0 r 2 n (es3 ++ wrd i)).la.getD 0 Str.empty = ("missed" : Str)) ∨
    (d = 0 ∧ ∃ i, i ≤ r.need.toNat ∧ Bd r 2 n k a b (es3 ++ wrd i) m ∧ (C0 r 2 n (es3 ++ wrd i)).st = (C0 r 2 n []).st.set 0 (r.leftOut 1) ∧ (C0 r 2 n (es3 ++ wrd i)).la.getD 0 Str.empty = ("missed" : Str)))) r.need.toNat _ _ _ (by unfold big; omega) ?_ ?_
  · have e0 : es3 ++ wrd 0 = es3 := List.append_nil _
    refine ⟨rfl, .inl ⟨0, v, 0, by omega, by omega, by rw [e0]; exact B3, ?_, by rw [e0]; exact la3⟩⟩
    rw [e0, List.replicate_zero, List.append_nil]
    exact st3
  · rintro d ρ m4 ⟨rfl, ⟨i, v', c', rfl, hi, B4, st4, la4⟩ | ⟨rfl, i, i2, B4, st4, la4⟩⟩
    · have hg : (C0 r 2 n (es3 ++ wrd i)).st.getD 0 begun = .inn (v' ++ List.replicate i true) 1 c' := by rw [st4, getD_setB (by omega), if_pos rfl]
      have hli : (es3 ++ wrd i).length < 90000 := by unfold wrd; simp; omega
      have hro : (((C0 r 2 n (es3 ++ wrd i)).outs : Nat) : Int) < r.lim (n : Nat) := by rw [set_outs0 hrow hn.1 rfl st4]; exact hlim
      have hct := c0_told B4.v ho (by decide) hn.1
      rw [hg, decide_eq_true hro, wrd_snoc] at hct
      trivial
      refine Fld.ref B4.o bd_c1 bd_f2 ?_
      trivial
      refine Kn.mk (now_ix B4 ho (by decide) hn.1) ?_
      rw [hg]
      trivial
      refine Kn.mk (ix_tag _) ?_
      trivial
      refine Kn.mk (ne_tago _) ?_
      refine ⟨_, rfl, fun _ => ?_, fun h => nomatch h⟩
      refine told_w ho hu hn hli (wb_lo _ _ lo3) B4 fun m5 B5 => ?_
      rw [wrd_snoc] at B5
      have la5 : (C0 r 2 n (es3 ++ wrd (i + 1))).la.getD 0 Str.empty = ("missed" : Str) := by rw [hct]; exact la4
      rcases word_room (v := v') (i := i) (t := 1) (c := c') ho hi hh with ⟨v2, e1, e2⟩ | e1
      · rw [e1] at hct
        exact .inl ⟨_, r.need.toNat - (i + 1), .inl rfl, by omega, rfl, .inl ⟨i + 1, v2, 0, rfl, e2, B5, by rw [hct, put_st, st4, List.set_set], la5⟩⟩
      · rw [e1] at hct
        exact .inl ⟨_, 0, .inl rfl, by omega, rfl, .inr ⟨rfl, i + 1, by omega, B5, by rw [hct, put_st, st4, List.set_set], la5⟩⟩
    · have hg : (C0 r 2 n (es3 ++ wrd i)).st.getD 0 begun = r.leftOut 1 := by rw [st4, getD_setB (by omega), if_pos rfl]
      trivial
      refine Fld.ref B4.o bd_c1 bd_f2 ?_
      trivial
      refine Kn.mk (now_ix B4 ho (by decide) hn.1) ?_
      rw [hg]
      trivial
      refine Kn.mk (ix_tag _) ?_
      trivial
      refine Kn.mk (ne_tago _) ?_
      refine ⟨_, rfl, (fun h => nomatch h), fun _ => .inr ⟨_, rfl, q (es3 ++ wrd i) m4 _ _ B4 st4 la4 ?_⟩⟩
      rw [List.length_append, show (wrd i).length = i from List.length_replicate ..]
      omega
end
end L4
namespace L4
open PySem
section
variable {m m' : M} {ρ : Ss} {r : Ru} {most : Int} {w : Wo} {nc n s k a b L : Nat} {es fs : List Ev} {e : Ev} {Q : D → M → Prop}
def Gl.go : Gl → Go
  | .all => .all
  | .kept => .kept
  | .swap => .swap
def nuF (g : Gl) (ls : Bool) (t u : Nat) (up : Bool) : Bool := match nuR g ls t u up with
  | none => true
  | some (x, _) => duP g ls t u up x && (Nat.ble 1 x && (Nat.ble x 20 && (!g.isAll || (Nat.beq x 1 && Nat.beq (limN t u up 1) 1))))
theorem nuF_tbl : ((List.range 21).all fun u => (List.range (u + 1)).all fun t => u == 0 || [true, false].all fun up => [true, false].all fun ls => [Gl.all, .kept, .swap].all fun g => nuF g ls t u up) = true := by decide +kernel
theorem nuF_all (g : Gl) (ls : Bool) {t u : Nat} (up : Bool) (hu : 1 ≤ u ∧ u ≤ 20) (ht : t ≤ u) : nuF g ls t u up = true := by
  have h1 := List.all_eq_true.mp nuF_tbl u (List.mem_range.mpr (by omega))
  have h2 := List.all_eq_true.mp h1 t (List.mem_range.mpr (by omega))
  have h3 : (u == 0) = false := by
    have : u ≠ 0 := by omega
    simpa using this
  rw [h3, Bool.false_or] at h2
  have h4 := List.all_eq_true.mp h2 up (by cases up <;> simp)
  have h5 := List.all_eq_true.mp h4 ls (by cases ls <;> simp)
  exact List.all_eq_true.mp h5 g (by cases g <;> simp)
/-- what holds of the least number -/
theorem nu_facts (h : Sh r) (g : Gl) {x : Nat} {y : Option Nat} (e : nuR g r.lasts r.top.toNat r.under.toNat r.up = some (x, y)) : 1 ≤ x ∧ x ≤ 20 ∧ ∃ L : Nat, r.lim (x : Nat) = ((L : Nat) : Int) ∧ L ≤ x ∧ match g with
    | .all => x = 1 ∧ L = 1
    | .kept => L < x
    | .swap => L < x ∧ 1 ≤ L ∧ r.lasts = true := by
  have h1 := nuF_all g r.lasts r.up ⟨h.u1, h.u2⟩ h.tu
  unfold nuF at h1
  rw [e] at h1
  dsimp only at h1
  rw [Bool.and_eq_true, Bool.and_eq_true, Bool.and_eq_true] at h1
  obtain ⟨d, h2, h3, h4⟩ := h1
  have h2 := Nat.le_of_ble_eq_true h2
  have h3 := Nat.le_of_ble_eq_true h3
  refine ⟨h2, h3, limN r.top.toNat r.under.toNat r.up x, (lim_nat h x).symm, ?_, ?_⟩
  · cases hup : r.up
    · exact lim_dn h.u1 h.tu
    · exact lim_up h.u1 h.tu
  · cases g with
    | all =>
      rw [show (!Gl.all.isAll) = false from rfl, Bool.false_or, Bool.and_eq_true] at h4
      have hx : x = 1 := Nat.eq_of_beq_eq_true h4.1
      subst hx
      exact ⟨rfl, Nat.eq_of_beq_eq_true h4.2⟩
    | kept => exact Nat.le_of_ble_eq_true d
    | swap =>
      have d2 : (r.lasts && (Nat.blt 0 (limN r.top.toNat r.under.toNat r.up x) && Nat.blt (limN r.top.toNat r.under.toNat r.up x) x)) = true := d
      rw [Bool.and_eq_true, Bool.and_eq_true] at d2
      exact ⟨Nat.le_of_ble_eq_true d2.2.2, Nat.le_of_ble_eq_true d2.2.1, d2.1⟩
theorem goals_c0 (h : Bv r nc n es) (ho : r.Ok) (he : e.In nc n) (hc : e.c = 0) : r.goals (r.lim (n : Nat)) (WoB r nc n es) e = (C0 r nc n (es ++ [e])).goals e.s (r.hap (r.lim (n : Nat)) (WoB r nc n es) e).2.2 := by
  unfold C0
  rw [wb_snoc, nxt_at (h.ok ho) he 0, if_pos hc]
  rfl
/-- kept by the last fault -/
theorem kept_last {i : Nat} {cc : Int} (ho : r.Ok) (hnc : 1 ≤ nc) (hi : ((i + 1 : Nat) : Int) = r.need) (hL : L < n) (v : Bv r nc n (es ++ flt L i)) (B0 : (C0 r nc n es).st.length = n) (st1 : (C0 r nc n (es ++ flt L i)).st = (C0 r nc n es).st.set L (.inn (List.replicate i true) 0 cc)) (hfull : ¬ ((C0 r nc n (es ++ flt L i)).outs : Int) < r.lim (n : Nat)) :
    r.hap (r.lim (n : Nat)) (WoB r nc n (es ++ flt L i)) (.turn 0 L true) = (.inn (List.replicate (i + 1) true) 0 0, some .felt, true) := by
  have hg : (C0 r nc n (es ++ flt L i)).st.getD L begun = .inn (List.replicate i true) 0 cc := by rw [st1, getD_setB (by omega), if_pos rfl]
  show (let x := r.afterTurn ((C0 r nc n (es ++ flt L i)).st.getD L begun) true (decide (((C0 r nc n (es ++ flt L i)).outs : Int) < r.lim (n : Nat))); (x.1, some x.2.1, x.2.2)) = _
  rw [hg, decide_eq_false hfull]
  dsimp only
  rw [fault_full ho (by omega), decide_eq_true hi]
theorem goals_kept {i : Nat} {cc : Int} (ho : r.Ok) (hnc : 1 ≤ nc) (hi : ((i + 1 : Nat) : Int) = r.need) (hL : L < n) (v : Bv r nc n (es ++ flt L i)) (B0 : (C0 r nc n es).st.length = n) (st1 : (C0 r nc n (es ++ flt L i)).st = (C0 r nc n es).st.set L (.inn (List.replicate i true) 0 cc)) (hfull : ¬ ((C0 r nc n (es ++ flt L i)).outs : Int) < r.lim (n : Nat)) :
    Go.kept ∈ r.goals (r.lim (n : Nat)) (WoB r nc n (es ++ flt L i)) (.turn 0 L true) ∧ (LaE L (C0 r nc n es) (C0 r nc n (es ++ flt L i)) → 0 < L → ((C0 r nc n es).st.getD 0 begun).isIn = false → (C0 r nc n es).la.getD 0 Str.empty = ("missed" : Str) → Go.swap ∈ r.goals (r.lim (n : Nat)) (WoB r nc n (es ++ flt L i)) (.turn 0 L true)) := by
  have hk := kept_last ho hnc hi hL v B0 st1 hfull
  have C := v.ca ho hnc
  rw [goals_eq, hk]
  dsimp only
  refine ⟨goal_kept, fun la hL0 hx hm => goal_swap ?_⟩
  have hx0 : (C0 r nc n es).st[0]? = some ((C0 r nc n es).st.getD 0 begun) := by
    rw [List.getD_eq_getElem?_getD, List.getElem?_eq_getElem (by omega)]
    rfl
  refine better_of (j := 0) (x := (C0 r nc n es).st.getD 0 begun) ?_ hx (by show 0 ≠ L; omega) ?_
  · show (((C0 r nc n (es ++ flt L i)).put L _ _).st)[0]? = _
    rw [put_st, st1, List.set_set, List.getElem?_set_ne (by omega)]
    exact hx0
  · show ((C0 r nc n (es ++ flt L i)).put L _ _).la.getD 0 Str.empty = _
    rw [put_la_at C hL, if_neg (by omega), la 0 (by omega)]
    exact hm
theorem c0_nil (h : 1 ≤ nc) : C0 r nc n [] = ca0 n := by
  obtain ⟨j, rfl⟩ : ∃ j, nc = j + 1 := ⟨nc - 1, by omega⟩
  rfl
theorem rng_atB {i n : Nat} {x : D} (h : (rngD 0 ((n : Nat) : Int).toNat)[i]? = some x) : i < n ∧ x = .int (0 + ((i : Nat) : Int)) := by
  obtain ⟨h1, h2⟩ := rng_at h
  exact ⟨by omega, h2⟩
theorem bd_p1 {x : D} : putD "by" x ([] : List Str) [] = ((["by"] : List Str), [x]) := by kernel_rfl
theorem bd_p2 {x y : D} : putD "now" y (["by"] : List Str) [x] = ((["by", "now"] : List Str), [x, y]) := by kernel_rfl
theorem bd_p3 {x y z : D} : putD "events" z (["by", "now"] : List Str) [x, y] = (bdNames, [x, y, z]) := by kernel_rfl
local macro_rules | `(tactic| fail) => `(tactic| (first | ((with_reducible refine w_and_t ?_ ?_); exact rfl) | ((with_reducible refine w_and_f ?_ ?_); exact rfl) | ((with_reducible refine w_or_t ?_ ?_); exact rfl) | ((with_reducible refine w_or_f ?_ ?_); exact rfl) | ((with_reducible refine Kn.fdiv ?_ ?_); exact ⟨by decide, by decide⟩) | ((with_reducible refine Kn.mod ?_ ?_); decide) | ((with_reducible refine And.intro (a := (_ && _) = true) ?_ ?_); exact rfl) | ((with_reducible refine And.intro (a := List.length _ = List.length _) ?_ ?_); exact rfl; dsimp only [setMany, List.set_cons_succ, List.set_cons_zero]) | ((with_reducible refine ⟨wsz ?_, ?_⟩); first | decide | (show (_ : Nat) ≤ 1000; simp only [List.length_cons, List.length_nil]; decide)) | with_reducible refine ⟨_, rfl, ?_⟩))
local macro_rules | `(tactic| fail) => `(tactic| (first | ((with_reducible refine WG.nm ?_); dsimp only [setMany, List.set_cons_succ, List.set_cons_zero]) | ((with_reducible refine WG.one ?_); dsimp only [setMany, List.set_cons_succ, List.set_cons_zero]) | ((with_reducible refine WG.tup ?_ ?_); exact rfl; dsimp only [setMany, List.set_cons_succ, List.set_cons_zero]) | ((with_reducible apply WE.var); exact rfl) | ((with_reducible apply WE.upP); exact rfl) | ((with_reducible apply WE.upT); exact rfl) | ((with_reducible apply WE.upL); exact rfl) | ((with_reducible apply WE.upN); exact rfl) | ((with_reducible apply WS.aug); exact rfl) | ((with_reducible apply WE.newPL); exact rfl) | ((with_reducible refine WS.ite_t ?_ ?_); exact rfl) | ((with_reducible refine WS.ite_f ?_ ?_); exact rfl) | ((with_reducible refine WE.ite_t ?_ ?_); exact rfl) | ((with_reducible refine WE.ite_f ?_ ?_); exact rfl)))
local macro_rules | `(tactic| fail) => `(tactic| with_reducible (first | refine Kn.it_l ?_ | refine Kn.it_s ?_ | refine Kn.str_s ?_ | refine Kn.sl_t ?_ | refine Kn.sl_l ?_ | refine Kn.kx_need ?_ | refine Kn.kx_of ?_ | refine Kn.kx_base ?_ | refine Kn.kx_more ?_ | refine Kn.kx_most ?_ | refine Kn.kx_calm ?_ | refine Kn.kx_back ?_ | refine Kn.kx_under ?_ | refine Kn.kx_top ?_ | refine Kn.kx_up ?_ | refine Kn.kx_hears ?_ | refine Fld.need ?_ | refine Fld.of ?_ | refine Fld.base ?_ | refine Fld.more ?_ | refine Fld.most ?_ | refine Fld.calm ?_ | refine Fld.back ?_ | refine Fld.top ?_ | refine Fld.under ?_ | refine Fld.up ?_ | refine Fld.hears ?_ | refine Fld.cap ?_ | refine Mth.time ?_))
local macro_rules | `(tactic| fail) => `(tactic| with_reducible (first | refine WE.tupL ?_ | refine WE.dicP ?_ | refine WP.nil ?_ | refine WP.cons ?_ | refine WE.upd ?_ | refine WA.nil ?_ | refine WA.cons ?_ | refine WA.star ?_ | refine WO.no ?_ | refine WO.yes ?_ | refine WT.val ?_ | refine WT.and ?_ | refine WT.or ?_ | refine WT.not ?_ | refine WT.tt ?_ | refine WI.it ?_ | refine Kn.add_i ?_ | refine Kn.sub ?_ | refine Kn.neg ?_ | refine Kn.eq_i ?_ | refine Kn.ne_i ?_ | refine Kn.lt ?_ | refine Kn.le ?_ | refine Kn.gt ?_ | refine Kn.ge ?_ | refine Kn.int_i ?_ | refine Kn.int_b ?_ | refine Kn.abs ?_ | refine Kn.min2 ?_ | refine Kn.max2 ?_ | refine Kn.len_t ?_ | refine Kn.len_l ?_ | refine Kn.len_s ?_ | refine Kn.tup_t ?_ | refine Kn.tup_l ?_ | refine Kn.lis_t ?_ | refine Kn.lis_l ?_ | refine Kn.seq_t ?_ | refine Kn.seq_l ?_ | refine Kn.it_t ?_))
local macro_rules | `(tactic| fail) => `(tactic| with_reducible (first | refine WS.seq ?_ | refine WS.nx ?_ | refine WS.rt ?_ | refine WS.asg ?_ | refine WS.drop ?_ | refine WS.ret ?_ | refine WS.nop ?_ | refine WS.retN ?_ | refine WS.brk ?_ | refine WS.cont ?_ | refine WS.sif ?_ | refine WS.par ?_ | refine WG.setA ?_ | refine WE.c ?_ | refine WE.op ?_ | refine WE.call ?_ | refine WE.callM ?_ | refine WE.un ?_ | refine WE.tup ?_ | refine WE.lst ?_ | refine WE.newL ?_ | refine WE.eif ?_ | refine WE.sl ?_ | refine WE.isN ?_ | refine WE.notN ?_ | refine WE.not ?_ | refine WE.and ?_ | refine WE.or ?_ | refine WE.app ?_ | refine WE.tupR ?_ | refine WE.lisR ?_ | refine WE.m1 ?_ | refine WE.tbl ?_ | refine WE.tblNin ?_ | refine WE.chain ?_ | refine WE.fldF ?_ | refine WE.mth ?_ | refine WE.disp ?_ | refine WE.dicC ?_ | refine WE.tupA ?_))
local macro_rules | `(tactic| trivial) => `(tactic| (repeat fail))
theorem bnew_w (hnc : 1 ≤ nc) (hn : n ≤ 20) (hk : m[k]? = some (.ins "Builder" [] [])) (q : ∀ m' a b, Bd r nc n k a b [] m' → Q .non m') : Wr (F_Builder___init__ [.ref k, r.d, .int (n : Nat)] m) Q := by
  have hkl := (List.getElem?_eq_some_iff.mp hk).1
  refine WS.runM (n := 3) (b := f_Builder___init__) ?_ rfl
  show WS _ [some (.ref k), some r.d, some (.int (n : Nat))] m _
  unfold f_Builder___init__
  refine WS.seq (WS.fldMw ?_)
  trivial
  refine ⟨k, "Builder", _, _, _, _, rfl, hk, bd_c1, by decide, bd_p1, ?_⟩
  refine WS.nx ?_
  unfold f_Builder___init___1
  refine WS.seq (WS.fldMw ?_)
  refine WE.repNew ?_
  trivial
  refine Kn.call rfl begun_d ?_
  trivial
  refine ⟨_, _, rfl, rfl, ⟨by decide, by omega, by omega⟩, ?_⟩
  trivial
  rw [Int.toNat_natCast, rep_flat1 n Sd.d begun]
  refine ⟨k, "Builder", _, _, _, _, rfl, by rw [List.getElem?_append_left (by simpa using hkl)]; exact List.getElem?_set_self hkl, bd_c1, by show 1 < 1000; decide, bd_p2, ?_⟩
  refine WS.nx (WS.fldMw ?_)
  trivial
  refine ⟨k, "Builder", _, _, _, _, rfl, by rw [List.getElem?_append_left (by simp; omega)]; exact List.getElem?_set_self (by simp; omega), bd_c1, by show 2 < 1000; decide, bd_p3, ?_⟩
  refine .inr ⟨_, rfl, q _ _ _ ⟨List.getElem?_set_self (by simp; omega), ?_, ?_, by simp, by simp; omega, by simp; omega, Bv.nil⟩⟩
  · rw [List.getElem?_set_ne (by simp; omega), List.getElem?_append_left (by simp), List.getElem?_set_ne (by simp; omega), List.getElem?_append_right (by simp), c0_nil hnc]
    simp [ca0]
  · rw [List.getElem?_set_ne (by simp; omega), List.getElem?_append_right (by simp)]
    simp
    rfl
/-- the first servers are left out, one after another -/
theorem outs_loop (ho : r.Ok) (hu : 1 ≤ r.under ∧ r.under < 1073741824) (hnc : 1 ≤ nc) (hn : 1 ≤ n ∧ n ≤ 20) (hL : r.lim (n : Nat) = ((L : Nat) : Int)) (hLn : L ≤ n) (hl : es.length ≤ 20000) {s0 : Nat} (hs0 : s0 = 0 ∨ s0 = 1 ∧ 1 ≤ L ∧ ((C0 r nc n es).st.getD 0 begun).isOut = true) (hrow : RowB n s0 (C0 r nc n es).st) (B : Bd r nc n k a b es m) (x0 x1 x2 x6 x7 : Option D) {R : Fl → M → Prop}
    (q : ∀ fs m' y7, Bd r nc n k a b (es ++ fs) m' → RowB n L (C0 r nc n (es ++ fs)).st → (s0 = 1 → (C0 r nc n (es ++ fs)).st.getD 0 begun = (C0 r nc n es).st.getD 0 begun ∧ (C0 r nc n (es ++ fs)).la.getD 0 Str.empty = (C0 r nc n es).la.getD 0 Str.empty) → (s0 = 0 → ∀ j, j < L → ((C0 r nc n (es ++ fs)).st.getD j begun).isOut = true) → (s0 = 0 → 1 ≤ L → ∃ gs, fs = gs ++ [.turn 0 (L - 1) true]) → fs.length ≤ L * r.need.toNat → R (.nx [x0, x1, x2, some (.int (n : Nat)), some (.int (L : Nat)), some (.ref k), x6, y7]) m') :
    WS (sFor (iR1 (aCons (eCall min2D (aCons (eVar 4) (aCons (eVar 3) (aNil)))) (aNil))) (gTgt (.one 7)) f_road_1) [x0, x1, x2, some (.int (n : Nat)), some (.int (L : Nat)), some (.ref k), x6, x7] m R := by
  have h3 := ho.n3
  have h2 := ho.n2
  have h1 := ho.n1
  refine WS.forI (fun i ρ m' => ∃ fs y7, ρ = [x0, x1, x2, some (.int (n : Nat)), some (.int (L : Nat)), some (.ref k), x6, y7] ∧ Bd r nc n k a b (es ++ fs) m' ∧ RowB n (max i s0) (C0 r nc n (es ++ fs)).st ∧ (s0 = 1 → (C0 r nc n (es ++ fs)).st.getD 0 begun = (C0 r nc n es).st.getD 0 begun ∧ (C0 r nc n (es ++ fs)).la.getD 0 Str.empty = (C0 r nc n es).la.getD 0 Str.empty) ∧ (s0 = 0 → ∀ j, j < i → ((C0 r nc n (es ++ fs)).st.getD j begun).isOut = true) ∧ (s0 = 0 → 1 ≤ i → ∃ gs, fs = gs ++ [.turn 0 (i - 1) true]) ∧ fs.length ≤ i * r.need.toNat) ?_
  refine WI.r1 ?_
  trivial
  have hmin : (if ((n : Nat) : Int) < ((L : Nat) : Int) then ((n : Nat) : Int) else ((L : Nat) : Int)) = ((L : Nat) : Int) := if_neg (by omega)
  rw [hmin]
  have e0 : es ++ [] = es := List.append_nil _
  refine ⟨⟨by omega, by omega⟩, ⟨[], _, rfl, by rw [e0]; exact B, by rw [e0, Nat.max_eq_right (Nat.zero_le _)]; exact hrow, fun _ => by rw [e0]; exact ⟨rfl, rfl⟩, fun _ j h => absurd h (by omega), fun _ h => absurd h (by decide), Nat.zero_le _⟩, ?_, ?_⟩
  · rintro i x ρ m1 hi ⟨fs, y7, rfl, B1, row1, z1, o1, g1, hf1⟩
    obtain ⟨hiL, rfl⟩ := rng_atB hi
    have hnd : i * r.need.toNat ≤ 20 * 100 := Nat.mul_le_mul (by omega) (by omega)
    have hst := (B1.v.ca ho hnc).st
    trivial
    unfold f_road_1
    trivial
    refine WE.mthM ?_
    trivial
    refine ⟨_, _, insOf_ref B1.o, bd_n.2.2.1, ?_⟩
    trivial
    by_cases hi0 : i < s0
    · have hs1 : s0 = 1 := by rcases hs0 with h | ⟨h, _⟩ <;> omega
      have hi00 : i = 0 := by omega
      subst hi00
      have hout : ((C0 r nc n (es ++ fs)).st.getD 0 begun).isOut = true := by
        rw [(z1 hs1).1]
        rcases hs0 with h | ⟨_, _, h⟩
        · omega
        · exact h
      rw [show (0 : Int) + ((0 : Nat) : Int) = ((0 : Nat) : Int) from rfl]
      refine leave_no ho hnc hn.1 hout B1 ?_
      exact ⟨_, .inl rfl, fs, _, rfl, B1, by rw [show max (0 + 1) s0 = max 0 s0 by omega]; exact row1, z1, fun h => absurd h (by omega), fun h => absurd h (by omega), by omega⟩
    · have hmx : max i s0 = i := by omega
      rw [hmx] at row1
      have hg : (C0 r nc n (es ++ fs)).st.getD i begun = begun := by
        have := row1.2 i (by omega)
        rwa [if_neg (by omega)] at this
      rw [show (0 : Int) + ((i : Nat) : Int) = ((i : Nat) : Int) by omega]
      refine leave_w (v := []) (t := 0) (cc := 0) ho hu hnc hn.2 (by omega) (by simp; omega) hg (by rw [row1.outs (by omega), hL]; omega) B1 fun j m2 j1 j2 B2 st2 la2 => ?_
      refine ⟨_, .inl rfl, fs ++ flt i j, _, rfl, by rw [← List.append_assoc]; exact B2, ?_, fun hs1 => ?_, fun hs0' j' hj' => ?_, fun _ _ => ⟨fs ++ flt i (j - 1), ?_⟩, ?_⟩
      · rw [← List.append_assoc, st2, show max (i + 1) s0 = i + 1 by omega]
        exact row1.more (by omega) rfl
      · obtain ⟨z2, z3⟩ := z1 hs1
        have hi1 : i ≠ 0 := by omega
        rw [← List.append_assoc, st2, getD_setB (by omega), if_neg hi1, la2 0 (by omega)]
        exact ⟨z2, z3⟩
      · rw [← List.append_assoc, st2, getD_setB (by omega)]
        by_cases hij : i = j'
        · rw [if_pos hij]; rfl
        · rw [if_neg hij]; exact o1 hs0' j' (by omega)
      · rw [show i + 1 - 1 = i by omega, List.append_assoc]
        congr 1
        obtain ⟨j', rfl⟩ : ∃ j', j = j' + 1 := ⟨j - 1, by omega⟩
        rw [Nat.add_sub_cancel]
        exact List.replicate_succ'
      · rw [List.length_append, flt_len, Nat.add_mul, Nat.one_mul]
        omega
  · rintro ρ m1 ⟨fs, y7, rfl, B1, row1, z1, o1, g1, hf1⟩
    have hrl : (rngD 0 ((L : Nat) : Int).toNat).length = L := by rw [rngW_len, Int.toNat_natCast]
    rw [hrl] at row1 o1 g1 hf1
    rw [show max L s0 = L by rcases hs0 with h | ⟨h, h', _⟩ <;> omega] at row1
    exact q fs m1 y7 B1 row1 z1 o1 g1 hf1
end
end L4
namespace L4
open PySem
section
variable {m m' : M} {ρ : Ss} {r : Ru} {most : Int} {w : Wo} {nc n s k a b L x : Nat} {es fs : List Ev} {e : Ev} {Q : D → M → Prop}
theorem WS.runPx {a n : Nat} {b : SF} {ds : List D} {P : D → Prop} (h : WS b (startD n ds) [] fun r m => ∃ y d, r = .rt y ∧ frz m y = some d ∧ P d) (hl : ds.length = a) : ∃ d, L4.runP a n b ds = some d ∧ P d := by
  obtain ⟨rr, m1, e1, y, d, rfl, e2, hp⟩ := h
  exact ⟨d, WS.runP ⟨_, _, e1, y, rfl, e2⟩ hl, hp⟩
structure RoadOk (r : Ru) (g : Gl) (x : Nat) (d : D) (nc : Nat) (es0 : List Ev) (e : Ev) : Prop where
  d : d = roadD nc x (es0 ++ [e]) (tsL (es0 ++ [e]))
  n1 : 1 ≤ nc
  n2 : nc ≤ 2
  v : Bv r nc x (es0 ++ [e])
  g : g.go ∈ r.goals (r.lim (x : Nat)) (WoB r nc x es0) e
  l : (es0 ++ [e]).length ≤ (r.cap.toNat + x + 5) * (r.need.toNat + 1)
theorem ground_map {α : Type} {f : α → D} (h : ∀ a, groundD (f a) = true) : ∀ l : List α, groundL (l.map f) = true
  | [] => rfl
  | a :: l => by rw [List.map_cons, groundL, h a, ground_map h l]; rfl
theorem road_ground : groundL [.tup (es.map Ev.d), .int (nc : Nat), .int (n : Nat), .tup (tsL es)] = true := by
  have h1 : groundL (es.map Ev.d) = true := ground_map (fun e => by cases e <;> rfl) es
  have h2 : groundL (tsL es) = true := ground_map (f := fun e : Ev => D.str e.t) (fun e => rfl) es
  simp only [groundL, h1, h2, groundD, Bool.and_self]
theorem frz_ts {b : Nat} (h : m[b]? = some (.lst (tsL es))) : frz m (.ref b) = some (.lst (tsL es)) := by
  have e1 : mapO (frzGo m 39) (tsL es) = some (tsL es) := mapO_self fun x hx => by
    obtain ⟨e, _, rfl⟩ := List.mem_map.mp hx
    rfl
  have p : pureD (.ref b) = false := rfl
  unfold frz
  rw [p]
  show frzGo m (39 + 1) (.ref b) = _
  unfold frzGo
  rw [h]
  show (mapO (frzGo m 39) (tsL es)).map _ = _
  rw [e1]
  rfl
theorem ne_all (g : Gl) : neD m (.str g.s) (.str "all") = some (.bl (!g.isAll)) := by cases g <;> exact eqB (by kernel_rfl)
theorem rb_c : (["Road", "Builder"] : List Str).contains "Builder" = true := by decide +kernel
theorem frz_w {d : D} (h : pureD d = true) : frz m d = some d := by unfold frz; rw [if_pos h]
theorem row_at0 {s : Nat} (h : RowB n s (C0 r nc n es).st) (hs : 1 ≤ s) (hn : s ≤ n) : ((C0 r nc n es).st.getD 0 begun).isIn = false := by
  have := h.2 0 (by omega)
  rwa [if_pos (by omega)] at this
local macro_rules | `(tactic| fail) => `(tactic| (first | ((with_reducible refine w_and_t ?_ ?_); exact rfl) | ((with_reducible refine w_and_f ?_ ?_); exact rfl) | ((with_reducible refine w_or_t ?_ ?_); exact rfl) | ((with_reducible refine w_or_f ?_ ?_); exact rfl) | ((with_reducible refine Kn.fdiv ?_ ?_); exact ⟨by decide, by decide⟩) | ((with_reducible refine Kn.mod ?_ ?_); decide) | ((with_reducible refine And.intro (a := (_ && _) = true) ?_ ?_); exact rfl) | ((with_reducible refine And.intro (a := List.length _ = List.length _) ?_ ?_); exact rfl; dsimp only [setMany, List.set_cons_succ, List.set_cons_zero]) | ((with_reducible refine ⟨wsz ?_, ?_⟩); first | decide | (show (_ : Nat) ≤ 1000; simp only [List.length_cons, List.length_nil]; decide)) | with_reducible refine ⟨_, rfl, ?_⟩))
local macro_rules | `(tactic| fail) => `(tactic| (first | ((with_reducible refine WG.nm ?_); dsimp only [setMany, List.set_cons_succ, List.set_cons_zero]) | ((with_reducible refine WG.one ?_); dsimp only [setMany, List.set_cons_succ, List.set_cons_zero]) | ((with_reducible refine WG.tup ?_ ?_); exact rfl; dsimp only [setMany, List.set_cons_succ, List.set_cons_zero]) | ((with_reducible apply WE.var); exact rfl) | ((with_reducible apply WE.upP); exact rfl) | ((with_reducible apply WE.upT); exact rfl) | ((with_reducible apply WE.upL); exact rfl) | ((with_reducible apply WE.upN); exact rfl) | ((with_reducible apply WS.aug); exact rfl) | ((with_reducible apply WE.newPL); exact rfl) | ((with_reducible refine WS.ite_t ?_ ?_); exact rfl) | ((with_reducible refine WS.ite_f ?_ ?_); exact rfl) | ((with_reducible refine WE.ite_t ?_ ?_); exact rfl) | ((with_reducible refine WE.ite_f ?_ ?_); exact rfl)))
local macro_rules | `(tactic| fail) => `(tactic| with_reducible (first | refine Kn.it_l ?_ | refine Kn.it_s ?_ | refine Kn.str_s ?_ | refine Kn.sl_t ?_ | refine Kn.sl_l ?_ | refine Kn.kx_need ?_ | refine Kn.kx_of ?_ | refine Kn.kx_base ?_ | refine Kn.kx_more ?_ | refine Kn.kx_most ?_ | refine Kn.kx_calm ?_ | refine Kn.kx_back ?_ | refine Kn.kx_under ?_ | refine Kn.kx_top ?_ | refine Kn.kx_up ?_ | refine Kn.kx_hears ?_ | refine Fld.need ?_ | refine Fld.of ?_ | refine Fld.base ?_ | refine Fld.more ?_ | refine Fld.most ?_ | refine Fld.calm ?_ | refine Fld.back ?_ | refine Fld.top ?_ | refine Fld.under ?_ | refine Fld.up ?_ | refine Fld.hears ?_ | refine Fld.cap ?_ | refine Mth.time ?_))
local macro_rules | `(tactic| fail) => `(tactic| with_reducible (first | refine WE.tupL ?_ | refine WE.dicP ?_ | refine WP.nil ?_ | refine WP.cons ?_ | refine WE.upd ?_ | refine WA.nil ?_ | refine WA.cons ?_ | refine WA.star ?_ | refine WO.no ?_ | refine WO.yes ?_ | refine WT.val ?_ | refine WT.and ?_ | refine WT.or ?_ | refine WT.not ?_ | refine WT.tt ?_ | refine WI.it ?_ | refine Kn.add_i ?_ | refine Kn.sub ?_ | refine Kn.neg ?_ | refine Kn.eq_i ?_ | refine Kn.ne_i ?_ | refine Kn.lt ?_ | refine Kn.le ?_ | refine Kn.gt ?_ | refine Kn.ge ?_ | refine Kn.int_i ?_ | refine Kn.int_b ?_ | refine Kn.abs ?_ | refine Kn.min2 ?_ | refine Kn.max2 ?_ | refine Kn.len_t ?_ | refine Kn.len_l ?_ | refine Kn.len_s ?_ | refine Kn.tup_t ?_ | refine Kn.tup_l ?_ | refine Kn.lis_t ?_ | refine Kn.lis_l ?_ | refine Kn.seq_t ?_ | refine Kn.seq_l ?_ | refine Kn.it_t ?_))
local macro_rules | `(tactic| fail) => `(tactic| with_reducible (first | refine WS.seq ?_ | refine WS.nx ?_ | refine WS.rt ?_ | refine WS.asg ?_ | refine WS.drop ?_ | refine WS.ret ?_ | refine WS.nop ?_ | refine WS.retN ?_ | refine WS.brk ?_ | refine WS.cont ?_ | refine WS.sif ?_ | refine WS.par ?_ | refine WG.setA ?_ | refine WE.c ?_ | refine WE.op ?_ | refine WE.call ?_ | refine WE.callM ?_ | refine WE.un ?_ | refine WE.tup ?_ | refine WE.lst ?_ | refine WE.newL ?_ | refine WE.eif ?_ | refine WE.sl ?_ | refine WE.isN ?_ | refine WE.notN ?_ | refine WE.not ?_ | refine WE.and ?_ | refine WE.or ?_ | refine WE.app ?_ | refine WE.tupR ?_ | refine WE.lisR ?_ | refine WE.m1 ?_ | refine WE.tbl ?_ | refine WE.tblNin ?_ | refine WE.chain ?_ | refine WE.fldF ?_ | refine WE.mth ?_ | refine WE.disp ?_ | refine WE.dicC ?_ | refine WE.tupA ?_))
local macro_rules | `(tactic| trivial) => `(tactic| (repeat fail))
/-- the end: a road is made -/
theorem road_end {g : Gl} {es0 : List Ev} (n1 : 1 ≤ nc) (n2 : nc ≤ 2) (hn : 1 ≤ x ∧ x ≤ 20) (hl : (es0 ++ [e]).length ≤ (r.cap.toNat + x + 5) * (r.need.toNat + 1)) (hl2 : (es0 ++ [e]).length ≤ 100000) (B : Bd r nc x k a b (es0 ++ [e]) m) (hg : g.go ∈ r.goals (r.lim (x : Nat)) (WoB r nc x es0) e) (x0 x1 x2 x4 x7 : Option D) :
    WS f_road_2 [x0, x1, x2, some (.int (x : Nat)), x4, some (.ref k), some (.int (nc : Nat)), x7] m fun rr m' => ∃ y d, rr = .rt y ∧ frz m' y = some d ∧ ∃ nc es0 e, RoadOk r g x d nc es0 e := by
  unfold f_road_2
  trivial
  refine Fld.ref B.o rb_c bd_f3 ?_
  trivial
  refine Kn.newG (ys := [.int (nc : Nat), .int (x : Nat), .lst (tsL (es0 ++ [e]))]) rfl ?_ (show newP "Road" F_Road___init__ _ = some (.obj "Road" rdNames [.tup ((es0 ++ [e]).map Ev.d), .int (nc : Nat), .int (x : Nat), .tup (tsL (es0 ++ [e]))]) from road_new (.inl rfl) n1 hn.1 B.v.mem (by omega) (by omega) hl2) road_ground ?_
  · have h1 : frz m (.int (nc : Nat)) = some (.int (nc : Nat)) := frz_w rfl
    have h2 : frz m (.int (x : Nat)) = some (.int (x : Nat)) := frz_w rfl
    simp only [mapO, h1, h2, frz_ts B.E]
  · refine ⟨_, _, rfl, frz_w ?_, nc, es0, e, rfl, n1, n2, B.v, hg, hl⟩
    have p1 : pureL ((es0 ++ [e]).map Ev.d) = true := evd_pure _
    have p2 : pureL (tsL (es0 ++ [e])) = true := evts_pure _
    simp only [pureD, pureL, p1, p2, Bool.and_self]
/-- kept at the end -/
theorem road_keep {g : Gl} (ho : r.Ok) (hu : 1 ≤ r.under ∧ r.under < 1073741824) (n1 : 1 ≤ nc) (n2 : nc ≤ 2) (hn : 1 ≤ x ∧ x ≤ 20) (hL : r.lim (x : Nat) = ((L : Nat) : Int)) (hLx : L < x) (hl : es.length + r.need.toNat ≤ (r.cap.toNat + x + 5) * (r.need.toNat + 1)) (hl2 : es.length ≤ 50000) (hrow : RowB x L (C0 r nc x es).st) (B : Bd r nc x k a b es m)
    (hg : g = .kept ∨ g = .swap ∧ 1 ≤ L ∧ (C0 r nc x es).la.getD 0 Str.empty = ("missed" : Str)) (x0 x2 x7 : Option D) :
    WS f_road_3 [x0, some (.str g.s), x2, some (.int (x : Nat)), some (.int (L : Nat)), some (.ref k), some (.int (nc : Nat)), x7] m fun rr m' => ∃ y d, rr = .rt y ∧ frz m' y = some d ∧ ∃ nc es0 e, RoadOk r g x d nc es0 e := by
  have h1 := ho.n1
  have h2 := ho.n2
  have h3 := ho.n3
  have hna : g.isAll = false := by rcases hg with rfl | ⟨rfl, _⟩ <;> rfl
  have hst := (B.v.ca ho n1).st
  have hgt : (C0 r nc x es).st.getD L begun = begun := by
    have := hrow.2 L hLx
    rwa [if_neg (by omega)] at this
  unfold f_road_3
  trivial
  refine Kn.mk (ne_all g) ?_
  rw [hna]
  trivial
  refine WE.mthM ?_
  trivial
  refine ⟨_, _, insOf_ref B.o, bd_n.2.2.2.2.2, ?_⟩
  trivial
  refine keep_w ho hu n1 hn.2 hLx (by omega) hgt (by rw [hrow.outs (by omega), hL]; omega) B fun i m2 hi B2 hst2 hf2 la2 v2 => ?_
  obtain ⟨cc, st2⟩ := hst2
  obtain ⟨gk, gs⟩ := goals_kept ho n1 hi hLx v2 hst st2 hf2
  trivial
  rw [← flt_snoc] at B2
  have hll : (es ++ flt L i ++ [Ev.turn 0 L true]).length = es.length + r.need.toNat := by
    rw [List.length_append, List.length_append, flt_len]
    simp only [List.length_singleton]
    omega
  refine road_end n1 n2 hn (by rw [hll]; exact hl) (by rw [hll]; omega) B2 ?_ _ _ _ _ _
  rcases hg with rfl | ⟨rfl, hL1, hm⟩
  · exact gk
  · exact gs la2 hL1 (row_at0 hrow hL1 (by omega)) hm
/-- road(rule, goal), where there is one -/
theorem road_some (h : Sh r) (ho : r.Ok) (hc : r.cap ≤ 100) (g : Gl) {y : Option Nat} (hnu : nuR g r.lasts r.top.toNat r.under.toNat r.up = some (x, y)) : ∃ d, F_road [r.d, .str g.s] = some d ∧ ∃ nc es0 e, RoadOk r g x d nc es0 e := by
  obtain ⟨x1, x20, L, hL, hLx, hg⟩ := nu_facts h g hnu
  have hu : 1 ≤ r.under ∧ r.under < 1073741824 := ⟨by have := h.u; have := h.u1; omega, by have := h.u; have := h.u2; omega⟩
  have h1 := ho.n1
  have h2 := ho.n2
  have h3 := ho.n3
  have hk1 := ho.k1
  have hcn : r.cap.toNat ≤ 100 := by omega
  have hnn : r.need.toNat ≤ 100 := by omega
  have hB : (r.cap.toNat + x + 5) * (r.need.toNat + 1) = r.cap.toNat * (r.need.toNat + 1) + x * (r.need.toNat + 1) + 5 * (r.need.toNat + 1) := by rw [Nat.add_mul, Nat.add_mul]
  have hLm : L * r.need.toNat ≤ x * (r.need.toNat + 1) := Nat.mul_le_mul hLx (by omega)
  have hcm : r.cap.toNat * (r.need.toNat + 1) ≤ 100 * 101 := Nat.mul_le_mul hcn (by omega)
  have hxm : x * (r.need.toNat + 1) ≤ 20 * 101 := Nat.mul_le_mul x20 (by omega)
  refine WS.runPx (n := 8) (b := f_road) ?_ rfl
  show WS _ [some r.d, some (.str g.s), none, none, none, none, none, none] [] _
  unfold f_road
  trivial
  refine Kn.call pure2rs (numbers_g h ho g) ?_
  rw [hnu]
  trivial
  unfold f_road_9
  trivial
  rw [show isNon (nuD (some (x, y))) = false by cases y <;> rfl]
  trivial
  unfold f_road_8
  trivial
  refine Kn.mk (show ixA _ (nuD (some (x, y))) (.int 0) = some (.int (x : Nat)) by cases y <;> rfl) ?_
  trivial
  unfold f_road_7
  trivial
  refine ⟨_, _, ru_ins, ru_nlim, ?_⟩
  trivial
  refine Kn.call rfl (limit_w hu (by omega)) ?_
  rw [hL]
  trivial
  refine WE.newM ?_
  trivial
  cases g with
  | all =>
    obtain ⟨rfl, rfl⟩ := hg
    refine bnew_w (nc := 1) (by decide) x20 rfl fun m1 a b B => ⟨rfl, ?_⟩
    trivial
    unfold f_road_6
    trivial
    refine Kn.mk (eq_goal .all).2.2 ?_
    trivial
    refine Kn.mk (eq_goal .all).2.2 ?_
    trivial
    unfold f_road_5
    refine WS.seq (outs_loop (es := []) (s0 := 0) ho hu (by decide) ⟨x1, x20⟩ hL hLx (by decide) (.inl rfl) (by rw [c0_nil (by decide)]; exact rowB_0) B _ _ _ _ _ fun fs m2 y7 B2 row2 _ o2 g2 hf => ?_)
    rw [List.nil_append] at B2 row2 o2
    obtain ⟨gs, rfl⟩ := g2 rfl (by decide)
    refine WS.nx ?_
    unfold f_road_4
    trivial
    refine Kn.mk (eq_goal .all).2.2 ?_
    trivial
    unfold f_road_3
    trivial
    refine Kn.mk (ne_all .all) ?_
    trivial
    refine road_end (nc := 1) (by decide) (by decide) ⟨x1, x20⟩ (by omega) (by omega) B2 ?_ _ _ _ _ _
    have hv : Bv r 1 1 gs := ⟨fun e he => B2.v.mem e (List.mem_append_left _ he), ((poss_snoc _ _ 0 _).mp B2.v.po).1⟩
    rw [goals_c0 hv ho (e := .turn 0 (1 - 1) true) ⟨by decide, by decide⟩ rfl]
    refine goal_all ?_
    have h5 := o2 rfl 0 (by decide)
    have h6 := row2.1
    match hB : (C0 r 1 1 (gs ++ [Ev.turn 0 (1 - 1) true])).st, h6 with
    | [z], _ =>
      rw [hB] at h5
      show (z.isOut && true) = true
      rw [show z.isOut = true from h5]
      rfl
  | kept =>
    refine bnew_w (nc := 1) (by decide) x20 rfl fun m1 a b B => ⟨rfl, ?_⟩
    trivial
    unfold f_road_6
    trivial
    refine Kn.mk (eq_goal .kept).2.2 ?_
    trivial
    refine Kn.mk (eq_goal .kept).2.2 ?_
    trivial
    unfold f_road_5
    refine WS.seq (outs_loop (es := []) (s0 := 0) ho hu (by decide) ⟨x1, x20⟩ hL hLx (by decide) (.inl rfl) (by rw [c0_nil (by decide)]; exact rowB_0) B _ _ _ _ _ fun fs m2 y7 B2 row2 _ o2 g2 hf => ?_)
    rw [List.nil_append] at B2 row2
    refine WS.nx ?_
    unfold f_road_4
    trivial
    refine Kn.mk (eq_goal .kept).2.2 ?_
    trivial
    exact road_keep (nc := 1) (g := .kept) ho hu (by decide) (by decide) ⟨x1, x20⟩ hL hg (by omega) (by omega) row2 B2 (.inl rfl) _ _ _
  | swap =>
    obtain ⟨hLx2, hL1, hls⟩ := hg
    have hst0 : ∀ nc, 1 ≤ nc → RowB x 0 (C0 r nc x []).st := fun nc h => by rw [c0_nil h]; exact rowB_0
    cases hla : (r.back.tr || decide (1 < r.time r.cap)) with
    | true =>
      have hla2 : r.back.tr = true ∨ 1 < r.time r.cap := by
        rw [Bool.or_eq_true] at hla
        exact hla.imp id of_decide_eq_true
      refine bnew_w (nc := 1) (by decide) x20 rfl fun m1 a b B => ⟨rfl, ?_⟩
      trivial
      unfold f_road_6
      trivial
      refine Kn.mk (eq_goal .swap).2.2 ?_
      trivial
      refine Kn.call rfl (lasting_ok ho) ?_
      rw [hla]
      trivial
      refine WE.mthM ?_
      trivial
      refine ⟨_, _, insOf_ref B.o, bd_n.2.2.2.1, ?_⟩
      trivial
      refine long_w ho hu hc (by decide) ⟨x1, x20⟩ (by decide) (hst0 1 (by decide)) (by omega) hla2 B fun fs m2 l t B2 st2 hlt hf => ?_
      rw [List.nil_append] at B2 st2
      have hlen0 : (C0 r 1 x []).st.length = x := (hst0 1 (by decide)).1
      have hg2 : (C0 r 1 x fs).st.getD 0 begun = .out l t := by rw [st2, getD_setB (by omega), if_pos rfl]
      trivial
      unfold f_road_5
      refine WS.seq (outs_loop (es := fs) (s0 := 1) ho hu (by decide) ⟨x1, x20⟩ hL hLx (by omega) (.inr ⟨rfl, hL1, by rw [hg2]; rfl⟩) (by rw [st2]; exact (hst0 1 (by decide)).more (by omega) rfl) B2 _ _ _ _ _ fun gs m3 y7 B3 row3 z3 _ _ hf3 => ?_)
      obtain ⟨z4, _⟩ := z3 rfl
      rw [hg2] at z4
      refine WS.nx ?_
      unfold f_road_4
      trivial
      refine Kn.mk (eq_goal .swap).2.2 ?_
      trivial
      refine Kn.call rfl (lasting_ok ho) ?_
      rw [hla]
      trivial
      refine WE.mthM ?_
      trivial
      refine ⟨_, _, insOf_ref B3.o, bd_n.2.1, ?_⟩
      trivial
      have hl3 : (fs ++ gs).length ≤ r.cap.toNat * (r.need.toNat + 1) + L * r.need.toNat := by rw [List.length_append]; omega
      refine turn_w (s := 0) ho hu (by decide) x20 (by omega) (by omega) false B3 fun m4 B4 => ?_
      have hct := c0_turn B3.v ho (by decide) (show 0 < x by omega) false
      rw [z4] at hct
      have hni : (r.afterTurn (.out l t) false (decide (((C0 r 1 x (fs ++ gs)).outs : Int) < r.lim (x : Nat)))).1.isIn = false := by
        show (if l == 1 then r.comeBack t else Sd.out (l - 1) t).isIn = false
        by_cases h1 : l = 1
        · rw [beq_iff_eq.mpr h1]
          rcases hlt with h | h
          · exact absurd h1 h
          · show (r.comeBack t).isIn = false
            unfold Ru.comeBack
            cases hb : r.back with
            | half => rw [hb] at h; cases h
            | opn => rw [hb] at h; cases h
            | trial => rfl
        · rw [beq_eq_false_iff_ne.mpr h1]
          rfl
      have row4 : RowB x L (C0 r 1 x (fs ++ gs ++ [.turn 0 0 false])).st := by
        rw [hct, put_st]
        exact row3.same (by omega) hLx hni
      have la4 : (C0 r 1 x (fs ++ gs ++ [.turn 0 0 false])).la.getD 0 Str.empty = ("missed" : Str) := by
        rw [hct, put_la_at (B3.v.ca ho (by decide)) (by omega), if_pos rfl]
        rfl
      have hl4 : (fs ++ gs ++ [Ev.turn 0 0 false]).length = (fs ++ gs).length + 1 := by rw [List.length_append]; rfl
      trivial
      exact road_keep (nc := 1) (g := .swap) ho hu (by decide) (by decide) ⟨x1, x20⟩ hL hLx2 (by omega) (by omega) row4 B4 (.inr ⟨rfl, hL1, la4⟩) _ _ _
    | false =>
      rw [Bool.or_eq_false_iff] at hla
      obtain ⟨htr, htc⟩ := hla
      have hh : r.hears.isNo = false := by
        unfold Ru.lasts at hls
        rw [htr, htc, Bool.false_or, Bool.false_or] at hls
        simpa using hls
      refine bnew_w (nc := 2) (by decide) x20 rfl fun m1 a b B => ⟨rfl, ?_⟩
      trivial
      unfold f_road_6
      trivial
      refine Kn.mk (eq_goal .swap).2.2 ?_
      trivial
      refine Kn.call rfl (lasting_ok ho) ?_
      rw [htr, htc, Bool.or_false]
      trivial
      refine Kn.mk (eq_goal .swap).2.2 ?_
      trivial
      refine WE.mthM ?_
      trivial
      refine ⟨_, _, insOf_ref B.o, bd_n.2.2.2.2.1, ?_⟩
      trivial
      refine missed_w ho hu ⟨x1, x20⟩ (by omega) htr (of_decide_eq_false htc) hh B fun fs m2 l t B2 st2 la2 hf => ?_
      have hlen0 : (C0 r 2 x []).st.length = x := (hst0 2 (by decide)).1
      have hg2 : (C0 r 2 x fs).st.getD 0 begun = .out l t := by rw [st2, getD_setB (by omega), if_pos rfl]
      trivial
      unfold f_road_5
      refine WS.seq (outs_loop (es := fs) (s0 := 1) ho hu (by decide) ⟨x1, x20⟩ hL hLx (by omega) (.inr ⟨rfl, hL1, by rw [hg2]; rfl⟩) (by rw [st2]; exact (hst0 2 (by decide)).more (by omega) rfl) B2 _ _ _ _ _ fun gs m3 y7 B3 row3 z3 _ _ hf3 => ?_)
      obtain ⟨_, z5⟩ := z3 rfl
      rw [la2] at z5
      have hl3 : (fs ++ gs).length = fs.length + gs.length := List.length_append ..
      refine WS.nx ?_
      unfold f_road_4
      trivial
      refine Kn.mk (eq_goal .swap).2.2 ?_
      trivial
      refine Kn.call rfl (lasting_ok ho) ?_
      rw [htr, htc, Bool.or_false]
      trivial
      exact road_keep (nc := 2) (g := .swap) ho hu (by decide) (by decide) ⟨x1, x20⟩ hL hLx2 (by omega) (by omega) row3 B3 (.inr ⟨rfl, hL1, z5⟩) _ _ _
/-- road(rule, goal), where there is none -/
theorem road_none (h : Sh r) (ho : r.Ok) (g : Gl) (hnu : nuR g r.lasts r.top.toNat r.under.toNat r.up = none) : F_road [r.d, .str g.s] = some .non := by
  refine WS.runP (n := 8) (b := f_road) ?_ rfl
  show WS _ [some r.d, some (.str g.s), none, none, none, none, none, none] [] _
  unfold f_road
  trivial
  refine Kn.call pure2rs (numbers_g h ho g) ?_
  rw [hnu]
  trivial
  unfold f_road_9
  trivial
  exact frz_w rfl
end
end L4
namespace L4
open PySem
section
variable {m : M}
theorem callPX_p {F : List D → Option Rv} {xs : List D} {z : Rv} (hp : pureL xs = true) (e : F xs = some z) : callPX F m xs = some z := by
  unfold callPX
  rw [if_pos hp, e]
theorem runPX_go {a n : Nat} {b : SX} {ds : List D} {z : Option Rv} (h : ds.length = a) (e : endPX (b (startD n ds) []) = z) : runPX a n b ds = z := by
  unfold runPX
  rw [if_pos h, e]
def Rv.isOk : Rv → Bool
  | .ok _ => true
  | .ex _ => false
end
end L4
namespace L4
open PySem
section
variable {m m0 : M} {ρ : Ss} {r : Ru} {n : Nat} {x : D}
def xG : Xn := ⟨"InvalidGoal", [], []⟩
/-- what is no goal -/
def Od (x : D) : Prop := pureD x = true ∧ FX_need_goal [x] = some (.ex xG)
theorem od_lst {ds : List D} (h : pureL ds = true) : Od (.lst ds) := ⟨h, by kernel_rfl⟩
theorem od_tup {ds : List D} (h : pureL ds = true) : Od (.tup ds) := ⟨h, by kernel_rfl⟩
theorem od_int (i : Int) : Od (.int i) := ⟨rfl, by kernel_rfl⟩
theorem od_bl (b : Bool) : Od (.bl b) := ⟨rfl, by kernel_rfl⟩
theorem od_non : Od .non := ⟨rfl, by kernel_rfl⟩
theorem od_ru : Od r.d := ⟨rfl, by kernel_rfl⟩
theorem od_leaf {d : D} (h : d ∈ ([.int 0, .int 1, .bl true, .non, .str "", .str "All", .str "all ", .str "keep", .str "felt", .str "swap\n", .str "kep", .int 1000000000, .int (-1)] : List D)) : Od d := by
  simp only [List.mem_cons, List.not_mem_nil, or_false] at h
  rcases h with rfl | rfl | rfl | rfl | rfl | rfl | rfl | rfl | rfl | rfl | rfl | rfl | rfl
  · exact od_int _
  · exact od_int _
  · exact od_bl _
  · exact od_non
  · exact ⟨rfl, by kernel_rfl⟩
  · exact ⟨rfl, by kernel_rfl⟩
  · exact ⟨rfl, by kernel_rfl⟩
  · exact ⟨rfl, by kernel_rfl⟩
  · exact ⟨rfl, by kernel_rfl⟩
  · exact ⟨rfl, by kernel_rfl⟩
  · exact ⟨rfl, by kernel_rfl⟩
  · exact od_int _
  · exact od_int _
theorem od_odd {d z : D} (hz : Od z) (h : d ∈ ([.str "", .str "ALL", .str "all kept", .non, .int 0, .bl true, .lst [.str "all"], .tup [.str "kept"], r.d, z] : List D)) : Od d := by
  simp only [List.mem_cons, List.not_mem_nil, or_false] at h
  rcases h with rfl | rfl | rfl | rfl | rfl | rfl | rfl | rfl | rfl | rfl
  · exact ⟨rfl, by kernel_rfl⟩
  · exact ⟨rfl, by kernel_rfl⟩
  · exact ⟨rfl, by kernel_rfl⟩
  · exact od_non
  · exact od_int _
  · exact od_bl _
  · exact od_lst rfl
  · exact od_tup rfl
  · exact od_ru
  · exact hz
theorem od_p1 (h : Od x) : pureL [x] = true := by show (pureD x && true) = true; rw [h.1]; rfl
theorem od_p2 (h : Od x) : pureL [r.d, x] = true := by show (pureD r.d && (pureD x && true)) = true; rw [h.1]; rfl
theorem fx_numbers (h : Od x) : FX_numbers [r.d, x] = some (.ex xG) := by
  have e := callPX_p (m := []) (od_p1 h) h.2
  refine runPX_go rfl ?_
  show endPX (bd (bdY _ ((callPX FX_need_goal [] [x]).map _) _) _) = _
  rw [e]
  rfl
theorem fx_happens (h : Od x) : FX_happens [r.d, x] = some (.ex xG) := by
  have e := callPX_p (m := []) (od_p2 h) (fx_numbers (r := r) h)
  refine runPX_go rfl ?_
  show endPX (bdY _ (bdX ((callPX FX_numbers [] [r.d, x]).map _) _) _) = _
  rw [e]
  rfl
theorem fx_road (h : Od x) : FX_road [r.d, x] = some (.ex xG) := by
  have e := callPX_p (m := []) (od_p2 h) (fx_numbers (r := r) h)
  refine runPX_go rfl ?_
  show endPX (bd (bdY _ ((callPX FX_numbers [] [r.d, x]).map _) _) _) = _
  rw [e]
  rfl
theorem let_end {w : Str} {x : D} {z : Rv} {m : M} (ho : (∃ d, z = .ok d) ∨ z = .ex xG) (h : ∀ ρ : Ss, ρ = [some (.glo w), some r.d, some x, some (.bl true), none] → y__law_is_let_1 ρ [] = bdY ρ (some (z, [])) fun _ m1 => some (.fl (.nx ρ), m1)) :
    F__law_is_let [.glo w, r.d, x] = some (.bl z.isOk) := by
  have e := h _ rfl
  unfold F__law_is_let
  refine oxP_of ?_
  refine runPX_go rfl ?_
  show endPX (bd (bd (y__law_is_let_1 [some (.glo w), some r.d, some x, some (.bl true), none] []) _) _) = _
  rw [e]
  rcases ho with ⟨d, rfl⟩ | rfl
  · rfl
  · kernel_rfl
theorem let_of {w : Str} {F : List D → Option Rv} {z : Rv} (hw : ([("happens", FX_happens), ("numbers", FX_numbers), ("road", FX_road)] : List (Str × (List D → Option Rv))).lookup w = some F) (hp : pureL [r.d, x] = true) (e : F [r.d, x] = some z) (ho : (∃ d, z = .ok d) ∨ z = .ex xG) :
    F__law_is_let [.glo w, r.d, x] = some (.bl z.isOk) := by
  refine let_end (m := []) ho ?_
  rintro ρ rfl
  unfold y__law_is_let_1 yDrop eCallGX
  show bdY _ (match List.lookup w [("happens", FX_happens), ("numbers", FX_numbers), ("road", FX_road)] with
    | some F => eCallX (callPX F) _ _ _
    | none => none) _ = _
  rw [hw]
  show bdY _ ((callPX F [] [r.d, x]).map _) _ = _
  rw [callPX_p hp e]
  rfl
theorem w_of {i : Nat} {y : D} (h : ([.glo "happens", .glo "numbers", .glo "road"] : List D)[i]? = some y) : ∃ w F, y = .glo w ∧ ([("happens", FX_happens), ("numbers", FX_numbers), ("road", FX_road)] : List (Str × (List D → Option Rv))).lookup w = some F ∧ pureL [y] = true ∧ (F = FX_happens ∨ F = FX_numbers ∨ F = FX_road) := by
  rcases i with _ | _ | _ | i
  · cases h; exact ⟨_, _, rfl, by kernel_rfl, rfl, .inl rfl⟩
  · cases h; exact ⟨_, _, rfl, by kernel_rfl, rfl, .inr (.inl rfl)⟩
  · cases h; exact ⟨_, _, rfl, by kernel_rfl, rfl, .inr (.inr rfl)⟩
  · cases h
theorem let_no {w : Str} {F : List D → Option Rv} (hw : ([("happens", FX_happens), ("numbers", FX_numbers), ("road", FX_road)] : List (Str × (List D → Option Rv))).lookup w = some F) (hF : F = FX_happens ∨ F = FX_numbers ∨ F = FX_road) (h : Od x) : F__law_is_let [.glo w, r.d, x] = some (.bl false) := by
  refine let_of (z := .ex xG) hw (od_p2 h) ?_ (.inr rfl)
  rcases hF with rfl | rfl | rfl
  · exact fx_happens h
  · exact fx_numbers h
  · exact fx_road h
theorem let_yes {w : Str} {F : List D → Option Rv} (hw : ([("happens", FX_happens), ("numbers", FX_numbers), ("road", FX_road)] : List (Str × (List D → Option Rv))).lookup w = some F) (hF : F = FX_happens ∨ F = FX_numbers ∨ F = FX_road) (h : Sh r) (ho : r.Ok) (hc : r.cap ≤ 100) (g : Gl) :
    F__law_is_let [.glo w, r.d, .str g.s] = some (.bl true) := by
  have key : ∃ d, F [r.d, .str g.s] = some (.ok d) := by
    rcases hF with rfl | rfl | rfl
    · exact ⟨_, rx_happens _ _ (happens_g h ho g)⟩
    · exact ⟨_, rx_numbers _ _ (numbers_g h ho g)⟩
    · cases hn : nuR g r.lasts r.top.toNat r.under.toNat r.up with
      | none => exact ⟨_, rx_road _ _ (road_none h ho g hn)⟩
      | some p =>
        obtain ⟨d, e, _⟩ := road_some h ho hc g (x := p.1) (y := p.2) hn
        exact ⟨d, rx_road _ _ e⟩
  obtain ⟨d, e⟩ := key
  exact let_of (z := .ok d) hw rfl e (.inl ⟨d, rfl⟩)
theorem pow9 (m : M) : powD m (.int 10) (.int 9) = some (.int 1000000000) := by kernel_rfl
theorem ni_tt : isNotD m (.bl true) (.bl true) = some (.bl false) := by kernel_rfl
theorem ni_ff : isNotD m (.bl false) (.bl false) = some (.bl false) := by kernel_rfl
theorem goal36 {i : Nat} {y : D} (h : ([.str "all", .str "kept", .str "swap"] : List D)[i]? = some y) : ∃ g : Gl, y = .str g.s := by
  rcases i with _ | _ | _ | i
  · cases h; exact ⟨.all, rfl⟩
  · cases h; exact ⟨.kept, rfl⟩
  · cases h; exact ⟨.swap, rfl⟩
  · cases h
theorem pl_app {a b : List D} : pureL a = true → pureL b = true → pureL (a ++ b) = true := by
  induction a with
  | nil => intro _ h; exact h
  | cons x a ih =>
    intro h1 h2
    obtain ⟨h3, h4⟩ := Bool.and_eq_true _ _ ▸ (show (pureD x && pureL a) = true from h1)
    show (pureD x && pureL (a ++ b)) = true
    rw [h3, ih h4 h2]
    rfl
end
end L4
namespace L4
open PySem
section
variable {m m0 : M} {ρ : Ss} {r : Ru} {n : Nat}
local macro_rules | `(tactic| fail) => `(tactic| (first | ((with_reducible refine w_and_t ?_ ?_); exact rfl) | ((with_reducible refine w_and_f ?_ ?_); exact rfl) | ((with_reducible refine w_or_t ?_ ?_); exact rfl) | ((with_reducible refine w_or_f ?_ ?_); exact rfl) | ((with_reducible refine Kn.fdiv ?_ ?_); exact ⟨by decide, by decide⟩) | ((with_reducible refine Kn.mod ?_ ?_); decide) | ((with_reducible refine And.intro (a := (_ && _) = true) ?_ ?_); exact rfl) | ((with_reducible refine And.intro (a := List.length _ = List.length _) ?_ ?_); exact rfl; dsimp only [setMany, List.set_cons_succ, List.set_cons_zero]) | ((with_reducible refine ⟨wsz ?_, ?_⟩); first | decide | (show (_ : Nat) ≤ 1000; simp only [List.length_cons, List.length_nil]; decide)) | with_reducible refine ⟨_, rfl, ?_⟩))
local macro_rules | `(tactic| fail) => `(tactic| (first | ((with_reducible refine WG.nm ?_); dsimp only [setMany, List.set_cons_succ, List.set_cons_zero]) | ((with_reducible refine WG.one ?_); dsimp only [setMany, List.set_cons_succ, List.set_cons_zero]) | ((with_reducible refine WG.tup ?_ ?_); exact rfl; dsimp only [setMany, List.set_cons_succ, List.set_cons_zero]) | ((with_reducible apply WE.var); exact rfl) | ((with_reducible apply WE.upP); exact rfl) | ((with_reducible apply WE.upT); exact rfl) | ((with_reducible apply WE.upL); exact rfl) | ((with_reducible apply WE.upN); exact rfl) | ((with_reducible apply WS.aug); exact rfl) | ((with_reducible apply WE.newPL); exact rfl) | ((with_reducible refine WS.ite_t ?_ ?_); exact rfl) | ((with_reducible refine WS.ite_f ?_ ?_); exact rfl) | ((with_reducible refine WE.ite_t ?_ ?_); exact rfl) | ((with_reducible refine WE.ite_f ?_ ?_); exact rfl)))
local macro_rules | `(tactic| fail) => `(tactic| with_reducible (first | refine Kn.it_l ?_ | refine Kn.it_s ?_ | refine Kn.str_s ?_ | refine Kn.sl_t ?_ | refine Kn.sl_l ?_ | refine Kn.kx_need ?_ | refine Kn.kx_of ?_ | refine Kn.kx_base ?_ | refine Kn.kx_more ?_ | refine Kn.kx_most ?_ | refine Kn.kx_calm ?_ | refine Kn.kx_back ?_ | refine Kn.kx_under ?_ | refine Kn.kx_top ?_ | refine Kn.kx_up ?_ | refine Kn.kx_hears ?_ | refine Fld.need ?_ | refine Fld.of ?_ | refine Fld.base ?_ | refine Fld.more ?_ | refine Fld.most ?_ | refine Fld.calm ?_ | refine Fld.back ?_ | refine Fld.top ?_ | refine Fld.under ?_ | refine Fld.up ?_ | refine Fld.hears ?_ | refine Fld.cap ?_ | refine Mth.time ?_))
local macro_rules | `(tactic| fail) => `(tactic| with_reducible (first | refine WE.tupL ?_ | refine WE.dicP ?_ | refine WP.nil ?_ | refine WP.cons ?_ | refine WE.upd ?_ | refine WA.nil ?_ | refine WA.cons ?_ | refine WA.star ?_ | refine WO.no ?_ | refine WO.yes ?_ | refine WT.val ?_ | refine WT.and ?_ | refine WT.or ?_ | refine WT.not ?_ | refine WT.tt ?_ | refine WI.it ?_ | refine Kn.add_i ?_ | refine Kn.sub ?_ | refine Kn.neg ?_ | refine Kn.eq_i ?_ | refine Kn.ne_i ?_ | refine Kn.lt ?_ | refine Kn.le ?_ | refine Kn.gt ?_ | refine Kn.ge ?_ | refine Kn.int_i ?_ | refine Kn.int_b ?_ | refine Kn.abs ?_ | refine Kn.min2 ?_ | refine Kn.max2 ?_ | refine Kn.len_t ?_ | refine Kn.len_l ?_ | refine Kn.len_s ?_ | refine Kn.tup_t ?_ | refine Kn.tup_l ?_ | refine Kn.lis_t ?_ | refine Kn.lis_l ?_ | refine Kn.seq_t ?_ | refine Kn.seq_l ?_ | refine Kn.it_t ?_))
local macro_rules | `(tactic| fail) => `(tactic| with_reducible (first | refine WS.seq ?_ | refine WS.nx ?_ | refine WS.rt ?_ | refine WS.asg ?_ | refine WS.drop ?_ | refine WS.ret ?_ | refine WS.nop ?_ | refine WS.retN ?_ | refine WS.brk ?_ | refine WS.cont ?_ | refine WS.sif ?_ | refine WS.par ?_ | refine WG.setA ?_ | refine WE.c ?_ | refine WE.op ?_ | refine WE.call ?_ | refine WE.callM ?_ | refine WE.un ?_ | refine WE.tup ?_ | refine WE.lst ?_ | refine WE.newL ?_ | refine WE.eif ?_ | refine WE.sl ?_ | refine WE.isN ?_ | refine WE.notN ?_ | refine WE.not ?_ | refine WE.and ?_ | refine WE.or ?_ | refine WE.app ?_ | refine WE.tupR ?_ | refine WE.lisR ?_ | refine WE.m1 ?_ | refine WE.tbl ?_ | refine WE.tblNin ?_ | refine WE.chain ?_ | refine WE.fldF ?_ | refine WE.mth ?_ | refine WE.disp ?_ | refine WE.dicC ?_ | refine WE.tupA ?_))
local macro_rules | `(tactic| trivial) => `(tactic| (repeat fail))
theorem any_b : ∀ (f deep : Nat) {m : M}, deep < f → deep < 100 → BX n m0 m → ∀ {Q : D → M → Prop}, (∀ d m', Od d → BX n m0 m' → Q d m') → Wr (F__law_any f [.ref n, .int (deep : Nat)] m) Q
  | 0, _, _, h, _, _, _, _ => absurd h (Nat.not_lt_zero _)
  | f + 1, deep, m, hd, h100, hb, Q, q => by
    show Wr (runM 2 5 (f__law_any (F__law_any f)) [.ref n, .int (deep : Nat)] m) Q
    refine WS.runM (b := f__law_any (F__law_any f)) (n := 5) ?_ rfl
    show WS _ [some (.ref n), some (.int (deep : Nat)), none, none, none] m _
    trivial
    refine take_b hb (by decide) (by decide) fun k m1 k0 k1 hb => ?_
    trivial
    cases hz : decide ((0 : Int) < (deep : Nat))
    · trivial
      refine Kn.mk (pow9 _) ?_
      trivial
      refine pick_b hb (by show 1 ≤ 13; decide) (by show 13 < 1000; decide) fun d m2 hd2 hb2 => ?_
      trivial
      exact .inl ⟨_, rfl, q _ _ (od_leaf hd2) hb2⟩
    · trivial
      cases h4 : decide (k < 4)
      · trivial
        refine Kn.mk (pow9 _) ?_
        trivial
        refine pick_b hb (by show 1 ≤ 13; decide) (by show 13 < 1000; decide) fun d m2 hd2 hb2 => ?_
        trivial
        exact .inl ⟨_, rfl, q _ _ (od_leaf hd2) hb2⟩
      · trivial
        obtain ⟨dp, rfl⟩ : ∃ j, deep = j + 1 := ⟨deep - 1, by have := of_decide_eq_true hz; omega⟩
        refine WE.lcI (fun m2 acc => BX n m0 m2 ∧ pureL acc = true) ?_
        refine WI.r1 ?_
        trivial
        refine take_b hb (by decide) (by decide) fun j m2 j0 j1 hb2 => ?_
        trivial
        have hlen : (rngD 0 j.toNat).length = j.toNat := by unfold rngD; rw [List.length_map, List.length_range]
        refine ⟨by omega, by omega, ⟨hb2, rfl⟩, ?_, ?_⟩
        · rintro i x m3 acc hx rfl ⟨hb3, hv⟩
          refine ⟨[x], rfl, ?_⟩
          trivial
          have e1 : ((dp + 1 : Nat) : Int) - 1 = (dp : Nat) := by omega
          rw [e1]
          exact any_b f dp (by omega) (by omega) hb3 fun d m4 hd4 hb4 => ⟨hb4, pl_app hv (od_p1 hd4)⟩
        · rintro m3 acc hl ⟨hb3, hv⟩
          have hl3 : acc.length ≤ 3 := by omega
          trivial
          cases h2 : decide (k < 2)
          · refine WE.ite_f rfl ?_
            trivial
            exact .inl ⟨_, rfl, q _ _ (od_tup hv) hb3⟩
          · refine WE.ite_t rfl ?_
            trivial
            exact .inl ⟨_, rfl, q _ _ (od_lst hv) hb3⟩
def I36 (s : D) (m : M) (ρ : Ss) : Prop := noIns m = true ∧ ∃ x1 x2 x3 x4 x5 x6, ρ = [some s, x1, x2, x3, x4, x5, x6]
theorem odd36 {s k : D} {w : Str} {F : List D → Option Rv} (hb : BX n m0 m) (hw : ([("happens", FX_happens), ("numbers", FX_numbers), ("road", FX_road)] : List (Str × (List D → Option Rv))).lookup w = some F) (hF : F = FX_happens ∨ F = FX_numbers ∨ F = FX_road) (hp : pureL [.glo w] = true) (x5 x6 : Option D) :
    WS f_law_3 [some s, some k, some (.ref n), some r.d, some (.glo w), x5, x6] m fun rr m' => ∃ x6, rr = .nx [some s, some k, some (.ref n), some r.d, some (.glo w), x5, x6] ∧ BX n m0 m' := by
  unfold f_law_3
  refine WS.forI (fun i ρ m' => BX n m0 m' ∧ ∃ x6, ρ = [some s, some k, some (.ref n), some r.d, some (.glo w), x5, x6]) ?_
  trivial
  refine any_b 10 5 (by decide) (by decide) hb fun z m1 hz hb => ?_
  trivial
  refine ⟨⟨hb, _, rfl⟩, ?_, ?_⟩
  · rintro i y ρ m' hi ⟨hb, x6, rfl⟩
    have ho : Od y := od_odd hz (List.mem_of_getElem? hi)
    trivial
    unfold f_law_2
    trivial
    refine Kn.call (show pureL [.glo w, r.d, y] = true from od_p2 (r := r) ho) (let_no hw hF ho) ?_
    trivial
    refine Kn.mk ni_ff ?_
    trivial
    exact ⟨_, .inl rfl, hb, _, rfl⟩
  · rintro ρ m' ⟨hb, x6, rfl⟩
    exact ⟨_, rfl, hb⟩
theorem turn36 {s k : D} (hb : BX n m m) (x3 x4 x5 x6 : Option D) : WS f_law_6 [some s, some k, some (.ref n), x3, x4, x5, x6] m fun rr m' => ∃ ρ, rr = .nx ρ ∧ I36 s m' ρ := by
  have hn := hb.lt
  unfold f_law_6
  trivial
  refine rule_b hb hn ⟨by decide, by decide⟩ ⟨by decide, by decide⟩ ⟨by decide, by decide⟩ fun r d m1 hw _ hb hdl hd => ?_
  have h9 := hw.b9 (by decide)
  have hok : r.Ok := ⟨hw.a1, hw.a2, by have := hw.a3; omega, hw.m1, by have := hw.m2; omega, hw.b1, hw.b2, hw.c1, (capB_pos h9).1⟩
  trivial
  refine rule_of_b hd hb.ni (hw.tn (by decide) (by decide) (by decide)) hw.va ?_
  trivial
  unfold f_law_5
  refine WS.forI (fun i ρ m' => BX n m m' ∧ ∃ x4 x5 x6, ρ = [some s, some k, some (.ref n), some r.d, x4, x5, x6]) ?_
  trivial
  refine ⟨⟨hb, _, _, _, rfl⟩, ?_, ?_⟩
  · rintro i y ρ m' hi ⟨hb, x4, x5, x6, rfl⟩
    obtain ⟨w, F, rfl, hlk, hp, hF⟩ := w_of hi
    trivial
    unfold f_law_4
    refine WS.seq ?_
    refine WS.forI (fun i ρ m2 => m2 = m' ∧ ∃ x5 x6, ρ = [some s, some k, some (.ref n), some r.d, some (.glo w), x5, x6]) ?_
    trivial
    refine ⟨⟨rfl, _, _, rfl⟩, ?_, ?_⟩
    · rintro i y ρ m2 hi ⟨rfl, x5, x6, rfl⟩
      obtain ⟨g, rfl⟩ := goal36 hi
      trivial
      unfold f_law_1
      trivial
      refine Kn.call (show pureL [.glo w, r.d, .str g.s] = true from rfl) (let_yes hlk hF hw.sh hok (capB_pos h9).2 g) ?_
      trivial
      refine Kn.mk ni_tt ?_
      trivial
      exact ⟨_, .inl rfl, rfl, _, _, rfl⟩
    · rintro ρ m2 ⟨rfl, x5, x6, rfl⟩
      refine WS.mono (odd36 hb hlk hF hp x5 x6) ?_
      rintro _ m3 ⟨x6, rfl, hb⟩
      exact ⟨_, .inl rfl, hb, _, _, _, rfl⟩
  · rintro ρ m' ⟨hb, x4, x5, x6, rfl⟩
    exact ⟨_, rfl, hb.ni, _, _, _, _, _, _, rfl⟩
theorem law_plain : ∀ ns : List Int, ns.length ≤ 63 → F_law [.scr (ns.map D.int)] = some (.bl true) := by
  intro ns hn
  refine WS.runP (n := 7) (b := f_law) ?_ rfl
  show WS _ [some (.scr (ns.map D.int)), none, none, none, none, none, none] [] _
  trivial
  refine WS.forI (fun i ρ m' => I36 (.scr (ns.map D.int)) m' ρ) ?_
  refine WI.r1 ?_
  trivial
  rw [List.length_map]
  refine ⟨by (repeat' split) <;> omega, ⟨rfl, _, _, _, _, _, _, rfl⟩, ?_, ?_⟩
  · rintro i x ρ m1 hi ⟨hni, x1, x2, x3, x4, x5, x6, rfl⟩
    obtain ⟨hi, rfl⟩ := rng_at hi
    refine WG.one ?_
    dsimp only [setMany, List.set_cons_succ, List.set_cons_zero]
    unfold f_law_7
    refine WS.seq (WS.asg (WE.callM ?_))
    trivial
    refine box_b ns hni (by (repeat' split at hi) <;> omega) fun n m2 hlt hb => ?_
    refine WG.nm ?_
    dsimp only [List.set_cons_succ, List.set_cons_zero]
    refine WS.nx ?_
    refine WS.mono (turn36 hb _ _ _ _) ?_
    rintro _ m3 ⟨ρ, rfl, h1⟩
    exact ⟨ρ, .inl rfl, h1⟩
  · rintro ρ m1 ⟨hni, x1, x2, x3, x4, x5, x6, rfl⟩
    trivial
    exact frz_b
end
end L4
namespace L4
open PySem L2 TL
open L3 (Df Md Ki Cmd)
structure Tx (w : World) (K : PySem.W.Frag) (mg : Str → Option Value) : Prop where
  b_abs : mg "abs" = none
  b_all : mg "all" = none
  b_bool : mg "bool" = none
  b_int : mg "int" = none
  b_isinstance : mg "isinstance" = none
  b_len : mg "len" = none
  b_list : mg "list" = none
  b_max : mg "max" = none
  b_min : mg "min" = none
  b_range : mg "range" = none
  b_str : mg "str" = none
  b_tuple : mg "tuple" = none
  b_zip : mg "zip" = none
  c_Builder : Cls K (He.ga K "Builder")
  n_Builder_by : NoAttr K (He.ga K "Builder") "by"
  n_Builder_events : NoAttr K (He.ga K "Builder") "events"
  n_Builder_now : NoAttr K (He.ga K "Builder") "now"
  c_Road : Cls K (He.ga K "Road")
  n_Road_callers : NoAttr K (He.ga K "Road") "callers"
  n_Road_events : NoAttr K (He.ga K "Road") "events"
  n_Road_servers : NoAttr K (He.ga K "Road") "servers"
  n_Road_told_events : NoAttr K (He.ga K "Road") "told_events"
  c_Rule : Cls K (He.ga K "Rule")
  n_Rule_back : NoAttr K (He.ga K "Rule") "back"
  n_Rule_base : NoAttr K (He.ga K "Rule") "base"
  n_Rule_calm : NoAttr K (He.ga K "Rule") "calm"
  n_Rule_cap : NoAttr K (He.ga K "Rule") "cap"
  n_Rule_hears : NoAttr K (He.ga K "Rule") "hears"
  n_Rule_more : NoAttr K (He.ga K "Rule") "more"
  n_Rule_most : NoAttr K (He.ga K "Rule") "most"
  n_Rule_need : NoAttr K (He.ga K "Rule") "need"
  n_Rule_of : NoAttr K (He.ga K "Rule") "of"
  n_Rule_top : NoAttr K (He.ga K "Rule") "top"
  n_Rule_under : NoAttr K (He.ga K "Rule") "under"
  n_Rule_up : NoAttr K (He.ga K "Rule") "up"
  ic_Rule : C8.InsC K (He.ga K "Rule")
  ita_Rule : itaB K "Rule" = true
  g_InvalidGoal : mg "InvalidGoal" = some (.ref (He.ga K "InvalidGoal"))
  g_InvalidWhat : mg "InvalidWhat" = some (.ref (He.ga K "InvalidWhat"))
  g_Rule : mg "Rule" = some (.ref (He.ga K "Rule"))
  g_SitError : mg "SitError" = some (.ref (He.ga K "SitError"))
  g_happens : mg "happens" = some (.ref (He.ga K "happens"))
  g_numbers : mg "numbers" = some (.ref (He.ga K "numbers"))
  g_road : mg "road" = some (.ref (He.ga K "road"))
  g_ANSWERS : mg "ANSWERS" = some (.ref (He.ga K "ANSWERS"))
  t_ANSWERS : ∀ H, SqT K H (He.ga K "ANSWERS") [.str "ok", .str "fault"]
  g_BACKS : mg "BACKS" = some (.ref (He.ga K "BACKS"))
  t_BACKS : ∀ H, SqT K H (He.ga K "BACKS") [.str "half", .str "open", .str "trial"]
  g_DIGITS : ∃ t, mg "DIGITS" = some (.str "0123456789" t)
  g_GOALS : mg "GOALS" = some (.ref (He.ga K "GOALS"))
  t_GOALS : ∀ H, SqT K H (He.ga K "GOALS") [.str "all", .str "kept", .str "swap"]
  g_HEARD : mg "HEARD" = some (.ref (He.ga K "HEARD"))
  t_HEARD : ∀ H, SqT K H (He.ga K "HEARD") [.str "fault", .str "no", .str "out"]
  g_ROUNDS : mg "ROUNDS" = some (.ref (He.ga K "ROUNDS"))
  tbl_ROUNDS : ∀ X : Cx, X.K = K → X.w = w → Tbl X "ROUNDS" tb_ROUNDS
  xc_InvalidGoal : XcC K (He.ga K "InvalidGoal")
  x0_InvalidGoal : Xc0 K "InvalidGoal"
  xi_InvalidGoal_InvalidWhat : PySem.W.kitOne K (.ref (He.ga K "InvalidGoal")) (.ref (He.ga K "InvalidWhat")) = some false
  xi_InvalidGoal_SitError : PySem.W.kitOne K (.ref (He.ga K "InvalidGoal")) (.ref (He.ga K "SitError")) = some true
  xm_InvalidGoal_InvalidGoal : PySem.W.exmOne K (.ref (He.ga K "InvalidGoal")) (.ref (He.ga K "InvalidGoal")) = some true
  d__law_box : Df K mg "_law_box" s__law_box
  d_number_in : Df K mg "number_in" s_number_in
  d_numbers_in : Df K mg "numbers_in" s_numbers_in
  d_share_in : Df K mg "share_in" s_share_in
  d_is_word : Df K mg "is_word" s_is_word
  d_words_between : Df K mg "words_between" s_words_between
  d_is_integer : Df K mg "is_integer" s_is_integer
  d_is_from : Df K mg "is_from" s_is_from
  d_is_number : Df K mg "is_number" s_is_number
  d_wrong_number : Df K mg "wrong_number" s_wrong_number
  d_wrong_word : Df K mg "wrong_word" s_wrong_word
  k_Rule : Ki K mg "Rule" (He.ga K "Rule") "Rule.__init__" s_Rule___init__
  cd_Rule_read : Cmd K (He.ga K "Rule") "read" "Rule.read" s_Rule_read
  d__law_rule_text : Df K mg "_law_rule_text" s__law_rule_text
  d__law_rule_of : Df K mg "_law_rule_of" s__law_rule_of
  d__law_take : Df K mg "_law_take" s__law_take
  d__law_pick : Df K mg "_law_pick" s__law_pick
  d__law_rule : Df K mg "_law_rule" s__law_rule
  d_need_goal : Df K mg "need_goal" s_need_goal
  d_up_to : Df K mg "up_to" s_up_to
  d_least_short : Df K mg "least_short" s_least_short
  d_Rule_time : Md K (He.ga K "Rule") "time" "Rule.time" s_Rule_time
  d_is_lasting : Df K mg "is_lasting" s_is_lasting
  d_is_missable : Df K mg "is_missable" s_is_missable
  d_numbers : Df K mg "numbers" s_numbers
  d_happens : Df K mg "happens" s_happens
  d_begun : Df K mg "begun" s_begun
  k_Builder : Ki K mg "Builder" (He.ga K "Builder") "Builder.__init__" s_Builder___init__
  d_Rule_limit : Md K (He.ga K "Rule") "limit" "Rule.limit" s_Rule_limit
  d_come_back : Df K mg "come_back" s_come_back
  d_left_out : Df K mg "left_out" s_left_out
  d_after_ok : Df K mg "after_ok" s_after_ok
  d_at_try : Df K mg "at_try" s_at_try
  d_after_fault : Df K mg "after_fault" s_after_fault
  d_after_turn : Df K mg "after_turn" s_after_turn
  d_Builder_is_room : Md K (He.ga K "Builder") "is_room" "Builder.is_room" s_Builder_is_room
  d_Builder_turn : Md K (He.ga K "Builder") "turn" "Builder.turn" s_Builder_turn
  d_Builder_leave_out : Md K (He.ga K "Builder") "leave_out" "Builder.leave_out" s_Builder_leave_out
  d_Builder_leave_out_long : Md K (He.ga K "Builder") "leave_out_long" "Builder.leave_out_long" s_Builder_leave_out_long
  d_after_word : Df K mg "after_word" s_after_word
  d_Builder_leave_out_missed : Md K (He.ga K "Builder") "leave_out_missed" "Builder.leave_out_missed" s_Builder_leave_out_missed
  d_Builder_keep : Md K (He.ga K "Builder") "keep" "Builder.keep" s_Builder_keep
  d_is_sequence : Df K mg "is_sequence" s_is_sequence
  d_event_in : Df K mg "event_in" s_event_in
  d_event_of : Df K mg "event_of" s_event_of
  d_events_of : Df K mg "events_of" s_events_of
  k_Road : L4.KiD K mg "Road" (He.ga K "Road") "Road.__init__" s_Road___init__
  d_road : Df K mg "road" s_road
  d__law_is_let : Df K mg "_law_is_let" s__law_is_let
  d__law_any : Df K mg "_law_any" s__law_any
  d_law : Df K mg "law" s_law
section
variable {P : Program} {w : World} {K : PySem.W.Frag} {mg : Str → Option Value} {base : Heap}
theorem Tx.F__law_box (T : Tx w K mg) : MFn P w K mg base 1 "_law_box" 2 F__law_box :=
  mfn_df T.d__law_box (k := 0) (b := f__law_box) sc__law_box (fun _ _ _ _ _ _ us hl => match us, hl with | [_, _], _ => rfl) fun f cdv A outer s H E gd =>
    dss_cons (ds_set (i := 2) sc__law_box.nd rfl (Or.inl rfl) (de_op op_add' (de_op op_mul' (de_int) (dv 1)) (de_int)))
    (dss_cons (ds_if (dt_cmp op_lt' (dv 1) (de_callB call_len' (by rfl) T.b_len (by decide +kernel) (da_cons (dv 0) (da_nil))) (nomark _)) (dss_one (ds_set (i := 2) sc__law_box.nd rfl (Or.inl rfl) (de_callB call_abs' (by rfl) T.b_abs (by decide +kernel) (da_cons (de_callT call_int' (by rfl) T.b_int (by decide +kernel) (da_cons (de_ixA gd (dv 0) (dv 1)) (da_nil))) (da_nil))))) (dss_one (ds_if (dt_cmp op_gt' (de_callB call_len' (by rfl) T.b_len (by decide +kernel) (da_cons (dv 0) (da_nil))) (de_int) (nomark _)) (dss_one (ds_set (i := 2) sc__law_box.nd rfl (Or.inl rfl) (de_op op_add' (dv 2) (de_op op_mul' (de_op op_mod' (de_callT call_int' (by rfl) T.b_int (by decide +kernel) (da_cons (de_ixA gd (dv 0) (de_op op_mod' (de_callT call_int' (by rfl) T.b_int (by decide +kernel) (da_cons (dv 1) (da_nil))) (de_callB call_len' (by rfl) T.b_len (by decide +kernel) (da_cons (dv 0) (da_nil))))) (da_nil))) (de_int)) (de_int))))) (dss_nil))))
    (dss_cons (ds_set (i := 3) sc__law_box.nd rfl (Or.inl rfl) (de_op op_add' (de_op op_mod' (de_callT call_int' (by rfl) T.b_int (by decide +kernel) (da_cons (de_op op_add' (de_op op_add' (de_op op_mul' (de_op op_mod' (de_callT call_int' (by rfl) T.b_int (by decide +kernel) (da_cons (dv 2) (da_nil))) (de_int)) (de_int)) (de_op op_mul' (de_int) (dv 1))) (de_int)) (da_nil))) (de_int)) (de_int)))
    (dss_one (ds_ret (de_newL (da_cons (de_ixA gd (de_lst (da_cons (de_int) (da_cons (dv 2) (da_nil)))) (de_callT call_int' (by rfl) T.b_int (by decide +kernel) (da_cons (de_cmp op_ge' (dv 2) (de_op op_pow' (de_int) (de_int)) (nomark _)) (da_nil)))) (da_cons (dv 3) (da_cons (de_int) (da_nil)))))))))
theorem Tx.F_number_in (T : Tx w K mg) : PFn P w K mg base 1 "number_in" 2 F_number_in :=
  pfn_df T.d_number_in (k := 0) (b := f_number_in) sc_number_in (fun _ _ _ _ _ _ us hl => match us, hl with | [_, _], _ => rfl) fun f cdv A outer s H E gd =>
    dss_cons (ds_if (dt_w (dw_or (dt_not (dt_chain op_le' op_le' (de_int) (de_callB call_len' (by rfl) T.b_len (by decide +kernel) (da_cons (dv 0) (da_nil))) (dv 1))) (dw_or1 (dt_not (dt_val (de_callB (call_all' rfl) (by rfl) T.b_all (by decide +kernel) (da_cons (de_lc rfl sc_number_in.nd (di_any (dv 0)) (blkOk_by (own := [("sign", 2)]) (N := ["word", "most", "sign"]) (sc := defScope s_number_in) (by decide +kernel)) (fun _ _ _ _ _ => dgn_name (i := 2) sc_number_in.nd rfl (Or.inl rfl)) (fun _ _ _ _ _ => dts_nil) (fun _ _ _ _ _ => de_cmp (op_inA gd.blk) (dv 2) (de_gstr (by rfl) T.g_DIGITS) (by rfl))) (da_nil)))))))) (dss_one (ds_ret (de_non))) (dss_nil))
    (dss_one (ds_ret (de_if (dt_w (dw_or (dt_cmp (op_eq' gd) (dv 0) (de_str) (nomark _)) (dw_or1 (dt_cmp (op_ne' gd) (de_ixA gd (dv 0) (de_int)) (de_str) (nomark _))))) (de_callT call_int' (by rfl) T.b_int (by decide +kernel) (da_cons (dv 0) (da_nil))) (de_non))))
theorem Tx.F_numbers_in (T : Tx w K mg) : PFn P w K mg base 2 "numbers_in" 1 F_numbers_in :=
  pfn_df T.d_numbers_in (k := 1) (b := f_numbers_in) sc_numbers_in (fun _ _ _ _ _ _ us hl => match us, hl with | [_], _ => rfl) fun f cdv A outer s H E gd =>
    dss_cons (ds_setLc (i := 1) rfl sc_numbers_in.nd rfl rfl (sw_true rfl rfl rfl (by decide +kernel)) (di_any (dv 0)) (blkOk_by (own := [("word", 2)]) (N := ["words", "found", "word"]) (sc := defScope s_numbers_in) (by decide +kernel)) (fun _ _ _ _ _ => dgn_name (i := 2) sc_numbers_in.nd rfl (Or.inl rfl)) (fun _ _ _ _ _ => dts_nil) (fun _ _ _ _ _ => de_pfn T.F_number_in (gd.blk.mono (by decide)) (by rfl) (da_cons (dv 2) (da_cons (de_int) (da_nil)))))
    (dss_one (ds_ret (de_if (dt_cmp (op_inA gd) (de_non) (dv 1) (by rfl)) (de_non) (dv 1))))
theorem Tx.F_share_in (T : Tx w K mg) : PFn P w K mg base 3 "share_in" 1 F_share_in :=
  pfn_df T.d_share_in (k := 2) (b := f_share_in) sc_share_in (fun _ _ _ _ _ _ us hl => match us, hl with | [_], _ => rfl) fun f cdv A outer s H E gd =>
    dss_cons (ds_set (i := 1) sc_share_in.nd rfl (Or.inl rfl) (de_split (dv 0) (de_str)))
    (dss_one (ds_ret (de_if (dt_cmp (op_eq' gd) (de_callB call_len' (by rfl) T.b_len (by decide +kernel) (da_cons (dv 1) (da_nil))) (de_int) (nomark _)) (de_pfn T.F_numbers_in (gd.mono (by decide)) (by rfl) (da_cons (dv 1) (da_nil))) (de_non))))
theorem Tx.F_is_word (T : Tx w K mg) : PFn P w K mg base 1 "is_word" 2 F_is_word :=
  pfn_df T.d_is_word (k := 0) (b := f_is_word) sc_is_word (fun _ _ _ _ _ _ us hl => match us, hl with | [_, _], _ => rfl) fun f cdv A outer s H E gd =>
    dss_one (ds_ret (de_and (de_callB call_isi' (by rfl) T.b_isinstance (by decide +kernel) (da_cons (dv 0) (da_cons (de_ty (t := "str") (by rfl) T.b_str (by decide +kernel)) (da_nil)))) (de_one (de_cmp (op_inA gd) (dv 0) (dv 1) (by rfl)))))
theorem Tx.F_words_between (T : Tx w K mg) : PFn P w K mg base 2 "words_between" 1 F_words_between :=
  pfn_df T.d_words_between (k := 1) (b := f_words_between) sc_words_between (fun _ _ _ _ _ _ us hl => match us, hl with | [_], _ => rfl) fun f cdv A outer s H E gd =>
    dss_cons (ds_set (i := 1) sc_words_between.nd rfl (Or.inl rfl) (de_lisN (by rfl) T.b_list (dv 0)))
    (dss_cons (ds_for PassesOwn.never rfl (di_zipM (by rfl) T.b_zip (da_cons (de_tup (da_cons (de_int) (da_cons (de_int) (da_cons (de_int) (da_cons (de_int) (da_cons (de_int) (da_cons (de_int) (da_cons (de_int) (da_cons (de_int) (da_cons (de_int) (da_nil))))))))))) (da_cons (de_split (de_str) (de_str)) (da_nil)))) (dg_of (dgn_tup rfl (dgns_cons (i := 2) sc_words_between.nd rfl (Or.inl rfl) (dgns_cons (i := 3) sc_words_between.nd rfl (Or.inl rfl) (dgns_nil))))) (dss_one (ds_asg (dv 3) (dg_subA gd (dv 1) (dv 2)))))
    (dss_one (ds_ret (de_if (dt_w (dw_and (dt_val (de_pfn T.F_is_word (gd.mono (by decide)) (by rfl) (da_cons (de_ixA gd (dv 0) (de_int)) (da_cons (de_gtup (ds := [.str "half", .str "open", .str "trial"]) (by rfl) T.g_BACKS T.t_BACKS (fun _ _ => .cons (.str _) (.cons (.str _) (.cons (.str _) (.nil))))) (da_nil))))) (dw_and1 (dt_val (de_pfn T.F_is_word (gd.mono (by decide)) (by rfl) (da_cons (de_ixA gd (dv 0) (de_int)) (da_cons (de_gtup (ds := [.str "fault", .str "no", .str "out"]) (by rfl) T.g_HEARD T.t_HEARD (fun _ _ => .cons (.str _) (.cons (.str _) (.cons (.str _) (.nil))))) (da_nil)))))))) (dv 1) (de_lst (da_nil))))))
theorem Tx.F_is_integer (T : Tx w K mg) : PFn P w K mg base 1 "is_integer" 1 F_is_integer :=
  pfn_df T.d_is_integer (k := 0) (b := f_is_integer) sc_is_integer (fun _ _ _ _ _ _ us hl => match us, hl with | [_], _ => rfl) fun f cdv A outer s H E gd =>
    dss_one (ds_ret (de_and (de_callB call_isi' (by rfl) T.b_isinstance (by decide +kernel) (da_cons (dv 0) (da_cons (de_ty (t := "int") (by rfl) T.b_int (by decide +kernel)) (da_nil)))) (de_one (de_not (de_callB call_isi' (by rfl) T.b_isinstance (by decide +kernel) (da_cons (dv 0) (da_cons (de_ty (t := "bool") (by rfl) T.b_bool (by decide +kernel)) (da_nil))))))))
theorem Tx.F_is_from (T : Tx w K mg) : PFn P w K mg base 2 "is_from" 2 F_is_from :=
  pfn_df T.d_is_from (k := 1) (b := f_is_from) sc_is_from (fun _ _ _ _ _ _ us hl => match us, hl with | [_, _], _ => rfl) fun f cdv A outer s H E gd =>
    dss_one (ds_ret (de_and (de_pfn T.F_is_integer (gd.mono (by decide)) (by rfl) (da_cons (dv 0) (da_nil))) (de_one (de_cmp op_ge' (dv 0) (dv 1) (nomark _)))))
theorem Tx.F_is_number (T : Tx w K mg) : PFn P w K mg base 2 "is_number" 1 F_is_number :=
  pfn_df T.d_is_number (k := 1) (b := f_is_number) sc_is_number (fun _ _ _ _ _ _ us hl => match us, hl with | [_], _ => rfl) fun f cdv A outer s H E gd =>
    dss_one (ds_ret (de_and (de_pfn T.F_is_integer (gd.mono (by decide)) (by rfl) (da_cons (dv 0) (da_nil))) (de_one (de_cmp op_ge' (dv 0) (de_int) (nomark _)))))
theorem Tx.F_wrong_number (T : Tx w K mg) : PFn P w K mg base 3 "wrong_number" 6 F_wrong_number :=
  pfn_df T.d_wrong_number (k := 2) (b := f_wrong_number) sc_wrong_number (fun _ _ _ _ _ _ us hl => match us, hl with | [_, _, _, _, _, _], _ => rfl) fun f cdv A outer s H E gd =>
    dss_cons (ds_if (dt_not (dt_val (de_pfn T.F_is_from (gd.mono (by decide)) (by rfl) (da_cons (dv 0) (da_cons (de_int) (da_nil)))))) (dss_one (ds_ret (de_str))) (dss_nil))
    (dss_cons (ds_if (dt_not (dt_val (de_pfn T.F_is_from (gd.mono (by decide)) (by rfl) (da_cons (dv 1) (da_cons (dv 0) (da_nil)))))) (dss_one (ds_ret (de_str))) (dss_nil))
    (dss_cons (ds_if (dt_not (dt_val (de_pfn T.F_is_from (gd.mono (by decide)) (by rfl) (da_cons (dv 2) (da_cons (de_int) (da_nil)))))) (dss_one (ds_ret (de_str))) (dss_nil))
    (dss_cons (ds_if (dt_not (dt_val (de_pfn T.F_is_number (gd.mono (by decide)) (by rfl) (da_cons (dv 3) (da_nil))))) (dss_one (ds_ret (de_str))) (dss_nil))
    (dss_cons (ds_if (dt_not (dt_val (de_pfn T.F_is_from (gd.mono (by decide)) (by rfl) (da_cons (dv 4) (da_cons (dv 2) (da_nil)))))) (dss_one (ds_ret (de_str))) (dss_nil))
    (dss_one (ds_ret (de_if (dt_val (de_pfn T.F_is_number (gd.mono (by decide)) (by rfl) (da_cons (dv 5) (da_nil)))) (de_non) (de_str))))))))
theorem Tx.F_wrong_word (T : Tx w K mg) : PFn P w K mg base 3 "wrong_word" 5 F_wrong_word :=
  pfn_df T.d_wrong_word (k := 2) (b := f_wrong_word) sc_wrong_word (fun _ _ _ _ _ _ us hl => match us, hl with | [_, _, _, _, _], _ => rfl) fun f cdv A outer s H E gd =>
    dss_cons (ds_if (dt_not (dt_val (de_pfn T.F_is_word (gd.mono (by decide)) (by rfl) (da_cons (dv 0) (da_cons (de_gtup (ds := [.str "half", .str "open", .str "trial"]) (by rfl) T.g_BACKS T.t_BACKS (fun _ _ => .cons (.str _) (.cons (.str _) (.cons (.str _) (.nil))))) (da_nil)))))) (dss_one (ds_ret (de_str))) (dss_nil))
    (dss_cons (ds_if (dt_not (dt_val (de_pfn T.F_is_number (gd.mono (by decide)) (by rfl) (da_cons (dv 1) (da_nil))))) (dss_one (ds_ret (de_str))) (dss_nil))
    (dss_cons (ds_if (dt_w (dw_or (dt_not (dt_val (de_pfn T.F_is_integer (gd.mono (by decide)) (by rfl) (da_cons (dv 2) (da_nil))))) (dw_or (dt_cmp op_lt' (dv 2) (de_int) (nomark _)) (dw_or1 (dt_cmp op_lt' (dv 2) (dv 1) (nomark _)))))) (dss_one (ds_ret (de_str))) (dss_nil))
    (dss_cons (ds_if (dt_not (dt_val (de_callB call_isi' (by rfl) T.b_isinstance (by decide +kernel) (da_cons (dv 3) (da_cons (de_ty (t := "bool") (by rfl) T.b_bool (by decide +kernel)) (da_nil)))))) (dss_one (ds_ret (de_str))) (dss_nil))
    (dss_one (ds_ret (de_if (dt_val (de_pfn T.F_is_word (gd.mono (by decide)) (by rfl) (da_cons (dv 4) (da_cons (de_gtup (ds := [.str "fault", .str "no", .str "out"]) (by rfl) T.g_HEARD T.t_HEARD (fun _ _ => .cons (.str _) (.cons (.str _) (.cons (.str _) (.nil))))) (da_nil))))) (de_non) (de_str)))))))
theorem Tx.F_Rule___init__ (T : Tx w K mg) : MNw P w K mg base 4 "Rule" 12 F_Rule___init__ :=
  mnw_ki T.k_Rule (k := 3) (b := f_Rule___init__) sc_Rule___init__ (fun _ _ _ _ _ _ us hl => match us, hl with | [_, _, _, _, _, _, _, _, _, _, _, _], _ => rfl) fun f cdv A outer s H E gd =>
    dss_cons (ds_set (i := 12) sc_Rule___init__.nd rfl (Or.inl rfl) (de_pfn T.F_wrong_number (gd.mono (by decide)) (by rfl) (da_cons (dv 1) (da_cons (dv 2) (da_cons (dv 3) (da_cons (dv 4) (da_cons (dv 5) (da_cons (dv 6) (da_nil)))))))))
    (dss_cons (ds_if (dt_isN (dv 12)) (dss_one (ds_set (i := 12) sc_Rule___init__.nd rfl (Or.inl rfl) (de_pfn T.F_wrong_word (gd.mono (by decide)) (by rfl) (da_cons (dv 7) (da_cons (dv 8) (da_cons (dv 9) (da_cons (dv 10) (da_cons (dv 11) (da_nil))))))))) (dss_nil))
    (dss_cons (ds_if (dt_notN (dv 12)) (dss_one (ds_never)) (dss_nil))
    (dss_cons (ds_fld (na1 T.c_Rule T.n_Rule_need) (dv 0) (dv 1))
    (dss_cons (ds_fld (na1 T.c_Rule T.n_Rule_of) (dv 0) (dv 2))
    (dss_cons (ds_fld (na1 T.c_Rule T.n_Rule_base) (dv 0) (dv 3))
    (dss_cons (ds_fld (na1 T.c_Rule T.n_Rule_more) (dv 0) (dv 4))
    (dss_cons (ds_fld (na1 T.c_Rule T.n_Rule_most) (dv 0) (dv 5))
    (dss_cons (ds_fld (na1 T.c_Rule T.n_Rule_calm) (dv 0) (dv 6))
    (dss_cons (ds_fld (na1 T.c_Rule T.n_Rule_back) (dv 0) (dv 7))
    (dss_cons (ds_fld (na1 T.c_Rule T.n_Rule_top) (dv 0) (dv 8))
    (dss_cons (ds_fld (na1 T.c_Rule T.n_Rule_under) (dv 0) (dv 9))
    (dss_cons (ds_fld (na1 T.c_Rule T.n_Rule_up) (dv 0) (dv 10))
    (dss_cons (ds_fld (na1 T.c_Rule T.n_Rule_hears) (dv 0) (dv 11))
    (dss_one (ds_fld (na1 T.c_Rule T.n_Rule_cap) (dv 0) (de_if (dt_cmp (op_eq' gd) (dv 4) (de_int) (nomark _)) (de_int) (de_op op_add' (de_int) (de_op op_fdiv' (de_op op_sub' (de_op op_add' (de_op op_sub' (dv 5) (dv 3)) (dv 4)) (de_int)) (dv 4)))))))))))))))))))
theorem Tx.F_Rule_read (T : Tx w K mg) : PCm P w K mg base 6 "Rule" "read" 1 F_Rule_read :=
  pcm_md T.cd_Rule_read (k := 5) (b := f_Rule_read) sc_Rule_read (fun _ _ _ _ _ _ us hl => match us, hl with | [_, _], _ => rfl) fun f cdv A outer s H E gd =>
    dss_cons (ds_set (i := 2) sc_Rule_read.nd rfl (Or.inr rfl) (de_split (dv 1) (de_str)))
    (dss_cons (ds_if (dt_cmp (op_ne' gd) (de_callB call_len' (by rfl) T.b_len (by decide +kernel) (da_cons (dv 2) (da_nil))) (de_int) (nomark _)) (dss_one (ds_never)) (dss_nil))
    (dss_cons (ds_set (i := 3) sc_Rule_read.nd rfl (Or.inl rfl) (de_pfn T.F_numbers_in (gd.mono (by decide)) (by rfl) (da_cons (de_lc rfl sc_Rule_read.nd (di_any (de_tup (da_cons (de_int) (da_cons (de_int) (da_cons (de_int) (da_cons (de_int) (da_cons (de_int) (da_cons (de_int) (da_nil))))))))) (blkOk_by (own := [("at", 8)]) (N := ["cls", "text", "words", "plain", "share", "back", "up", "hears", "at"]) (sc := defScope s_Rule_read) (by decide +kernel)) (fun _ _ _ _ _ => dgn_name (i := 8) sc_Rule_read.nd rfl (Or.inl rfl)) (fun _ _ _ _ _ => dts_nil) (fun _ _ _ _ _ => de_ixA gd.blk (dv 2) (dv 8))) (da_nil))))
    (dss_cons (ds_set (i := 4) sc_Rule_read.nd rfl (Or.inl rfl) (de_pfn T.F_share_in (gd.mono (by decide)) (by rfl) (da_cons (de_ixA gd (dv 2) (de_int)) (da_nil))))
    (dss_cons (ds_if (dt_w (dw_or (dt_isN (dv 3)) (dw_or (dt_isN (dv 4)) (dw_or1 (dt_tblNin (T.tbl_ROUNDS _ rfl rfl) (by rfl) T.g_ROUNDS (de_ixA gd (dv 2) (de_int))))))) (dss_one (ds_never)) (dss_nil))
    (dss_cons (ds_if (dt_cmp (op_ne' gd) (dv 2) (de_pfn T.F_words_between (gd.mono (by decide)) (by rfl) (da_cons (dv 2) (da_nil))) (nomark _)) (dss_one (ds_never)) (dss_nil))
    (dss_cons (ds_par3 (by rfl) sc_Rule_read.nd (i := 5) (j := 6) (l := 7) rfl rfl rfl (by decide) (by decide) (by decide) rfl rfl rfl (da_cons (de_ixA gd (dv 2) (de_int)) (da_cons (de_tbl (T.tbl_ROUNDS _ rfl rfl) (by rfl) T.g_ROUNDS (de_ixA gd (dv 2) (de_int))) (da_cons (de_ixA gd (dv 2) (de_int)) (da_nil)))) (by rfl))
    (dss_one (ds_ret (de_newPL (i := 0) T.F_Rule___init__ (gd.mono (by decide)) rfl (Or.inl rfl) (da_star (dv 3) (da_cons (dv 5) (da_star (dv 4) (da_cons (dv 6) (da_cons (dv 7) (da_nil)))))))))))))))
theorem Tx.F__law_rule_text (T : Tx w K mg) : PFn P w K mg base 1 "_law_rule_text" 1 F__law_rule_text :=
  pfn_df T.d__law_rule_text (k := 0) (b := f__law_rule_text) sc__law_rule_text (fun _ _ _ _ _ _ us hl => match us, hl with | [_], _ => rfl) fun f cdv A outer s H E gd =>
    dss_cons (ds_set (i := 1) sc__law_rule_text.nd rfl (Or.inl rfl) (de_lst (da_cons (de_str) (da_cons (de_callT call_strT' (by rfl) T.b_str (by decide +kernel) (da_cons (de_ixA gd (dv 0) (de_str)) (da_nil))) (da_cons (de_str) (da_cons (de_callT call_strT' (by rfl) T.b_str (by decide +kernel) (da_cons (de_ixA gd (dv 0) (de_str)) (da_nil))) (da_cons (de_str) (da_cons (de_callT call_strT' (by rfl) T.b_str (by decide +kernel) (da_cons (de_ixA gd (dv 0) (de_str)) (da_nil))) (da_cons (de_str) (da_cons (de_callT call_strT' (by rfl) T.b_str (by decide +kernel) (da_cons (de_ixA gd (dv 0) (de_str)) (da_nil))) (da_nil)))))))))))
    (dss_cons (ds_set (i := 1) sc__law_rule_text.nd rfl (Or.inl rfl) (de_op op_add' (dv 1) (de_lst (da_cons (de_str) (da_cons (de_callT call_strT' (by rfl) T.b_str (by decide +kernel) (da_cons (de_ixA gd (dv 0) (de_str)) (da_nil))) (da_cons (de_str) (da_cons (de_callT call_strT' (by rfl) T.b_str (by decide +kernel) (da_cons (de_ixA gd (dv 0) (de_str)) (da_nil))) (da_cons (de_str) (da_cons (de_ixA gd (dv 0) (de_str)) (da_nil))))))))))
    (dss_cons (ds_set (i := 1) sc__law_rule_text.nd rfl (Or.inl rfl) (de_op op_add' (dv 1) (de_lst (da_cons (de_str) (da_cons (de_op op_add' (de_op op_add' (de_callT call_strT' (by rfl) T.b_str (by decide +kernel) (da_cons (de_ixA gd (dv 0) (de_str)) (da_nil))) (de_str)) (de_callT call_strT' (by rfl) T.b_str (by decide +kernel) (da_cons (de_ixA gd (dv 0) (de_str)) (da_nil)))) (da_cons (de_if (dt_val (de_ixA gd (dv 0) (de_str))) (de_str) (de_str)) (da_nil)))))))
    (dss_one (ds_ret (de_join (de_str) (de_op op_add' (dv 1) (de_lst (da_cons (de_str) (da_cons (de_ixA gd (dv 0) (de_str)) (da_nil))))))))))
theorem Tx.F__law_rule_of (T : Tx w K mg) : PFn P w K mg base 7 "_law_rule_of" 1 F__law_rule_of :=
  pfn_df T.d__law_rule_of (k := 6) (b := f__law_rule_of) sc__law_rule_of (fun _ _ _ _ _ _ us hl => match us, hl with | [_], _ => rfl) fun f cdv A outer s H E gd =>
    dss_one (ds_ret (de_pcm T.F_Rule_read (gd.mono (by decide)) (by rfl) T.g_Rule (da_cons (de_pfn T.F__law_rule_text (gd.mono (by decide)) (by rfl) (da_cons (dv 0) (da_nil))) (da_nil))))
theorem Tx.F__law_take (T : Tx w K mg) : MFn P w K mg base 1 "_law_take" 2 F__law_take :=
  mfn_df T.d__law_take (k := 0) (b := f__law_take) sc__law_take (fun _ _ _ _ _ _ us hl => match us, hl with | [_, _], _ => rfl) fun f cdv A outer s H E gd =>
    dss_cons (ds_if (dt_cmp op_gt' (de_ixA gd (dv 0) (de_int)) (de_int) (nomark _)) (dss_cons (ds_set (i := 2) sc__law_take.nd rfl (Or.inl rfl) (de_op op_mod' (de_callT call_int' (by rfl) T.b_int (by decide +kernel) (da_cons (de_ixA gd (dv 0) (de_int)) (da_nil))) (dv 1)))
    (dss_cons (ds_asg (de_op op_fdiv' (de_ixA gd (dv 0) (de_int)) (dv 1)) (dg_subA gd (dv 0) (de_int)))
    (dss_one (ds_ret (dv 2))))) (dss_nil))
    (dss_cons (ds_asg (de_op op_add' (de_ixA gd (dv 0) (de_int)) (de_int)) (dg_subA gd (dv 0) (de_int)))
    (dss_cons (ds_set (i := 3) sc__law_take.nd rfl (Or.inl rfl) (de_op op_mod' (de_callT call_int' (by rfl) T.b_int (by decide +kernel) (da_cons (de_op op_mul' (de_op op_add' (de_ixA gd (dv 0) (de_int)) (de_op op_mul' (de_int) (de_ixA gd (dv 0) (de_int)))) (de_int)) (da_nil))) (de_int)))
    (dss_cons (ds_asg (de_op op_add' (de_op op_mod' (de_callT call_int' (by rfl) T.b_int (by decide +kernel) (da_cons (de_op op_add' (de_op op_mul' (dv 3) (de_int)) (de_int)) (da_nil))) (de_int)) (de_int)) (dg_subA gd (dv 0) (de_int)))
    (dss_one (ds_ret (de_op op_mod' (de_callT call_int' (by rfl) T.b_int (by decide +kernel) (da_cons (de_op op_fdiv' (de_op op_add' (de_op op_mul' (dv 3) (de_int)) (de_ixA gd (dv 0) (de_int))) (de_int)) (da_nil))) (dv 1)))))))
theorem Tx.F__law_pick (T : Tx w K mg) : MFn P w K mg base 2 "_law_pick" 2 F__law_pick :=
  mfn_df T.d__law_pick (k := 1) (b := f__law_pick) sc__law_pick (fun _ _ _ _ _ _ us hl => match us, hl with | [_, _], _ => rfl) fun f cdv A outer s H E gd =>
    dss_one (ds_ret (de_ixA gd (dv 1) (de_mfn T.F__law_take (gd.mono (by decide)) (by rfl) (da_cons (dv 0) (da_cons (de_callB call_len' (by rfl) T.b_len (by decide +kernel) (da_cons (dv 1) (da_nil))) (da_nil))))))
theorem Tx.F__law_rule (T : Tx w K mg) : MFn P w K mg base 3 "_law_rule" 4 F__law_rule :=
  mfn_df T.d__law_rule (k := 2) (b := f__law_rule) sc__law_rule (fun _ _ _ _ _ _ us hl => match us, hl with | [_, _, _, _], _ => rfl) fun f cdv A outer s H E gd =>
    dss_cons (ds_set (i := 4) sc__law_rule.nd rfl (Or.inl rfl) (de_op op_add' (de_int) (de_mfn T.F__law_take (gd.mono (by decide)) (by rfl) (da_cons (dv 0) (da_cons (dv 1) (da_nil))))))
    (dss_cons (ds_set (i := 5) sc__law_rule.nd rfl (Or.inl rfl) (de_disp (dps_cons (de_str) (dv 4) (dps_cons (de_str) (de_op op_add' (dv 4) (de_mfn T.F__law_take (gd.mono (by decide)) (by rfl) (da_cons (dv 0) (da_cons (de_op op_add' (de_op op_sub' (dv 1) (dv 4)) (de_int)) (da_nil))))) (dps_cons (de_str) (de_op op_add' (de_int) (de_mfn T.F__law_take (gd.mono (by decide)) (by rfl) (da_cons (dv 0) (da_cons (dv 2) (da_nil))))) (dps_nil))))))
    (dss_cons (ds_asg (de_mfn T.F__law_pick (gd.mono (by decide)) (by rfl) (da_cons (dv 0) (da_cons (de_lst (da_cons (de_int) (da_cons (de_int) (da_cons (de_int) (da_cons (de_int) (da_cons (de_int) (da_cons (de_int) (da_cons (de_int) (da_nil))))))))) (da_nil)))) (dg_subA gd (dv 5) (de_str)))
    (dss_cons (ds_asg (de_op op_add' (de_ixA gd (dv 5) (de_str)) (de_mfn T.F__law_take (gd.mono (by decide)) (by rfl) (da_cons (dv 0) (da_cons (de_op op_add' (de_op op_sub' (dv 2) (de_ixA gd (dv 5) (de_str))) (de_int)) (da_nil))))) (dg_subA gd (dv 5) (de_str)))
    (dss_cons (ds_expr (de_upd (dv 5) (de_disp (dps_cons (de_str) (de_mfn T.F__law_take (gd.mono (by decide)) (by rfl) (da_cons (dv 0) (da_cons (de_op op_add' (dv 3) (de_int)) (da_nil)))) (dps_cons (de_str) (de_mfn T.F__law_pick (gd.mono (by decide)) (by rfl) (da_cons (dv 0) (da_cons (de_lst (da_cons (de_str) (da_cons (de_str) (da_cons (de_str) (da_nil))))) (da_nil)))) (dps_nil))))))
    (dss_cons (ds_asg (de_op op_add' (de_int) (de_mfn T.F__law_take (gd.mono (by decide)) (by rfl) (da_cons (dv 0) (da_cons (de_int) (da_nil))))) (dg_subA gd (dv 5) (de_str)))
    (dss_cons (ds_asg (de_mfn T.F__law_take (gd.mono (by decide)) (by rfl) (da_cons (dv 0) (da_cons (de_op op_add' (de_ixA gd (dv 5) (de_str)) (de_int)) (da_nil)))) (dg_subA gd (dv 5) (de_str)))
    (dss_cons (ds_expr (de_upd (dv 5) (de_disp (dps_cons (de_str) (de_cmp (op_eq' gd) (de_mfn T.F__law_take (gd.mono (by decide)) (by rfl) (da_cons (dv 0) (da_cons (de_int) (da_nil)))) (de_int) (nomark _)) (dps_cons (de_str) (de_mfn T.F__law_pick (gd.mono (by decide)) (by rfl) (da_cons (dv 0) (da_cons (de_lst (da_cons (de_str) (da_cons (de_str) (da_cons (de_str) (da_nil))))) (da_nil)))) (dps_nil))))))
    (dss_one (ds_ret (dv 5))))))))))
theorem Tx.F_up_to (T : Tx w K mg) : PFn P w K mg base 1 "up_to" 2 F_up_to :=
  pfn_df T.d_up_to (k := 0) (b := f_up_to) sc_up_to (fun _ _ _ _ _ _ us hl => match us, hl with | [_, _], _ => rfl) fun f cdv A outer s H E gd =>
    dss_one (ds_ret (de_un un_neg' (de_op op_fdiv' (de_un un_neg' (dv 0)) (dv 1))))
theorem Tx.F_least_short (T : Tx w K mg) : PFn P w K mg base 2 "least_short" 1 F_least_short :=
  pfn_df T.d_least_short (k := 1) (b := f_least_short) sc_least_short (fun _ _ _ _ _ _ us hl => match us, hl with | [_], _ => rfl) fun f cdv A outer s H E gd =>
    dss_one (ds_ret (de_if (dt_val (de_fld (na1 T.c_Rule T.n_Rule_up) (dv 0))) (de_pfn T.F_up_to (gd.mono (by decide)) (by rfl) (da_cons (de_fld (na1 T.c_Rule T.n_Rule_under) (dv 0)) (da_cons (de_op op_sub' (de_fld (na1 T.c_Rule T.n_Rule_under) (dv 0)) (de_fld (na1 T.c_Rule T.n_Rule_top) (dv 0))) (da_nil)))) (de_int)))
theorem Tx.F_Rule_time (T : Tx w K mg) : PMt P w K mg base 1 "Rule" "time" 2 F_Rule_time :=
  pmt_md T.d_Rule_time T.c_Rule (k := 0) (b := f_Rule_time) sc_Rule_time (fun _ _ _ _ _ _ us hl => match us, hl with | [_, _], _ => rfl) fun f cdv A outer s H E gd =>
    dss_one (ds_ret (de_callB (call_min2'' rfl) (by rfl) T.b_min (by decide +kernel) (da_cons (de_callT call_int' (by rfl) T.b_int (by decide +kernel) (da_cons (de_op op_add' (de_fld (na1 T.c_Rule T.n_Rule_base) (dv 0)) (de_op op_mul' (de_fld (na1 T.c_Rule T.n_Rule_more) (dv 0)) (de_op op_sub' (dv 1) (de_int)))) (da_nil))) (da_cons (de_callT call_int' (by rfl) T.b_int (by decide +kernel) (da_cons (de_fld (na1 T.c_Rule T.n_Rule_most) (dv 0)) (da_nil))) (da_nil)))))
theorem Tx.F_is_lasting (T : Tx w K mg) : PFn P w K mg base 2 "is_lasting" 1 F_is_lasting :=
  pfn_df T.d_is_lasting (k := 1) (b := f_is_lasting) sc_is_lasting (fun _ _ _ _ _ _ us hl => match us, hl with | [_], _ => rfl) fun f cdv A outer s H E gd =>
    dss_one (ds_ret (de_or (de_cmp (op_eq' gd) (de_fld (na1 T.c_Rule T.n_Rule_back) (dv 0)) (de_str) (nomark _)) (de_one (de_cmp op_gt' (de_pmt T.F_Rule_time (gd.mono (by decide)) (dv 0) (da_cons (de_fld (na1 T.c_Rule T.n_Rule_cap) (dv 0)) (da_nil))) (de_int) (nomark _)))))
theorem Tx.F_is_missable (T : Tx w K mg) : PFn P w K mg base 3 "is_missable" 1 F_is_missable :=
  pfn_df T.d_is_missable (k := 2) (b := f_is_missable) sc_is_missable (fun _ _ _ _ _ _ us hl => match us, hl with | [_], _ => rfl) fun f cdv A outer s H E gd =>
    dss_one (ds_ret (de_or (de_pfn T.F_is_lasting (gd.mono (by decide)) (by rfl) (da_cons (dv 0) (da_nil))) (de_one (de_cmp (op_ne' gd) (de_fld (na1 T.c_Rule T.n_Rule_hears) (dv 0)) (de_str) (nomark _)))))
theorem Tx.FX_need_goal (T : Tx w K mg) : PFx P w K mg base 1 "need_goal" 1 FX_need_goal :=
  pfx_df T.d_need_goal (k := 0) (b := y_need_goal) sc_need_goal (fun _ _ _ _ _ _ us hl => match us, hl with | [_], _ => rfl) fun f cdv A outer s H E gd =>
    dys_one (dy_if (dt_w (dw_or (dt_not (dt_val (de_callB (call_isiTA (itA_cons T.ic_Rule T.ita_Rule (itA_nil))) (by rfl) T.b_isinstance (by decide +kernel) (da_cons (dv 0) (da_cons (de_ty (t := "str") (by rfl) T.b_str (by decide +kernel)) (da_nil)))))) (dw_or1 (dt_cmp (op_ninA gd.nox) (dv 0) (de_gtup (ds := [.str "all", .str "kept", .str "swap"]) (by rfl) T.g_GOALS T.t_GOALS (fun _ _ => .cons (.str _) (.cons (.str _) (.cons (.str _) (.nil))))) (by rfl))))) (dys_one (dy_raise0 rfl T.x0_InvalidGoal (by rfl) T.g_InvalidGoal)) (dys_of (dss_nil)))
theorem Tx.FX_numbers (T : Tx w K mg) : PFx P w K mg base 4 "numbers" 2 FX_numbers :=
  pfx_df T.d_numbers (k := 3) (b := y_numbers) sc_numbers (fun _ _ _ _ _ _ us hl => match us, hl with | [_, _], _ => rfl) fun f cdv A outer s H E gd =>
    dys_cons (dy_expr (dx_pfx T.FX_need_goal (gd.mono (by decide)) (by rfl) (da_cons (dv 1) (da_nil))))
    (dys_of (dss_cons (ds_set (i := 2) sc_numbers.nd rfl (Or.inl rfl) (de_cmp (op_eq' gd.nox) (de_fld (na1 T.c_Rule T.n_Rule_top) (dv 0)) (de_fld (na1 T.c_Rule T.n_Rule_under) (dv 0)) (nomark _)))
    (dss_cons (ds_if (dt_cmp (op_eq' gd.nox) (dv 1) (de_str) (nomark _)) (dss_cons (ds_if (dt_val (dv 2)) (dss_one (ds_ret (de_tup (da_cons (de_int) (da_cons (de_non) (da_nil)))))) (dss_nil))
    (dss_one (ds_ret (de_if (dt_w (dw_and (dt_val (de_fld (na1 T.c_Rule T.n_Rule_up) (dv 0))) (dw_and1 (dt_cmp op_gt' (de_fld (na1 T.c_Rule T.n_Rule_top) (dv 0)) (de_int) (nomark _))))) (de_tup (da_cons (de_int) (da_cons (de_op op_sub' (de_pfn T.F_least_short (gd.nox.mono (by decide)) (by rfl) (da_cons (dv 0) (da_nil))) (de_int)) (da_nil)))) (de_non))))) (dss_nil))
    (dss_cons (ds_if (dt_w (dw_or (dt_val (dv 2)) (dw_or1 (dt_w (dw_and (dt_cmp (op_eq' gd.nox) (dv 1) (de_str) (nomark _)) (dw_and1 (dt_w (dw_or (dt_cmp (op_eq' gd.nox) (de_fld (na1 T.c_Rule T.n_Rule_top) (dv 0)) (de_int) (nomark _)) (dw_or1 (dt_not (dt_val (de_pfn T.F_is_missable (gd.nox.mono (by decide)) (by rfl) (da_cons (dv 0) (da_nil)))))))))))))) (dss_one (ds_ret (de_non))) (dss_nil))
    (dss_cons (ds_set (i := 3) sc_numbers.nd rfl (Or.inl rfl) (de_pfn T.F_least_short (gd.nox.mono (by decide)) (by rfl) (da_cons (dv 0) (da_nil))))
    (dss_one (ds_ret (de_tup (da_cons (de_if (dt_w (dw_or (dt_cmp (op_eq' gd.nox) (dv 1) (de_str) (nomark _)) (dw_or1 (dt_val (de_fld (na1 T.c_Rule T.n_Rule_up) (dv 0)))))) (dv 3) (de_pfn T.F_up_to (gd.nox.mono (by decide)) (by rfl) (da_cons (de_fld (na1 T.c_Rule T.n_Rule_under) (dv 0)) (da_cons (de_fld (na1 T.c_Rule T.n_Rule_top) (dv 0)) (da_nil))))) (da_cons (de_non) (da_nil)))))))))))
theorem Tx.FX_happens (T : Tx w K mg) : PFx P w K mg base 5 "happens" 2 FX_happens :=
  pfx_df T.d_happens (k := 4) (b := y_happens) sc_happens (fun _ _ _ _ _ _ us hl => match us, hl with | [_, _], _ => rfl) fun f cdv A outer s H E gd =>
    dys_one (dy_ret (dx_notN (dx_pfx T.FX_numbers (gd.mono (by decide)) (by rfl) (da_cons (dv 0) (da_cons (dv 1) (da_nil))))))
theorem Tx.F_begun (T : Tx w K mg) : PFn P w K mg base 1 "begun" 0 F_begun :=
  pfn_df T.d_begun (k := 0) (b := f_begun) sc_begun (fun _ _ _ _ _ _ us hl => match us, hl with | [], _ => rfl) fun f cdv A outer s H E gd =>
    dss_one (ds_ret (de_tup (da_cons (de_str) (da_cons (de_tup (da_nil)) (da_cons (de_int) (da_cons (de_int) (da_nil)))))))
theorem Tx.F_Builder___init__ (T : Tx w K mg) : MNw P w K mg base 2 "Builder" 3 F_Builder___init__ :=
  mnw_ki T.k_Builder (k := 1) (b := f_Builder___init__) sc_Builder___init__ (fun _ _ _ _ _ _ us hl => match us, hl with | [_, _, _], _ => rfl) fun f cdv A outer s H E gd =>
    dss_cons (ds_fld (na1 T.c_Builder T.n_Builder_by) (dv 0) (dv 1))
    (dss_cons (ds_fld (na1 T.c_Builder T.n_Builder_now) (dv 0) (de_repNew (de_lst (da_cons (de_pfn0 T.F_begun (gd.mono (by decide)) (by rfl)) (da_nil))) (dv 2)))
    (dss_one (ds_fld (na1 T.c_Builder T.n_Builder_events) (dv 0) (de_newL (da_nil)))))
theorem Tx.F_Rule_limit (T : Tx w K mg) : PMt P w K mg base 1 "Rule" "limit" 2 F_Rule_limit :=
  pmt_md T.d_Rule_limit T.c_Rule (k := 0) (b := f_Rule_limit) sc_Rule_limit (fun _ _ _ _ _ _ us hl => match us, hl with | [_, _], _ => rfl) fun f cdv A outer s H E gd =>
    dss_one (ds_ret (de_op op_fdiv' (de_op op_add' (de_op op_mul' (dv 1) (de_fld (na1 T.c_Rule T.n_Rule_top) (dv 0))) (de_if (dt_val (de_fld (na1 T.c_Rule T.n_Rule_up) (dv 0))) (de_op op_sub' (de_fld (na1 T.c_Rule T.n_Rule_under) (dv 0)) (de_int)) (de_int))) (de_fld (na1 T.c_Rule T.n_Rule_under) (dv 0))))
theorem Tx.F_come_back (T : Tx w K mg) : PFn P w K mg base 1 "come_back" 2 F_come_back :=
  pfn_df T.d_come_back (k := 0) (b := f_come_back) sc_come_back (fun _ _ _ _ _ _ us hl => match us, hl with | [_, _], _ => rfl) fun f cdv A outer s H E gd =>
    dss_cons (ds_if (dt_cmp (op_eq' gd) (de_fld (na1 T.c_Rule T.n_Rule_back) (dv 0)) (de_str) (nomark _)) (dss_one (ds_ret (de_tup (da_cons (de_str) (da_cons (dv 1) (da_nil)))))) (dss_nil))
    (dss_cons (ds_set (i := 2) sc_come_back.nd rfl (Or.inl rfl) (de_if (dt_cmp (op_eq' gd) (de_fld (na1 T.c_Rule T.n_Rule_back) (dv 0)) (de_str) (nomark _)) (de_op op_sub' (de_fld (na1 T.c_Rule T.n_Rule_need) (dv 0)) (de_op op_fdiv' (de_op op_add' (de_fld (na1 T.c_Rule T.n_Rule_need) (dv 0)) (de_int)) (de_int))) (de_int)))
    (dss_one (ds_ret (de_tup (da_cons (de_str) (da_cons (de_op op_mul' (de_tup (da_cons (de_bl) (da_nil))) (dv 2)) (da_cons (dv 1) (da_cons (de_int) (da_nil)))))))))
theorem Tx.F_left_out (T : Tx w K mg) : PFn P w K mg base 2 "left_out" 2 F_left_out :=
  pfn_df T.d_left_out (k := 1) (b := f_left_out) sc_left_out (fun _ _ _ _ _ _ us hl => match us, hl with | [_, _], _ => rfl) fun f cdv A outer s H E gd =>
    dss_cons (ds_set (i := 2) sc_left_out.nd rfl (Or.inl rfl) (de_callB (call_min2'' rfl) (by rfl) T.b_min (by decide +kernel) (da_cons (de_op op_add' (dv 1) (de_int)) (da_cons (de_fld (na1 T.c_Rule T.n_Rule_cap) (dv 0)) (da_nil)))))
    (dss_one (ds_ret (de_tup (da_cons (de_str) (da_cons (de_pmt T.F_Rule_time (gd.mono (by decide)) (dv 0) (da_cons (dv 2) (da_nil))) (da_cons (dv 2) (da_nil)))))))
theorem Tx.F_after_ok (T : Tx w K mg) : PFn P w K mg base 1 "after_ok" 2 F_after_ok :=
  pfn_df T.d_after_ok (k := 0) (b := f_after_ok) sc_after_ok (fun _ _ _ _ _ _ us hl => match us, hl with | [_, _], _ => rfl) fun f cdv A outer s H E gd =>
    dss_cons (ds_asg (de_sl (dv 1) (dp_yes (de_int)) (dp_no)) (dg_of (dgn_tup rfl (dgns_cons (i := 2) sc_after_ok.nd rfl (Or.inl rfl) (dgns_cons (i := 3) sc_after_ok.nd rfl (Or.inl rfl) (dgns_cons (i := 4) sc_after_ok.nd rfl (Or.inl rfl) (dgns_nil)))))))
    (dss_cons (ds_set (i := 2) sc_after_ok.nd rfl (Or.inl rfl) (de_sl (de_tup (da_star (dv 2) (da_cons (de_bl) (da_nil)))) (dp_yes (de_un un_neg' (de_fld (na1 T.c_Rule T.n_Rule_of) (dv 0)))) (dp_no)))
    (dss_cons (ds_if (dt_w (dw_or (dt_cmp (op_eq' gd) (dv 3) (de_int) (nomark _)) (dw_or1 (dt_cmp (op_eq' gd) (de_fld (na1 T.c_Rule T.n_Rule_calm) (dv 0)) (de_int) (nomark _))))) (dss_one (ds_ret (de_tup (da_cons (de_str) (da_cons (dv 2) (da_cons (dv 3) (da_cons (de_int) (da_nil)))))))) (dss_nil))
    (dss_one (ds_ret (de_if (dt_cmp op_ge' (de_op op_add' (dv 4) (de_int)) (de_fld (na1 T.c_Rule T.n_Rule_calm) (dv 0)) (nomark _)) (de_tup (da_cons (de_str) (da_cons (dv 2) (da_cons (de_int) (da_cons (de_int) (da_nil)))))) (de_tup (da_cons (de_str) (da_cons (dv 2) (da_cons (dv 3) (da_cons (de_op op_add' (dv 4) (de_int)) (da_nil)))))))))))
theorem Tx.F_at_try (T : Tx w K mg) : PFn P w K mg base 3 "at_try" 3 F_at_try :=
  pfn_df T.d_at_try (k := 2) (b := f_at_try) sc_at_try (fun _ _ _ _ _ _ us hl => match us, hl with | [_, _, _], _ => rfl) fun f cdv A outer s H E gd =>
    dss_one (ds_ret (de_if (dt_val (dv 2)) (de_tup (da_cons (de_pfn T.F_left_out (gd.mono (by decide)) (by rfl) (da_cons (dv 0) (da_cons (de_ixA gd (dv 1) (de_int)) (da_nil)))) (da_cons (de_bl) (da_nil)))) (de_tup (da_cons (dv 1) (da_cons (de_bl) (da_nil))))))
theorem Tx.F_after_fault (T : Tx w K mg) : PFn P w K mg base 4 "after_fault" 3 F_after_fault :=
  pfn_df T.d_after_fault (k := 3) (b := f_after_fault) sc_after_fault (fun _ _ _ _ _ _ us hl => match us, hl with | [_, _, _], _ => rfl) fun f cdv A outer s H E gd =>
    dss_cons (ds_set (i := 3) sc_after_fault.nd rfl (Or.inl rfl) (de_sl (de_tup (da_star (de_ixA gd (dv 1) (de_int)) (da_cons (de_bl) (da_nil)))) (dp_yes (de_un un_neg' (de_fld (na1 T.c_Rule T.n_Rule_of) (dv 0)))) (dp_no)))
    (dss_cons (ds_set (i := 4) sc_after_fault.nd rfl (Or.inl rfl) (de_tup (da_cons (de_str) (da_cons (dv 3) (da_cons (de_ixA gd (dv 1) (de_int)) (da_cons (de_int) (da_nil)))))))
    (dss_cons (ds_if (dt_cmp op_lt' (de_callB call_len' (by rfl) T.b_len (by decide +kernel) (da_cons (de_lc rfl sc_after_fault.nd (di_any (dv 3)) (blkOk_by (own := [("answer", 5)]) (N := ["rule", "standing", "is_room", "window", "later", "answer"]) (sc := defScope s_after_fault) (by decide +kernel)) (fun _ _ _ _ _ => dgn_name (i := 5) sc_after_fault.nd rfl (Or.inl rfl)) (fun _ _ _ _ _ => dts_one (dt_val (dv 5))) (fun _ _ _ _ _ => dv 5)) (da_nil))) (de_fld (na1 T.c_Rule T.n_Rule_need) (dv 0)) (nomark _)) (dss_one (ds_ret (de_tup (da_cons (dv 4) (da_cons (de_bl) (da_nil)))))) (dss_nil))
    (dss_one (ds_ret (de_pfn T.F_at_try (gd.mono (by decide)) (by rfl) (da_cons (dv 0) (da_cons (dv 4) (da_cons (dv 2) (da_nil)))))))))
theorem Tx.F_after_turn (T : Tx w K mg) : PFn P w K mg base 5 "after_turn" 4 F_after_turn :=
  pfn_df T.d_after_turn (k := 4) (b := f_after_turn) sc_after_turn (fun _ _ _ _ _ _ us hl => match us, hl with | [_, _, _, _], _ => rfl) fun f cdv A outer s H E gd =>
    dss_cons (ds_if (dt_cmp (op_eq' gd) (de_ixA gd (dv 1) (de_int)) (de_str) (nomark _)) (dss_cons (ds_asg (de_sl (dv 1) (dp_yes (de_int)) (dp_no)) (dg_of (dgn_tup rfl (dgns_cons (i := 4) sc_after_turn.nd rfl (Or.inl rfl) (dgns_cons (i := 5) sc_after_turn.nd rfl (Or.inl rfl) (dgns_nil))))))
    (dss_cons (ds_set (i := 6) sc_after_turn.nd rfl (Or.inl rfl) (de_if (dt_cmp (op_eq' gd) (dv 4) (de_int) (nomark _)) (de_pfn T.F_come_back (gd.mono (by decide)) (by rfl) (da_cons (dv 0) (da_cons (dv 5) (da_nil)))) (de_tup (da_cons (de_str) (da_cons (de_op op_sub' (dv 4) (de_int)) (da_cons (dv 5) (da_nil)))))))
    (dss_one (ds_ret (de_tup (da_cons (dv 6) (da_cons (de_if (dt_val (dv 2)) (de_str) (de_str)) (da_cons (de_bl) (da_nil))))))))) (dss_nil))
    (dss_cons (ds_if (dt_cmp (op_eq' gd) (de_ixA gd (dv 1) (de_int)) (de_str) (nomark _)) (dss_one (ds_ret (de_if (dt_val (dv 2)) (de_tup (da_cons (de_pfn T.F_left_out (gd.mono (by decide)) (by rfl) (da_cons (dv 0) (da_cons (de_ixA gd (dv 1) (de_int)) (da_nil)))) (da_cons (de_str) (da_cons (de_bl) (da_nil))))) (de_tup (da_cons (de_tup (da_cons (de_str) (da_cons (de_tup (da_nil)) (da_cons (de_ixA gd (dv 1) (de_int)) (da_cons (de_int) (da_nil)))))) (da_cons (de_str) (da_cons (de_bl) (da_nil)))))))) (dss_nil))
    (dss_cons (ds_if (dt_not (dt_val (dv 2))) (dss_one (ds_ret (de_tup (da_cons (de_pfn T.F_after_ok (gd.mono (by decide)) (by rfl) (da_cons (dv 0) (da_cons (dv 1) (da_nil)))) (da_cons (de_str) (da_cons (de_bl) (da_nil))))))) (dss_nil))
    (dss_cons (ds_asg (de_pfn T.F_after_fault (gd.mono (by decide)) (by rfl) (da_cons (dv 0) (da_cons (dv 1) (da_cons (dv 3) (da_nil))))) (dg_of (dgn_tup rfl (dgns_cons (i := 6) sc_after_turn.nd rfl (Or.inl rfl) (dgns_cons (i := 7) sc_after_turn.nd rfl (Or.inl rfl) (dgns_nil))))))
    (dss_one (ds_ret (de_tup (da_cons (dv 6) (da_cons (de_str) (da_cons (dv 7) (da_nil))))))))))
theorem Tx.F_Builder_is_room (T : Tx w K mg) : MMt P w K mg base 2 "Builder" "is_room" 1 F_Builder_is_room :=
  mmt_md T.d_Builder_is_room T.c_Builder (k := 1) (b := f_Builder_is_room) sc_Builder_is_room (fun _ _ _ _ _ _ us hl => match us, hl with | [_], _ => rfl) fun f cdv A outer s H E gd =>
    dss_cons (ds_set (i := 1) sc_Builder_is_room.nd rfl (Or.inl rfl) (de_callB call_len' (by rfl) T.b_len (by decide +kernel) (da_cons (de_lcV rfl sc_Builder_is_room.nd (dl_any (de_fld (na1 T.c_Builder T.n_Builder_now) (dv 0))) (blkOk_by (own := [("standing", 2)]) (N := ["self", "outs", "standing"]) (sc := defScope s_Builder_is_room) (by decide +kernel)) (fun _ _ _ _ _ => dgn_name (i := 2) sc_Builder_is_room.nd rfl (Or.inl rfl)) (fun _ _ _ _ _ => dts_one (dt_cmp (op_ne' gd.blk) (de_ixA gd.blk (dv 2) (de_int)) (de_str) (nomark _))) (fun _ _ _ _ _ => dv 2)) (da_nil))))
    (dss_one (ds_ret (de_cmp op_lt' (dv 1) (de_pmt T.F_Rule_limit (gd.mono (by decide)) (de_fld (na1 T.c_Builder T.n_Builder_by) (dv 0)) (da_cons (de_callB call_len' (by rfl) T.b_len (by decide +kernel) (da_cons (de_fld (na1 T.c_Builder T.n_Builder_now) (dv 0)) (da_nil))) (da_nil))) (nomark _))))
theorem Tx.F_Builder_turn (T : Tx w K mg) : MMt P w K mg base 6 "Builder" "turn" 3 F_Builder_turn :=
  mmt_md T.d_Builder_turn T.c_Builder (k := 5) (b := f_Builder_turn) sc_Builder_turn (fun _ _ _ _ _ _ us hl => match us, hl with | [_, _, _], _ => rfl) fun f cdv A outer s H E gd =>
    dss_cons (ds_asg (de_ixA gd (de_pfnK T.F_after_turn (gd.mono (by decide)) (by rfl) (da_cons (de_fld (na1 T.c_Builder T.n_Builder_by) (dv 0)) (da_cons (de_ixA gd (de_fld (na1 T.c_Builder T.n_Builder_now) (dv 0)) (dv 1)) (da_cons (dv 2) (da_cons (de_mmt0 T.F_Builder_is_room (gd.mono (by decide)) (dv 0)) (da_nil)))))) (de_int)) (dg_subA gd (de_fld (na1 T.c_Builder T.n_Builder_now) (dv 0)) (dv 1)))
    (dss_one (ds_expr (de_append (de_fld (na1 T.c_Builder T.n_Builder_events) (dv 0)) (da_cons (de_op op_add' (de_joined (DJ.cons (de_str) (DJ.cons (de_fmt (dv 1)) (DJ.cons (de_str) (DJ.nil))))) (de_if (dt_val (dv 2)) (de_str) (de_str))) (da_nil)))))
theorem Tx.F_Builder_leave_out (T : Tx w K mg) : MMt P w K mg base 7 "Builder" "leave_out" 2 F_Builder_leave_out :=
  mmt_md T.d_Builder_leave_out T.c_Builder (k := 6) (b := f_Builder_leave_out) sc_Builder_leave_out (fun _ _ _ _ _ _ us hl => match us, hl with | [_, _], _ => rfl) fun f cdv A outer s H E gd =>
    dss_one (ds_while big PassesOwn.never (dt_cmp (op_ne' gd) (de_ixA gd (de_ixA gd (de_fld (na1 T.c_Builder T.n_Builder_now) (dv 0)) (dv 1)) (de_int)) (de_str) (nomark _)) (dss_one (ds_expr (de_mmt T.F_Builder_turn (gd.mono (by decide)) (dv 0) (da_cons (dv 1) (da_cons (de_bl) (da_nil)))))))
theorem Tx.F_Builder_leave_out_long (T : Tx w K mg) : MMt P w K mg base 8 "Builder" "leave_out_long" 2 F_Builder_leave_out_long :=
  mmt_md T.d_Builder_leave_out_long T.c_Builder (k := 7) (b := f_Builder_leave_out_long) sc_Builder_leave_out_long (fun _ _ _ _ _ _ us hl => match us, hl with | [_, _], _ => rfl) fun f cdv A outer s H E gd =>
    dss_cons (ds_expr (de_mmt T.F_Builder_leave_out (gd.mono (by decide)) (dv 0) (da_cons (dv 1) (da_nil))))
    (dss_one (ds_while big PassesOwn.never (dt_w (dw_and (dt_cmp (op_eq' gd) (de_ixA gd (de_ixA gd (de_fld (na1 T.c_Builder T.n_Builder_now) (dv 0)) (dv 1)) (de_int)) (de_int) (nomark _)) (dw_and1 (dt_cmp (op_ne' gd) (de_fld (na1 T.c_Rule T.n_Rule_back) (de_fld (na1 T.c_Builder T.n_Builder_by) (dv 0))) (de_str) (nomark _))))) (dss_cons (ds_expr (de_mmt T.F_Builder_turn (gd.mono (by decide)) (dv 0) (da_cons (dv 1) (da_cons (de_bl) (da_nil)))))
    (dss_one (ds_expr (de_mmt T.F_Builder_leave_out (gd.mono (by decide)) (dv 0) (da_cons (dv 1) (da_nil))))))))
theorem Tx.F_after_word (T : Tx w K mg) : PFn P w K mg base 5 "after_word" 3 F_after_word :=
  pfn_df T.d_after_word (k := 4) (b := f_after_word) sc_after_word (fun _ _ _ _ _ _ us hl => match us, hl with | [_, _, _], _ => rfl) fun f cdv A outer s H E gd =>
    dss_cons (ds_if (dt_w (dw_or (dt_cmp (op_ne' gd) (de_ixA gd (dv 1) (de_int)) (de_str) (nomark _)) (dw_or1 (dt_cmp (op_eq' gd) (de_fld (na1 T.c_Rule T.n_Rule_hears) (dv 0)) (de_str) (nomark _))))) (dss_one (ds_ret (de_tup (da_cons (dv 1) (da_cons (de_bl) (da_nil)))))) (dss_nil))
    (dss_one (ds_ret (de_if (dt_cmp (op_eq' gd) (de_fld (na1 T.c_Rule T.n_Rule_hears) (dv 0)) (de_str) (nomark _)) (de_pfn T.F_at_try (gd.mono (by decide)) (by rfl) (da_cons (dv 0) (da_cons (dv 1) (da_cons (dv 2) (da_nil))))) (de_pfn T.F_after_fault (gd.mono (by decide)) (by rfl) (da_cons (dv 0) (da_cons (dv 1) (da_cons (dv 2) (da_nil))))))))
theorem Tx.F_Builder_leave_out_missed (T : Tx w K mg) : MMt P w K mg base 8 "Builder" "leave_out_missed" 2 F_Builder_leave_out_missed :=
  mmt_md T.d_Builder_leave_out_missed T.c_Builder (k := 7) (b := f_Builder_leave_out_missed) sc_Builder_leave_out_missed (fun _ _ _ _ _ _ us hl => match us, hl with | [_, _], _ => rfl) fun f cdv A outer s H E gd =>
    dss_cons (ds_expr (de_extend (de_fld (na1 T.c_Builder T.n_Builder_events) (dv 0)) (da_cons (de_op op_mul' (de_lst (da_cons (de_joined (DJ.cons (de_str) (DJ.cons (de_fmt (dv 1)) (DJ.cons (de_str) (DJ.nil))))) (da_nil))) (de_fld (na1 T.c_Rule T.n_Rule_need) (de_fld (na1 T.c_Builder T.n_Builder_by) (dv 0)))) (da_nil))))
    (dss_cons (ds_expr (de_mmt T.F_Builder_leave_out (gd.mono (by decide)) (dv 0) (da_cons (dv 1) (da_nil))))
    (dss_cons (ds_expr (de_mmt T.F_Builder_turn (gd.mono (by decide)) (dv 0) (da_cons (dv 1) (da_cons (de_bl) (da_nil)))))
    (dss_one (ds_while big PassesOwn.never (dt_cmp (op_ne' gd) (de_ixA gd (de_ixA gd (de_fld (na1 T.c_Builder T.n_Builder_now) (dv 0)) (dv 1)) (de_int)) (de_str) (nomark _)) (dss_cons (ds_asg (de_ixA gd (de_pfnK T.F_after_word (gd.mono (by decide)) (by rfl) (da_cons (de_fld (na1 T.c_Builder T.n_Builder_by) (dv 0)) (da_cons (de_ixA gd (de_fld (na1 T.c_Builder T.n_Builder_now) (dv 0)) (dv 1)) (da_cons (de_mmt0 T.F_Builder_is_room (gd.mono (by decide)) (dv 0)) (da_nil))))) (de_int)) (dg_subA gd (de_fld (na1 T.c_Builder T.n_Builder_now) (dv 0)) (dv 1)))
    (dss_one (ds_expr (de_append (de_fld (na1 T.c_Builder T.n_Builder_events) (dv 0)) (da_cons (de_joined (DJ.cons (de_str) (DJ.cons (de_fmt (dv 1)) (DJ.nil)))) (da_nil))))))))))
theorem Tx.F_Builder_keep (T : Tx w K mg) : MMt P w K mg base 7 "Builder" "keep" 2 F_Builder_keep :=
  mmt_md T.d_Builder_keep T.c_Builder (k := 6) (b := f_Builder_keep) sc_Builder_keep (fun _ _ _ _ _ _ us hl => match us, hl with | [_, _], _ => rfl) fun f cdv A outer s H E gd =>
    dss_one (ds_for PassesOwn.never rfl (di_range1 (by rfl) T.b_range (da_cons (de_fld (na1 T.c_Rule T.n_Rule_need) (de_fld (na1 T.c_Builder T.n_Builder_by) (dv 0))) (da_nil))) (dg_of (dgn_name (i := 2) sc_Builder_keep.nd rfl (Or.inl rfl))) (dss_one (ds_expr (de_mmt T.F_Builder_turn (gd.mono (by decide)) (dv 0) (da_cons (dv 1) (da_cons (de_bl) (da_nil)))))))
theorem Tx.F_is_sequence (T : Tx w K mg) : PFn P w K mg base 1 "is_sequence" 1 F_is_sequence :=
  pfn_df T.d_is_sequence (k := 0) (b := f_is_sequence) sc_is_sequence (fun _ _ _ _ _ _ us hl => match us, hl with | [_], _ => rfl) fun f cdv A outer s H E gd =>
    dss_one (ds_ret (de_callB call_isi' (by rfl) T.b_isinstance (by decide +kernel) (da_cons (dv 0) (da_cons (de_tup (da_cons (de_ty (t := "list") (by rfl) T.b_list (by decide +kernel)) (da_cons (de_ty (t := "tuple") (by rfl) T.b_tuple (by decide +kernel)) (da_nil)))) (da_nil)))))
theorem Tx.F_event_in (T : Tx w K mg) : PFn P w K mg base 2 "event_in" 1 F_event_in :=
  pfn_df T.d_event_in (k := 1) (b := f_event_in) sc_event_in (fun _ _ _ _ _ _ us hl => match us, hl with | [_], _ => rfl) fun f cdv A outer s H E gd =>
    dss_cons (ds_set (i := 1) sc_event_in.nd rfl (Or.inl rfl) (de_split (dv 0) (de_str)))
    (dss_cons (ds_if (dt_cmp (op_ne' gd) (de_callB call_len' (by rfl) T.b_len (by decide +kernel) (da_cons (dv 1) (da_nil))) (de_int) (nomark _)) (dss_one (ds_ret (de_non))) (dss_nil))
    (dss_cons (ds_setLc (i := 2) rfl sc_event_in.nd rfl rfl (sw_true rfl rfl rfl (by decide +kernel)) (di_any (de_sl (dv 1) (dp_yes (de_int)) (dp_no))) (blkOk_by (own := [("word", 3)]) (N := ["text", "words", "numbers", "word"]) (sc := defScope s_event_in) (by decide +kernel)) (fun _ _ _ _ _ => dgn_name (i := 3) sc_event_in.nd rfl (Or.inl rfl)) (fun _ _ _ _ _ => dts_nil) (fun _ _ _ _ _ => de_pfn T.F_number_in (gd.blk.mono (by decide)) (by rfl) (da_cons (dv 3) (da_cons (de_int) (da_nil)))))
    (dss_cons (ds_if (dt_w (dw_and (dt_cmp (op_eq' gd) (de_ixA gd (dv 1) (de_int)) (de_str) (nomark _)) (dw_and (dt_cmp (op_ninA gd) (de_non) (de_sl (dv 2) (dp_no) (dp_yes (de_int))) (by rfl)) (dw_and1 (dt_cmp (op_inA gd) (de_ixA gd (dv 1) (de_int)) (de_gtup (ds := [.str "ok", .str "fault"]) (by rfl) T.g_ANSWERS T.t_ANSWERS (fun _ _ => .cons (.str _) (.cons (.str _) (.nil)))) (by rfl)))))) (dss_one (ds_ret (de_tup (da_cons (de_str) (da_cons (de_ixA gd (dv 2) (de_int)) (da_cons (de_ixA gd (dv 2) (de_int)) (da_cons (de_cmp (op_eq' gd) (de_ixA gd (dv 1) (de_int)) (de_str) (nomark _)) (da_nil)))))))) (dss_nil))
    (dss_cons (ds_if (dt_w (dw_and (dt_cmp (op_eq' gd) (de_ixA gd (dv 1) (de_int)) (de_str) (nomark _)) (dw_and (dt_cmp (op_ninA gd) (de_non) (dv 2) (by rfl)) (dw_and1 (dt_cmp (op_ne' gd) (de_ixA gd (dv 2) (de_int)) (de_ixA gd (dv 2) (de_int)) (nomark _)))))) (dss_one (ds_ret (de_tup (da_cons (de_str) (da_star (dv 2) (da_nil)))))) (dss_nil))
    (dss_one (ds_ret (de_non)))))))
theorem Tx.F_event_of (T : Tx w K mg) : PFn P w K mg base 3 "event_of" 3 F_event_of :=
  pfn_df T.d_event_of (k := 2) (b := f_event_of) sc_event_of (fun _ _ _ _ _ _ us hl => match us, hl with | [_, _, _], _ => rfl) fun f cdv A outer s H E gd =>
    dss_cons (ds_set (i := 3) sc_event_of.nd rfl (Or.inl rfl) (de_if (dt_val (de_callB call_isi' (by rfl) T.b_isinstance (by decide +kernel) (da_cons (dv 0) (da_cons (de_ty (t := "str") (by rfl) T.b_str (by decide +kernel)) (da_nil))))) (de_pfn T.F_event_in (gd.mono (by decide)) (by rfl) (da_cons (dv 0) (da_nil))) (de_non)))
    (dss_cons (ds_if (dt_isN (dv 3)) (dss_one (ds_ret (de_non))) (dss_nil))
    (dss_cons (ds_if (dt_cmp (op_eq' gd) (de_ixA gd (dv 3) (de_int)) (de_str) (nomark _)) (dss_one (ds_ret (de_if (dt_w (dw_and (dt_cmp op_lt' (de_ixA gd (dv 3) (de_int)) (dv 1) (nomark _)) (dw_and1 (dt_cmp op_lt' (de_ixA gd (dv 3) (de_int)) (dv 2) (nomark _))))) (dv 3) (de_non)))) (dss_nil))
    (dss_one (ds_ret (de_if (dt_w (dw_and (dt_cmp op_lt' (de_ixA gd (dv 3) (de_int)) (dv 1) (nomark _)) (dw_and (dt_cmp op_lt' (de_ixA gd (dv 3) (de_int)) (dv 1) (nomark _)) (dw_and1 (dt_cmp op_lt' (de_ixA gd (dv 3) (de_int)) (dv 2) (nomark _)))))) (dv 3) (de_non))))))
theorem Tx.F_events_of (T : Tx w K mg) : PFn P w K mg base 4 "events_of" 3 F_events_of :=
  pfn_df T.d_events_of (k := 3) (b := f_events_of) sc_events_of (fun _ _ _ _ _ _ us hl => match us, hl with | [_, _, _], _ => rfl) fun f cdv A outer s H E gd =>
    dss_cons (ds_setLc (i := 3) rfl sc_events_of.nd rfl rfl (sw_true rfl rfl rfl (by decide +kernel)) (di_any (dv 0)) (blkOk_by (own := [("value", 4)]) (N := ["values", "callers", "servers", "found", "value"]) (sc := defScope s_events_of) (by decide +kernel)) (fun _ _ _ _ _ => dgn_name (i := 4) sc_events_of.nd rfl (Or.inl rfl)) (fun _ _ _ _ _ => dts_nil) (fun _ _ _ _ _ => de_pfn T.F_event_of (gd.blk.mono (by decide)) (by rfl) (da_cons (dv 4) (da_cons (dv 1) (da_cons (dv 2) (da_nil))))))
    (dss_cons (ds_if (dt_cmp (op_inA gd) (de_non) (dv 3) (by rfl)) (dss_one (ds_never)) (dss_nil))
    (dss_one (ds_ret (de_callT call_tup' (by rfl) T.b_tuple (by decide +kernel) (da_cons (dv 3) (da_nil))))))
theorem Tx.F_Road___init__ (T : Tx w K mg) : MNd P w K mg base 5 "Road" 4 F_Road___init__ :=
  mnd_ki T.k_Road (k := 4) (b := f_Road___init__) sc_Road___init__ (by decide) (fun _ _ _ _ _ _ _ us its hl hi => match us, hl, its, hi with | [_, _, _, _], _, [_], _ => ⟨_, rfl, rfl⟩) (fun _ _ _ _ _ _ _ us its hl hi => match us, hl, its, hi with | [_, _, _], _, [_], _ => ⟨_, rfl, rfl⟩) fun f cdv A outer s H E gd =>
    dss_cons (ds_if (dt_not (dt_val (de_pfn T.F_is_from (gd.mono (by decide)) (by rfl) (da_cons (dv 1) (da_cons (de_int) (da_nil)))))) (dss_one (ds_never)) (dss_nil))
    (dss_cons (ds_if (dt_not (dt_val (de_pfn T.F_is_from (gd.mono (by decide)) (by rfl) (da_cons (dv 2) (da_cons (de_int) (da_nil)))))) (dss_one (ds_never)) (dss_nil))
    (dss_cons (ds_if (dt_not (dt_val (de_pfn T.F_is_sequence (gd.mono (by decide)) (by rfl) (da_cons (dv 3) (da_nil))))) (dss_one (ds_never)) (dss_nil))
    (dss_cons (ds_fld (na1 T.c_Road T.n_Road_told_events) (dv 0) (de_pfn T.F_events_of (gd.mono (by decide)) (by rfl) (da_cons (dv 3) (da_cons (dv 1) (da_cons (dv 2) (da_nil))))))
    (dss_cons (ds_fld (na1 T.c_Road T.n_Road_callers) (dv 0) (dv 1))
    (dss_cons (ds_fld (na1 T.c_Road T.n_Road_servers) (dv 0) (dv 2))
    (dss_one (ds_fld (na1 T.c_Road T.n_Road_events) (dv 0) (de_callT call_tup' (by rfl) T.b_tuple (by decide +kernel) (da_cons (dv 3) (da_nil))))))))))
theorem Tx.FX_road (T : Tx w K mg) : PFx P w K mg base 9 "road" 2 FX_road :=
  pfx_df T.d_road (k := 8) (b := y_road) sc_road (fun _ _ _ _ _ _ us hl => match us, hl with | [_, _], _ => rfl) fun f cdv A outer s H E gd =>
    dys_cons (dy_set (i := 2) sc_road.nd rfl (Or.inl rfl) (dx_pfx T.FX_numbers (gd.mono (by decide)) (by rfl) (da_cons (dv 0) (da_cons (dv 1) (da_nil)))))
    (dys_of (dss_cons (ds_if (dt_isN (dv 2)) (dss_one (ds_ret (de_non))) (dss_nil))
    (dss_cons (ds_set (i := 3) sc_road.nd rfl (Or.inl rfl) (de_ixA gd.nox (dv 2) (de_int)))
    (dss_cons (ds_par3 (by rfl) sc_road.nd (i := 4) (j := 5) (l := 6) rfl rfl rfl (by decide) (by decide) (by decide) rfl rfl rfl (da_cons (de_pmt T.F_Rule_limit (gd.nox.mono (by decide)) (dv 0) (da_cons (dv 3) (da_nil))) (da_cons (de_newM T.F_Builder___init__ (gd.nox.mono (by decide)) (by rfl) (da_cons (dv 0) (da_cons (dv 3) (da_nil)))) (da_cons (de_int) (da_nil)))) (by rfl))
    (dss_cons (ds_if (dt_w (dw_and (dt_cmp (op_eq' gd.nox) (dv 1) (de_str) (nomark _)) (dw_and1 (dt_val (de_pfn T.F_is_lasting (gd.nox.mono (by decide)) (by rfl) (da_cons (dv 0) (da_nil))))))) (dss_one (ds_expr (de_mmt T.F_Builder_leave_out_long (gd.nox.mono (by decide)) (dv 5) (da_cons (de_int) (da_nil))))) (dss_one (ds_if (dt_cmp (op_eq' gd.nox) (dv 1) (de_str) (nomark _)) (dss_cons (ds_expr (de_mmt T.F_Builder_leave_out_missed (gd.nox.mono (by decide)) (dv 5) (da_cons (de_int) (da_nil))))
    (dss_one (ds_set (i := 6) sc_road.nd rfl (Or.inl rfl) (de_int)))) (dss_nil))))
    (dss_cons (ds_for PassesOwn.never rfl (di_range1 (by rfl) T.b_range (da_cons (de_callB (call_min2'' rfl) (by rfl) T.b_min (by decide +kernel) (da_cons (dv 4) (da_cons (dv 3) (da_nil)))) (da_nil))) (dg_of (dgn_name (i := 7) sc_road.nd rfl (Or.inl rfl))) (dss_one (ds_expr (de_mmt T.F_Builder_leave_out (gd.nox.mono (by decide)) (dv 5) (da_cons (dv 7) (da_nil))))))
    (dss_cons (ds_if (dt_w (dw_and (dt_cmp (op_eq' gd.nox) (dv 1) (de_str) (nomark _)) (dw_and1 (dt_val (de_pfn T.F_is_lasting (gd.nox.mono (by decide)) (by rfl) (da_cons (dv 0) (da_nil))))))) (dss_one (ds_expr (de_mmt T.F_Builder_turn (gd.nox.mono (by decide)) (dv 5) (da_cons (de_int) (da_cons (de_bl) (da_nil)))))) (dss_nil))
    (dss_cons (ds_if (dt_cmp (op_ne' gd.nox) (dv 1) (de_str) (nomark _)) (dss_one (ds_expr (de_mmt T.F_Builder_keep (gd.nox.mono (by decide)) (dv 5) (da_cons (dv 4) (da_nil))))) (dss_nil))
    (dss_one (ds_ret (de_newG T.F_Road___init__.fn (gd.nox.mono (by decide)) (by rfl) (da_cons (dv 6) (da_cons (dv 3) (da_cons (de_fld (naC T.c_Road T.n_Road_events (na1 T.c_Builder T.n_Builder_events)) (dv 5)) (da_nil)))))))))))))))
theorem Tx.FX__law_is_let (T : Tx w K mg) : PFx P w K mg base 10 "_law_is_let" 3 FX__law_is_let :=
  pfx_df T.d__law_is_let (k := 9) (b := y__law_is_let) sc__law_is_let (fun _ _ _ _ _ _ us hl => match us, hl with | [_, _, _], _ => rfl) fun f cdv A outer s H E gd =>
    dys_cons (dy_of (ds_set (i := 3) sc__law_is_let.nd rfl (Or.inl rfl) (de_bl)))
    (dys_cons (dy_try rfl rfl sc__law_is_let.nd (fun _ _ _ => dys_one (dy_expr (dx_callLX (k := 9) (i := 0) (TabX.cons (T.FX_happens.more (by decide)) T.g_happens (TabX.cons (T.FX_numbers.more (by decide)) T.g_numbers (TabX.cons (T.FX_road.more (by decide)) T.g_road (TabX.nil)))) (gd.tr.mono (by decide)) rfl (by first | exact .inl rfl | exact .inr (.inl rfl) | exact .inr (.inr rfl)) (da_cons (dv 1) (da_cons (dv 2) (da_nil)))))) (.named (by rfl) T.g_InvalidGoal (by decide) (xmN_cons T.xm_InvalidGoal_InvalidGoal (xmN_nil)) rfl rfl (hs_set (j := 3) sc__law_is_let.nd rfl (Or.inl rfl) (he_if (ht_w (hw_and (ht_val (he_isi (i := 4) (xiN_cons T.xc_InvalidGoal T.xi_InvalidGoal_SitError (xiN_nil)) (by rfl) T.b_isinstance rfl (by first | exact .inl rfl | exact .inr (.inl rfl) | exact .inr (.inr rfl)) (by rfl) T.g_SitError)) (hw_and1 (ht_not (ht_val (he_isi (i := 4) (xiN_cons T.xc_InvalidGoal T.xi_InvalidGoal_InvalidWhat (xiN_nil)) (by rfl) T.b_isinstance rfl (by first | exact .inl rfl | exact .inr (.inl rfl) | exact .inr (.inr rfl)) (by rfl) T.g_InvalidWhat)))))) (he_of (fun _ _ => de_bl)) (he_of (fun _ _ => de_str)))) (HdX.nil)))
    (dys_of (dss_one (ds_ret (dv 3)))))
theorem Tx.F__law_is_let (T : Tx w K mg) : PFn P w K mg base 10 "_law_is_let" 3 F__law_is_let := pfx_oxP T.FX__law_is_let
theorem Tx.F__law_any (T : Tx w K mg) : ∀ n, MFn P w K mg base (2 + n) "_law_any" 2 (L4.F__law_any n)
  | 0 => mfn_none (ps := ["_law_box_here", "_law_deep"]) T.d__law_any (fun _ _ _ _ _ _ us hl => match us, hl with | [_, _], _ => rfl)
  | n + 1 => mfn_df T.d__law_any (k := 2 + n) (b := f__law_any (L4.F__law_any n)) sc__law_any (fun _ _ _ _ _ _ us hl => match us, hl with | [_, _], _ => rfl) fun f cdv A outer s H E gdR => have gd := gdR.mono (Nat.le_add_right 2 n); have ih := Tx.F__law_any T n;
    dss_cons (ds_set (i := 2) sc__law_any.nd rfl (Or.inl rfl) (de_mfn T.F__law_take (gd.mono (by decide)) (by rfl) (da_cons (dv 0) (da_cons (de_int) (da_nil)))))
    (dss_cons (ds_if (dt_w (dw_and (dt_cmp op_gt' (dv 1) (de_int) (nomark _)) (dw_and1 (dt_cmp op_lt' (dv 2) (de_int) (nomark _))))) (dss_cons (ds_setLc (i := 3) rfl sc__law_any.nd rfl rfl (sw_true rfl rfl rfl (by decide +kernel)) (di_range1 (by rfl) T.b_range (da_cons (de_mfn T.F__law_take (gd.mono (by decide)) (by rfl) (da_cons (dv 0) (da_cons (de_int) (da_nil)))) (da_nil))) (blkOk_by (own := [("_law_turn", 4)]) (N := ["_law_box_here", "_law_deep", "_law_form", "_law_some", "_law_turn"]) (sc := defScope s__law_any) (by decide +kernel)) (fun _ _ _ _ _ => dgn_name (i := 4) sc__law_any.nd rfl (Or.inl rfl)) (fun _ _ _ _ _ => dts_nil) (fun _ _ _ _ _ => de_mfn ih gdR.blk (by rfl) (da_cons (dv 0) (da_cons (de_op op_sub' (dv 1) (de_int)) (da_nil)))))
    (dss_one (ds_ret (de_if (dt_cmp op_lt' (dv 2) (de_int) (nomark _)) (dv 3) (de_callT call_tup' (by rfl) T.b_tuple (by decide +kernel) (da_cons (dv 3) (da_nil))))))) (dss_nil))
    (dss_one (ds_ret (de_mfn T.F__law_pick (gd.mono (by decide)) (by rfl) (da_cons (dv 0) (da_cons (de_lst (da_cons (de_int) (da_cons (de_int) (da_cons (de_bl) (da_cons (de_non) (da_cons (de_str) (da_cons (de_str) (da_cons (de_str) (da_cons (de_str) (da_cons (de_str) (da_cons (de_str) (da_cons (de_str) (da_cons (de_op op_pow' (de_int) (de_int)) (da_cons (de_un un_neg' (de_int)) (da_nil))))))))))))))) (da_nil)))))))
theorem Tx.law_fn (T : Tx w K mg) {f : Addr} {fd : FuncData} (F : Fun K "law" "law" s_law f fd) : FnG P w K mg base CX0 14 f fd ["_law_script"] (spP ⟨P, w, K⟩ 1 F_law) := by
  have h := law_df (k := 13) (b := f_law) (P := P) (w := w) (mg := mg) (base := base) F sc_law fun f cdv A outer s H E gd =>
    dss_cons (ds_for PassesOwn.never rfl (di_range1 (by rfl) T.b_range (da_cons (de_callB (call_max2'' rfl) (by rfl) T.b_max (by decide +kernel) (da_cons (de_int) (da_cons (de_callB (call_min2'' rfl) (by rfl) T.b_min (by decide +kernel) (da_cons (de_int) (da_cons (de_callB call_len' (by rfl) T.b_len (by decide +kernel) (da_cons (dv 0) (da_nil))) (da_nil)))) (da_nil)))) (da_nil))) (dg_of (dgn_name (i := 1) sc_law.nd rfl (Or.inl rfl))) (dss_cons (ds_set (i := 2) sc_law.nd rfl (Or.inl rfl) (de_mfn T.F__law_box (gd.mono (by decide)) (by rfl) (da_cons (dv 0) (da_cons (dv 1) (da_nil)))))
    (dss_cons (ds_set (i := 3) sc_law.nd rfl (Or.inl rfl) (de_pfnK T.F__law_rule_of (gd.mono (by decide)) (by rfl) (da_cons (de_mfn T.F__law_rule (gd.mono (by decide)) (by rfl) (da_cons (dv 2) (da_cons (de_int) (da_cons (de_int) (da_cons (de_int) (da_nil)))))) (da_nil))))
    (dss_one (ds_for PassesOwn.never rfl (di_any (de_tup (da_cons (de_glo (by rfl) T.g_happens) (da_cons (de_glo (by rfl) T.g_numbers) (da_cons (de_glo (by rfl) T.g_road) (da_nil)))))) (dg_of (dgn_name (i := 4) sc_law.nd rfl (Or.inl rfl))) (dss_cons (ds_for PassesOwn.never rfl (di_any (de_tup (da_cons (de_str) (da_cons (de_str) (da_cons (de_str) (da_nil)))))) (dg_of (dgn_name (i := 5) sc_law.nd rfl (Or.inl rfl))) (dss_one (ds_if (dt_cmp op_isNot' (de_pfn T.F__law_is_let (gd.mono (by decide)) (by rfl) (da_cons (dv 4) (da_cons (dv 3) (da_cons (dv 5) (da_nil))))) (de_bl) (nomark _)) (dss_one (ds_ret (de_bl))) (dss_nil))))
    (dss_one (ds_for PassesOwn.never rfl (di_any (de_tup (da_cons (de_str) (da_cons (de_str) (da_cons (de_str) (da_cons (de_non) (da_cons (de_int) (da_cons (de_bl) (da_cons (de_lst (da_cons (de_str) (da_nil))) (da_cons (de_tup (da_cons (de_str) (da_nil))) (da_cons (dv 3) (da_cons (de_mfn (T.F__law_any 10) (gd.mono (by decide)) (by rfl) (da_cons (dv 2) (da_cons (de_int) (da_nil)))) (da_nil))))))))))))) (dg_of (dgn_name (i := 6) sc_law.nd rfl (Or.inl rfl))) (dss_one (ds_if (dt_cmp op_isNot' (de_pfn T.F__law_is_let (gd.mono (by decide)) (by rfl) (da_cons (dv 4) (da_cons (dv 3) (da_cons (dv 6) (da_nil))))) (de_bl) (nomark _)) (dss_one (ds_ret (de_bl))) (dss_nil)))))))))))
    (dss_one (ds_ret (de_bl)))
  exact h
end
end L4
namespace L4
open PySem PySem.Spec PyProof.Rows L2
open L3 (Fx fx_at SaysW hookW obsWG obsWG_eq Tabs gdef mdef cdef cmB df_of md_of ki_of cmd_of)
theorem tx_of {w : World} {K : PySem.W.Frag} {h : Heap} {mg : Str → Option Value} (X : K.In h) (G : h.Ns mainGlobals mg) (c : SaysW exs fns htabs w K) : Tx w K mg := by
  have s := c.b
  have hx : (fxs.all fun f => f.ok K) = true := s.fx
  exact ⟨He.free_ok X G (fx_at hx 0 (f := .fa (.free "abs"))),
    He.free_ok X G (fx_at hx 1 (f := .fa (.free "all"))),
    He.free_ok X G (fx_at hx 2 (f := .fa (.free "bool"))),
    He.free_ok X G (fx_at hx 3 (f := .fa (.free "int"))),
    He.free_ok X G (fx_at hx 4 (f := .fa (.free "isinstance"))),
    He.free_ok X G (fx_at hx 5 (f := .fa (.free "len"))),
    He.free_ok X G (fx_at hx 6 (f := .fa (.free "list"))),
    He.free_ok X G (fx_at hx 7 (f := .fa (.free "max"))),
    He.free_ok X G (fx_at hx 8 (f := .fa (.free "min"))),
    He.free_ok X G (fx_at hx 9 (f := .fa (.free "range"))),
    He.free_ok X G (fx_at hx 10 (f := .fa (.free "str"))),
    He.free_ok X G (fx_at hx 11 (f := .fa (.free "tuple"))),
    He.free_ok X G (fx_at hx 12 (f := .fa (.free "zip"))),
    He.cls_ok (fx_at hx 13 (f := .fa (.cls "Builder"))),
    He.noat_ok (fx_at hx 14 (f := .fa (.noat "Builder" "by"))),
    He.noat_ok (fx_at hx 15 (f := .fa (.noat "Builder" "events"))),
    He.noat_ok (fx_at hx 16 (f := .fa (.noat "Builder" "now"))),
    He.cls_ok (fx_at hx 17 (f := .fa (.cls "Road"))),
    He.noat_ok (fx_at hx 18 (f := .fa (.noat "Road" "callers"))),
    He.noat_ok (fx_at hx 19 (f := .fa (.noat "Road" "events"))),
    He.noat_ok (fx_at hx 20 (f := .fa (.noat "Road" "servers"))),
    He.noat_ok (fx_at hx 21 (f := .fa (.noat "Road" "told_events"))),
    He.cls_ok (fx_at hx 22 (f := .fa (.cls "Rule"))),
    He.noat_ok (fx_at hx 23 (f := .fa (.noat "Rule" "back"))),
    He.noat_ok (fx_at hx 24 (f := .fa (.noat "Rule" "base"))),
    He.noat_ok (fx_at hx 25 (f := .fa (.noat "Rule" "calm"))),
    He.noat_ok (fx_at hx 26 (f := .fa (.noat "Rule" "cap"))),
    He.noat_ok (fx_at hx 27 (f := .fa (.noat "Rule" "hears"))),
    He.noat_ok (fx_at hx 28 (f := .fa (.noat "Rule" "more"))),
    He.noat_ok (fx_at hx 29 (f := .fa (.noat "Rule" "most"))),
    He.noat_ok (fx_at hx 30 (f := .fa (.noat "Rule" "need"))),
    He.noat_ok (fx_at hx 31 (f := .fa (.noat "Rule" "of"))),
    He.noat_ok (fx_at hx 32 (f := .fa (.noat "Rule" "top"))),
    He.noat_ok (fx_at hx 33 (f := .fa (.noat "Rule" "under"))),
    He.noat_ok (fx_at hx 34 (f := .fa (.noat "Rule" "up"))),
    L3.insc_ok (fx_at hx 35 (f := .insc "Rule")),
    fx_at hx 36 (f := .bo (fun K => itaB K "Rule")),
    He.glo_ok X G (fx_at hx 37 (f := .fa (.glo "InvalidGoal"))),
    He.glo_ok X G (fx_at hx 38 (f := .fa (.glo "InvalidWhat"))),
    He.glo_ok X G (fx_at hx 39 (f := .fa (.glo "Rule"))),
    He.glo_ok X G (fx_at hx 40 (f := .fa (.glo "SitError"))),
    He.glo_ok X G (fx_at hx 41 (f := .fa (.glo "happens"))),
    He.glo_ok X G (fx_at hx 42 (f := .fa (.glo "numbers"))),
    He.glo_ok X G (fx_at hx 43 (f := .fa (.glo "road"))),
    He.glo_ok X G (fx_at hx 44 (f := .fa (.glo "ANSWERS"))),
    fun H => He.tupB_ok (fx_at hx 45 (f := .tup "ANSWERS" [.str "ok", .str "fault"])) H,
    He.glo_ok X G (fx_at hx 46 (f := .fa (.glo "BACKS"))),
    fun H => He.tupB_ok (fx_at hx 47 (f := .tup "BACKS" [.str "half", .str "open", .str "trial"])) H,
    He.str_ok X G (fx_at hx 48 (f := .fa (.str "DIGITS" "0123456789"))),
    He.glo_ok X G (fx_at hx 49 (f := .fa (.glo "GOALS"))),
    fun H => He.tupB_ok (fx_at hx 50 (f := .tup "GOALS" [.str "all", .str "kept", .str "swap"])) H,
    He.glo_ok X G (fx_at hx 51 (f := .fa (.glo "HEARD"))),
    fun H => He.tupB_ok (fx_at hx 52 (f := .tup "HEARD" [.str "fault", .str "no", .str "out"])) H,
    He.glo_ok X G (fx_at hx 53 (f := .fa (.glo "ROUNDS"))),
    fun X hK hW => tbl_of hK hW (c.tab 0) (fx_at hx 54 (f := .bo (fun K => tblB K (He.ga K "ROUNDS") tb_ROUNDS))) (fx_at hx 55 (f := .bo (fun K => nsOnly K (He.ga K "ROUNDS") ["down", "up"]))),
    xcB_ok (fx_at hx 56 (f := .bo (fun K => xcB K (He.ga K "InvalidGoal")))),
    xc0B_ok (fx_at hx 56 (f := .bo (fun K => xcB K (He.ga K "InvalidGoal")))) (fx_at hx 57 (f := .bo (fun K => xc0B K "InvalidGoal"))),
    xiB_ok (fx_at hx 58 (f := .bo (fun K => xiB K "InvalidGoal" "InvalidWhat" false))),
    xiB_ok (fx_at hx 59 (f := .bo (fun K => xiB K "InvalidGoal" "SitError" true))),
    xmB_ok (fx_at hx 60 (f := .bo (fun K => xmB K "InvalidGoal" "InvalidGoal" true))),
    df_of X G (fx_at hx 61 (f := .fa (.glo "_law_box"))) s 0,
    df_of X G (fx_at hx 62 (f := .fa (.glo "number_in"))) s 1,
    df_of X G (fx_at hx 63 (f := .fa (.glo "numbers_in"))) s 2,
    df_of X G (fx_at hx 64 (f := .fa (.glo "share_in"))) s 3,
    df_of X G (fx_at hx 65 (f := .fa (.glo "is_word"))) s 4,
    df_of X G (fx_at hx 66 (f := .fa (.glo "words_between"))) s 5,
    df_of X G (fx_at hx 67 (f := .fa (.glo "is_integer"))) s 6,
    df_of X G (fx_at hx 68 (f := .fa (.glo "is_from"))) s 7,
    df_of X G (fx_at hx 69 (f := .fa (.glo "is_number"))) s 8,
    df_of X G (fx_at hx 70 (f := .fa (.glo "wrong_number"))) s 9,
    df_of X G (fx_at hx 71 (f := .fa (.glo "wrong_word"))) s 10,
    ki_of X G (fx_at hx 39 (f := .fa (.glo "Rule"))) (fx_at hx 22 (f := .fa (.cls "Rule"))) (fx_at hx 72 (f := .fa (.mkr "Rule"))) s 11,
    cmd_of (fx_at hx 73 (f := .bo (cmB "Rule" "read"))) s 12,
    df_of X G (fx_at hx 74 (f := .fa (.glo "_law_rule_text"))) s 13,
    df_of X G (fx_at hx 75 (f := .fa (.glo "_law_rule_of"))) s 14,
    df_of X G (fx_at hx 76 (f := .fa (.glo "_law_take"))) s 15,
    df_of X G (fx_at hx 77 (f := .fa (.glo "_law_pick"))) s 16,
    df_of X G (fx_at hx 78 (f := .fa (.glo "_law_rule"))) s 17,
    df_of X G (fx_at hx 79 (f := .fa (.glo "need_goal"))) s 18,
    df_of X G (fx_at hx 80 (f := .fa (.glo "up_to"))) s 19,
    df_of X G (fx_at hx 81 (f := .fa (.glo "least_short"))) s 20,
    md_of (fx_at hx 82 (f := .fa (.meth "Rule" "time"))) s 21,
    df_of X G (fx_at hx 83 (f := .fa (.glo "is_lasting"))) s 22,
    df_of X G (fx_at hx 84 (f := .fa (.glo "is_missable"))) s 23,
    df_of X G (fx_at hx 42 (f := .fa (.glo "numbers"))) s 24,
    df_of X G (fx_at hx 41 (f := .fa (.glo "happens"))) s 25,
    df_of X G (fx_at hx 85 (f := .fa (.glo "begun"))) s 26,
    ki_of X G (fx_at hx 86 (f := .fa (.glo "Builder"))) (fx_at hx 13 (f := .fa (.cls "Builder"))) (fx_at hx 87 (f := .fa (.mkr "Builder"))) s 27,
    md_of (fx_at hx 88 (f := .fa (.meth "Rule" "limit"))) s 28,
    df_of X G (fx_at hx 89 (f := .fa (.glo "come_back"))) s 29,
    df_of X G (fx_at hx 90 (f := .fa (.glo "left_out"))) s 30,
    df_of X G (fx_at hx 91 (f := .fa (.glo "after_ok"))) s 31,
    df_of X G (fx_at hx 92 (f := .fa (.glo "at_try"))) s 32,
    df_of X G (fx_at hx 93 (f := .fa (.glo "after_fault"))) s 33,
    df_of X G (fx_at hx 94 (f := .fa (.glo "after_turn"))) s 34,
    md_of (fx_at hx 95 (f := .fa (.meth "Builder" "is_room"))) s 35,
    md_of (fx_at hx 96 (f := .fa (.meth "Builder" "turn"))) s 36,
    md_of (fx_at hx 97 (f := .fa (.meth "Builder" "leave_out"))) s 37,
    md_of (fx_at hx 98 (f := .fa (.meth "Builder" "leave_out_long"))) s 38,
    df_of X G (fx_at hx 99 (f := .fa (.glo "after_word"))) s 39,
    md_of (fx_at hx 100 (f := .fa (.meth "Builder" "leave_out_missed"))) s 40,
    md_of (fx_at hx 101 (f := .fa (.meth "Builder" "keep"))) s 41,
    df_of X G (fx_at hx 102 (f := .fa (.glo "is_sequence"))) s 42,
    df_of X G (fx_at hx 103 (f := .fa (.glo "event_in"))) s 43,
    df_of X G (fx_at hx 104 (f := .fa (.glo "event_of"))) s 44,
    df_of X G (fx_at hx 105 (f := .fa (.glo "events_of"))) s 45,
    L4.kid_of X G (fx_at hx 106 (f := .fa (.glo "Road"))) (fx_at hx 17 (f := .fa (.cls "Road"))) (fx_at hx 107 (f := .fa (.mkr "Road"))) (fx_at hx 108 (f := .bo (fun K => L4.tup0B K (He.dflAt ("Road", some "__init__") 0 K)))) s 46,
    df_of X G (fx_at hx 43 (f := .fa (.glo "road"))) s 47,
    df_of X G (fx_at hx 109 (f := .fa (.glo "_law_is_let"))) s 48,
    df_of X G (fx_at hx 110 (f := .fa (.glo "_law_any"))) s 49,
    df_of X G (fx_at hx 111 (f := .fa (.glo "law"))) s 50⟩
theorem facts {P : Program} {w : World} {K : PySem.W.Frag} {h : Heap} {mg : Str → Option Value} {f : Addr} (X : K.In h) (G : h.Ns mainGlobals mg) (hfa : mg ("law" : Str) = some (.ref f)) (c : SaysW exs fns htabs w K) :
    ∃ fd : FuncData, (∀ (s : Shared) (v : Value), BindsTo s fd ⟨[v], []⟩ [("_law_script", v)]) ∧ ∀ base : Heap, K.In base → base.Ns mainGlobals mg → FnG P w K mg base CX0 14 f fd ["_law_script"] (spP ⟨P, w, K⟩ 1 F_law) := by
  have T := tx_of X G c
  obtain ⟨f1, fd, F, g⟩ := T.d_law.ex
  have e := hfa.symm.trans g
  cases e
  refine ⟨fd, fun s v => ?_, fun base _ _ => T.law_fn F⟩
  obtain ⟨oc, od, kV, doc, pm, an, cdv, ct, osl, rfl, lk, hcd⟩ := F.ex
  exact .of_eq rfl
end L4
open PySem PySem.W PySem.Calls PyProof.Rows in
set_option maxRecDepth 100000 in
set_option maxHeartbeats 0 in
theorem PySem.Challenge.cw_sitout_k36_values_that_are_no_goals_holds : PySem.Challenge.rw_sitout_k36_values_that_are_no_goals.Holds := by
  refine L4.law_pre fun hs => L4.head_pre hs ?_
  refine L4.walkL (l := PySem.Challenge.rw_sitout_k36_values_that_are_no_goals) (n := 63) (k := 14) (x := "_law_script") (FL := L4.F_law) rfl (by decide) (by kernel_rfl) ⟨rfl, by decide, by decide⟩ L4.law_plain ?F
  intro w mg fa h Y G hmg0
  obtain ⟨K, KX, c⟩ := Y
  have hmg : mg ("law" : PySem.Str) = some (.ref fa) := by
    have e : (HandSHeadRun.topDef (OpenLaw.row PySem.Challenge.rw_sitout_k36_values_that_are_no_goals).prog 63).name = ("law" : PySem.Str) := by kernel_rfl
    rw [← e]
    exact hmg0
  obtain ⟨fd, hb, hF⟩ := L4.facts (P := (PySem.Challenge.rw_sitout_k36_values_that_are_no_goals).prog) (w := w) KX G hmg c
  exact ⟨K, fd, KX, hb, hF⟩
#print axioms PySem.Challenge.cw_sitout_k36_values_that_are_no_goals_holds
